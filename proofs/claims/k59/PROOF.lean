import PyProof.Rows.All
import Wide.All
import OpenK.AllK
import Wide.FinOn
import PyProof.EqAt
import PyProof.EqKinds
import KE.LtData
import KE.DataCmp
import KE.DataMinMax
import KE.SortData
import HandS.ForMost
import HandS.Deep
import KE.DataFind
import KE.DataEq
import PyProof.ReprRoads
import PyProof.EnumMake
import PyProof.Draws
import PyProof.TupleIter
import KE.GoesMore
import KE.KRevIter
import HandS.Walk
import HandS.Zip
import PyProof.TupleCall
import HandS.TupMul
import HandS.TupAny
import HandS.Strs
import HandS.SetFor
import HandS.RevTup
import HandS.Rev
import HandS.Conv
import KE.KExcSuper
import KE.KSuper
import HandS.ExcInit
import HandS.ExcInitHot
import KE.KExcIs
import KE.KIsAll
import HandS.ExcField
import HandS.IsInst
import HandS.ExcIs
import HandS.ExcOwn
import HandS.TryMany
import HandS.HotCalls
import HandS.Gcd
import HandS.Defaults
import HandS.Dict
import HandS.Style
import HandS.Wide
import PySem.Challenge.RW_toldterms_k59_whole_cheapest_members
import HandS.NoneIn
import HandS.Ends
import HandS.HeadEnd
import PyProof.ExcBaseAll.ValueError
import HandS.HeadHook1
import HandS.HeadHook2
import KE.KStateDown
import HandS.Base
import HandS.Call
import HandS.More
import HandS.Words
import HandS.WordsExc
import HandS.Head0
import HandS.Head1
import HandS.Head2
import HandS.Head3
set_option Elab.async false
set_option linter.all false
set_option maxRecDepth 100000
/-! KB1 -/
set_option autoImplicit false
namespace KB
inductive Tm where
  | node (s : Nat) (ts : List Tm) : Tm
structure Row where
  s : Nat
  is : List Nat
  c : Nat
deriving DecidableEq
mutual
def Tm.size : Tm → Nat
  | .node _ ts => 1 + sizes ts
def sizes : List Tm → Nat
  | [] => 0
  | t :: ts => t.size + sizes ts
end
mutual
def Tm.syms : Tm → List Int
  | .node s ts => (s : Int) :: symsL ts
def symsL : List Tm → List Int
  | [] => []
  | t :: ts => t.syms ++ symsL ts
end
mutual
def Tm.cost (co : Nat → Nat) : Tm → Nat
  | .node s ts => co s + costs co ts
def costs (co : Nat → Nat) : List Tm → Nat
  | [] => 0
  | t :: ts => t.cost co + costs co ts
end
mutual
def Tm.depth : Tm → Nat
  | .node _ ts => 1 + depths ts
def depths : List Tm → Nat
  | [] => 0
  | t :: ts => max t.depth (depths ts)
end
mutual
def Tm.beq : Tm → Tm → Bool
  | .node s ts, .node s' ts' => decide (s = s') && beqL ts ts'
def beqL : List Tm → List Tm → Bool
  | [], [] => true
  | t :: ts, t' :: ts' => t.beq t' && beqL ts ts'
  | [], _ :: _ => false
  | _ :: _, [] => false
end
mutual
theorem beq_self : ∀ t : Tm, t.beq t = true
  | .node s ts => by rw [Tm.beq, beqL_self ts]; simp
theorem beqL_self : ∀ ts : List Tm, beqL ts ts = true
  | [] => rfl
  | t :: ts => by rw [beqL, beq_self t, beqL_self ts]; rfl
end
mutual
theorem eq_of_beq : ∀ t u : Tm, t.beq u = true → t = u
  | .node s ts, .node s' ts', h => by
    rw [Tm.beq, Bool.and_eq_true] at h
    rw [of_decide_eq_true h.1, eq_of_beqL ts ts' h.2]
theorem eq_of_beqL : ∀ ts us : List Tm, beqL ts us = true → ts = us
  | [], [], _ => rfl
  | t :: ts, u :: us, h => by
    rw [beqL, Bool.and_eq_true] at h
    rw [eq_of_beq t u h.1, eq_of_beqL ts us h.2]
  | [], _ :: _, h => by rw [beqL] at h; cases h
  | _ :: _, [], h => by rw [beqL] at h; cases h
end
instance : DecidableEq Tm := fun a b => if h : a.beq b = true then .isTrue (eq_of_beq a b h) else .isFalse fun e => h (e ▸ beq_self a)
/-! ### membership -/
mutual
inductive Mem (T : List Row) : Tm → Nat → Prop
  | mk {s : Nat} {is : List Nat} {c : Nat} {ts : List Tm} : (⟨s, is, c⟩ : Row) ∈ T → MemL T ts is → Mem T (.node s ts) c
inductive MemL (T : List Row) : List Tm → List Nat → Prop
  | nil : MemL T [] []
  | cons {t : Tm} {i : Nat} {ts : List Tm} {is : List Nat} : Mem T t i → MemL T ts is → MemL T (t :: ts) (i :: is)
end
theorem MemL.len {T : List Row} : ∀ {ts : List Tm} {is : List Nat}, MemL T ts is → ts.length = is.length
  | _, _, .nil => rfl
  | _, _, .cons _ h => by simp [h.len]
/-- rows are told apart by their symbol and inner classes -/
def Uniq (T : List Row) : Prop := ∀ r ∈ T, ∀ r' ∈ T, r.s = r'.s → r.is = r'.is → r = r'
mutual
theorem Mem.one {T : List Row} (U : Uniq T) : ∀ (t : Tm) (c d : Nat), Mem T t c → Mem T t d → c = d
  | .node s ts, c, d, .mk h1 k1, .mk h2 k2 => by
    have e := MemL.one U ts _ _ k1 k2
    subst e
    have := U _ h1 _ h2 rfl rfl
    injection this
theorem MemL.one {T : List Row} (U : Uniq T) : ∀ (ts : List Tm) (is js : List Nat), MemL T ts is → MemL T ts js → is = js
  | [], _, _, .nil, .nil => rfl
  | t :: ts, _, _, .cons a h, .cons b k => by rw [Mem.one U t _ _ a b, MemL.one U ts _ _ h k]
end
/-! ### size, cost -/
theorem Tm.size_pos (t : Tm) : 1 ≤ t.size := by cases t; rw [Tm.size]; omega
theorem sizes_mem : ∀ {ts : List Tm} {t : Tm}, t ∈ ts → t.size ≤ sizes ts
  | t :: ts, u, h => by
    rw [sizes]
    rcases List.mem_cons.mp h with rfl | h
    · omega
    · have := sizes_mem h; omega
theorem costs_mem (co : Nat → Nat) : ∀ {ts : List Tm} {t : Tm}, t ∈ ts → t.cost co ≤ costs co ts
  | t :: ts, u, h => by
    rw [costs]
    rcases List.mem_cons.mp h with rfl | h
    · omega
    · have := costs_mem co h; omega
mutual
theorem syms_len : ∀ t : Tm, t.syms.length = t.size
  | .node s ts => by rw [Tm.syms, Tm.size, List.length_cons, symsL_len ts]; omega
theorem symsL_len : ∀ ts : List Tm, (symsL ts).length = sizes ts
  | [] => rfl
  | t :: ts => by rw [symsL, sizes, List.length_append, syms_len t, symsL_len ts]
end
mutual
theorem depth_le_size : ∀ t : Tm, t.depth ≤ t.size
  | .node s ts => by rw [Tm.depth, Tm.size]; have := depths_le ts; omega
theorem depths_le : ∀ ts : List Tm, depths ts ≤ sizes ts
  | [] => Nat.le_refl _
  | t :: ts => by rw [depths, sizes]; have := depth_le_size t; have := depths_le ts; have := t.size_pos; omega
end
/-! ### arities; the row of symbols tells the term -/
mutual
inductive Wf (ar : Nat → Nat) : Tm → Prop
  | mk {s : Nat} {ts : List Tm} : ts.length = ar s → WfL ar ts → Wf ar (.node s ts)
inductive WfL (ar : Nat → Nat) : List Tm → Prop
  | nil : WfL ar []
  | cons {t : Tm} {ts : List Tm} : Wf ar t → WfL ar ts → WfL ar (t :: ts)
end
mutual
theorem Mem.wf {T : List Row} {ar : Nat → Nat} (hT : ∀ r ∈ T, r.is.length = ar r.s) : ∀ (t : Tm) (c : Nat), Mem T t c → Wf ar t
  | .node s ts, c, .mk h k => .mk (by rw [k.len]; exact hT _ h) (MemL.wf hT ts _ k)
theorem MemL.wf {T : List Row} {ar : Nat → Nat} (hT : ∀ r ∈ T, r.is.length = ar r.s) : ∀ (ts : List Tm) (is : List Nat), MemL T ts is → WfL ar ts
  | [], _, .nil => .nil
  | t :: ts, _, .cons a h => .cons (Mem.wf hT t _ a) (MemL.wf hT ts _ h)
end
mutual
theorem syms_inj {ar : Nat → Nat} : ∀ (t u : Tm) (a b : List Int), Wf ar t → Wf ar u → t.syms ++ a = u.syms ++ b → t = u ∧ a = b
  | .node s ts, .node s' us, a, b, .mk l1 w1, .mk l2 w2, e => by
    rw [Tm.syms, Tm.syms, List.cons_append, List.cons_append] at e
    injection e with e1 e2
    have e3 : s = s' := by exact Int.ofNat.inj e1
    subst e3
    obtain ⟨h1, h2⟩ := symsL_inj ts us a b w1 w2 (l1.trans l2.symm) e2
    exact ⟨by rw [h1], h2⟩
theorem symsL_inj {ar : Nat → Nat} : ∀ (ts us : List Tm) (a b : List Int), WfL ar ts → WfL ar us → ts.length = us.length → symsL ts ++ a = symsL us ++ b → ts = us ∧ a = b
  | [], [], a, b, _, _, _, e => ⟨rfl, by simpa [symsL] using e⟩
  | t :: ts, u :: us, a, b, .cons w1 k1, .cons w2 k2, hl, e => by
    rw [symsL, symsL, List.append_assoc, List.append_assoc] at e
    obtain ⟨h1, h2⟩ := syms_inj t u _ _ w1 w2 e
    obtain ⟨h3, h4⟩ := symsL_inj ts us a b k1 k2 (by simpa using hl) h2
    exact ⟨by rw [h1, h3], h4⟩
  | [], _ :: _, _, _, _, _, hl, _ => by simp at hl
  | _ :: _, [], _, _, _, _, hl, _ => by simp at hl
end
theorem syms_eq {ar : Nat → Nat} {t u : Tm} (w1 : Wf ar t) (w2 : Wf ar u) (e : t.syms = u.syms) : t = u := (syms_inj t u [] [] w1 w2 (by rw [e])).1
/-! ### rows of whole numbers: core's order -/
theorem lt_tri : ∀ a b : List Int, a < b ∨ a = b ∨ b < a
  | [], [] => .inr (.inl rfl)
  | [], b :: bs => .inl (List.Lex.nil)
  | a :: as, [] => .inr (.inr (List.Lex.nil))
  | a :: as, b :: bs => by
    rcases Int.lt_trichotomy a b with h | h | h
    · exact .inl (List.cons_lt_cons_iff.mpr (.inl h))
    · subst h
      rcases lt_tri as bs with h | h | h
      · exact .inl (List.cons_lt_cons_iff.mpr (.inr ⟨rfl, h⟩))
      · exact .inr (.inl (by rw [h]))
      · exact .inr (.inr (List.cons_lt_cons_iff.mpr (.inr ⟨rfl, h⟩)))
    · exact .inr (.inr (List.cons_lt_cons_iff.mpr (.inl h)))
theorem rlt_irrefl : ∀ a : List Int, ¬ a < a
  | [], h => by cases h
  | a :: as, h => by
    rcases List.cons_lt_cons_iff.mp h with h | ⟨_, h⟩
    · omega
    · exact rlt_irrefl as h
theorem rlt_trans : ∀ {a b c : List Int}, a < b → b < c → a < c
  | [], _, [], h1, h2 => by
    cases h1; cases h2
  | [], _, c :: cs, _, _ => List.Lex.nil
  | a :: as, [], _, h1, _ => by cases h1
  | a :: as, b :: bs, [], _, h2 => by cases h2
  | a :: as, b :: bs, c :: cs, h1, h2 => by
    rcases List.cons_lt_cons_iff.mp h1 with h1 | ⟨e1, h1⟩
    · rcases List.cons_lt_cons_iff.mp h2 with h2 | ⟨e2, h2⟩
      · exact List.cons_lt_cons_iff.mpr (.inl (by omega))
      · exact List.cons_lt_cons_iff.mpr (.inl (by omega))
    · rcases List.cons_lt_cons_iff.mp h2 with h2 | ⟨e2, h2⟩
      · exact List.cons_lt_cons_iff.mpr (.inl (by omega))
      · exact List.cons_lt_cons_iff.mpr (.inr ⟨by omega, rlt_trans h1 h2⟩)
theorem rlt_pre : ∀ (p : List Int) {a b : List Int}, a < b → p ++ a < p ++ b
  | [], _, _, h => h
  | x :: p, _, _, h => List.cons_lt_cons_iff.mpr (.inr ⟨rfl, rlt_pre p h⟩)
/-- of rows of one length, whatever follows -/
theorem rlt_post : ∀ {a b : List Int} (x y : List Int), a.length = b.length → a < b → a ++ x < b ++ y
  | [], [], x, y, _, h => by cases h
  | a :: as, b :: bs, x, y, hl, h => by
    rcases List.cons_lt_cons_iff.mp h with h | ⟨e, h⟩
    · exact List.cons_lt_cons_iff.mpr (.inl h)
    · exact List.cons_lt_cons_iff.mpr (.inr ⟨e, rlt_post x y (by simpa using hl) h⟩)
  | [], _ :: _, _, _, hl, _ => by simp at hl
  | _ :: _, [], _, _, hl, _ => by simp at hl
/-! ### the weak order of terms; big: sizes whose symbols are not looked at -/
/-- key a is at most key b: cost, size, then the row unless the size is great -/
def KLe (big : Nat → Prop) (c n : Nat) (r : List Int) (c' n' : Nat) (r' : List Int) : Prop := c < c' ∨ (c = c' ∧ (n < n' ∨ (n = n' ∧ (big n ∨ r < r' ∨ r = r'))))
section
variable {big : Nat → Prop} {c n c' n' c2 n2 : Nat} {r r' r2 : List Int}
theorem KLe.total : KLe big c n r c' n' r' ∨ KLe big c' n' r' c n r := by
  unfold KLe
  rcases Nat.lt_trichotomy c c' with h | h | h
  · exact .inl (.inl h)
  · rcases Nat.lt_trichotomy n n' with k | k | k
    · exact .inl (.inr ⟨h, .inl k⟩)
    · rcases lt_tri r r' with q | q | q
      · exact .inl (.inr ⟨h, .inr ⟨k, .inr (.inl q)⟩⟩)
      · exact .inl (.inr ⟨h, .inr ⟨k, .inr (.inr q)⟩⟩)
      · exact .inr (.inr ⟨h.symm, .inr ⟨k.symm, .inr (.inl q)⟩⟩)
    · exact .inr (.inr ⟨h.symm, .inl k⟩)
  · exact .inr (.inl h)
theorem KLe.trans (h1 : KLe big c n r c' n' r') (h2 : KLe big c' n' r' c2 n2 r2) : KLe big c n r c2 n2 r2 := by
  unfold KLe at *
  rcases h1 with h1 | ⟨e1, h1⟩
  · rcases h2 with h2 | ⟨e2, _⟩
    · exact .inl (by omega)
    · exact .inl (by omega)
  · rcases h2 with h2 | ⟨e2, h2⟩
    · exact .inl (by omega)
    · refine .inr ⟨by omega, ?_⟩
      rcases h1 with h1 | ⟨f1, h1⟩
      · rcases h2 with h2 | ⟨f2, _⟩
        · exact .inl (by omega)
        · exact .inl (by omega)
      · rcases h2 with h2 | ⟨f2, h2⟩
        · exact .inl (by omega)
        · refine .inr ⟨by omega, ?_⟩
          rcases h1 with h1 | h1 | h1
          · exact .inl h1
          · rcases h2 with h2 | h2 | h2
            · exact .inl (by rw [f1]; exact h2)
            · exact .inr (.inl (rlt_trans h1 h2))
            · exact .inr (.inl (by rw [← h2]; exact h1))
          · rcases h2 with h2 | h2 | h2
            · exact .inl (by rw [f1]; exact h2)
            · exact .inr (.inl (by rw [h1]; exact h2))
            · exact .inr (.inr (h1.trans h2))
/-- both ways: one key -/
theorem KLe.anti (h1 : KLe big c n r c' n' r') (h2 : KLe big c' n' r' c n r) : c = c' ∧ n = n' ∧ (big n ∨ r = r') := by
  unfold KLe at *
  rcases h1 with h1 | ⟨e1, h1⟩
  · rcases h2 with h2 | ⟨e2, _⟩
    · omega
    · omega
  · rcases h2 with h2 | ⟨_, h2⟩
    · omega
    · refine ⟨e1, ?_⟩
      rcases h1 with h1 | ⟨f1, h1⟩
      · rcases h2 with h2 | ⟨f2, _⟩
        · omega
        · omega
      · rcases h2 with h2 | ⟨f2, h2⟩
        · omega
        · refine ⟨f1, ?_⟩
          rcases h1 with h1 | h1 | h1
          · exact .inl h1
          · rcases h2 with h2 | h2 | h2
            · exact .inl (by rw [f1]; exact h2)
            · exact absurd (rlt_trans h1 h2) (rlt_irrefl _)
            · exact .inr h2.symm
          · exact .inr h1
end
def Le (big : Nat → Prop) (co : Nat → Nat) (a b : Tm) : Prop := KLe big (a.cost co) a.size a.syms (b.cost co) b.size b.syms
def Lt (big : Nat → Prop) (co : Nat → Nat) (a b : Tm) : Prop := ¬ Le big co b a
section
variable {big : Nat → Prop} {co : Nat → Nat} {a b c : Tm}
theorem Le.refl (a : Tm) : Le big co a a := .inr ⟨rfl, .inr ⟨rfl, .inr (.inr rfl)⟩⟩
theorem Le.total : Le big co a b ∨ Le big co b a := KLe.total
theorem Le.trans (h1 : Le big co a b) (h2 : Le big co b c) : Le big co a c := KLe.trans h1 h2
theorem Lt.le (h : Lt big co a b) : Le big co a b := (Le.total (a := a) (b := b)).resolve_right h
theorem not_lt (h : ¬ Lt big co a b) : Le big co b a := Classical.byContradiction h
theorem Lt.trans_le (h1 : Lt big co a b) (h2 : Le big co b c) : Lt big co a c := fun q => h1 (h2.trans q)
theorem Le.trans_lt (h1 : Le big co a b) (h2 : Lt big co b c) : Lt big co a c := fun q => h2 (q.trans h1)
theorem Lt.trans (h1 : Lt big co a b) (h2 : Lt big co b c) : Lt big co a c := h1.trans_le h2.le
theorem Lt.irrefl (h : Lt big co a a) : False := h (Le.refl a)
/-- of no big sizes: the one term -/
theorem Le.anti {ar : Nat → Nat} (w1 : Wf ar a) (w2 : Wf ar b) (h1 : Le big co a b) (h2 : Le big co b a) (nb : ¬ big a.size) : a = b :=
  syms_eq w1 w2 ((KLe.anti h1 h2).2.2.resolve_left nb)
/-- looking at less -/
theorem Le.less {big' : Nat → Prop} (i : ∀ n, big n → big' n) (h : Le big co a b) : Le big' co a b := by
  rcases h with h | ⟨e, h | ⟨f, h | h⟩⟩
  · exact .inl h
  · exact .inr ⟨e, .inl h⟩
  · exact .inr ⟨e, .inr ⟨f, .inl (i _ h)⟩⟩
  · exact .inr ⟨e, .inr ⟨f, .inr h⟩⟩
end
/-! ### what is put for inner terms -/
inductive All2 {α β : Type} (R : α → β → Prop) : List α → List β → Prop
  | nil : All2 R [] []
  | cons {a : α} {b : β} {as : List α} {bs : List β} : R a b → All2 R as bs → All2 R (a :: as) (b :: bs)
section
variable {α β : Type} {R S : α → β → Prop}
theorem All2.len {as : List α} {bs : List β} (h : All2 R as bs) : as.length = bs.length := by
  induction h with
  | nil => rfl
  | cons _ _ ih => simp [ih]
theorem All2.imp (i : ∀ a b, R a b → S a b) {as : List α} {bs : List β} (h : All2 R as bs) : All2 S as bs := by
  induction h with
  | nil => exact .nil
  | cons r _ ih => exact .cons (i _ _ r) ih
theorem All2.get {as : List α} {bs : List β} (h : All2 R as bs) : ∀ (k : Nat) (a : α) (b : β), as[k]? = some a → bs[k]? = some b → R a b := by
  induction h with
  | nil => intro k a b e; simp at e
  | cons r _ ih =>
    intro k a b e1 e2
    cases k with
    | zero => simp at e1 e2; subst e1 e2; exact r
    | succ k => exact ih k a b (by simpa using e1) (by simpa using e2)
theorem All2.of_get : ∀ {as : List α} {bs : List β}, as.length = bs.length → (∀ (k : Nat) (a : α) (b : β), as[k]? = some a → bs[k]? = some b → R a b) → All2 R as bs
  | [], [], _, _ => .nil
  | a :: as, b :: bs, hl, h => .cons (h 0 a b rfl rfl) (All2.of_get (by simpa using hl) fun k x y e1 e2 => h (k + 1) x y (by simpa using e1) (by simpa using e2))
  | [], _ :: _, hl, _ => by simp at hl
  | _ :: _, [], hl, _ => by simp at hl
end
theorem All2.refl {α : Type} {R : α → α → Prop} (r : ∀ a, R a a) : ∀ as : List α, All2 R as as
  | [] => .nil
  | a :: as => .cons (r a) (All2.refl r as)
theorem All2.tr {α : Type} {R : α → α → Prop} (t : ∀ a b c, R a b → R b c → R a c) : ∀ {as bs cs : List α}, All2 R as bs → All2 R bs cs → All2 R as cs
  | _, _, _, .nil, .nil => .nil
  | _, _, _, .cons r h, .cons s k => .cons (t _ _ _ r s) (All2.tr t h k)
/-- keys of rows of terms -/
def LeS (big : Nat → Prop) (co : Nat → Nat) (as bs : List Tm) : Prop := KLe big (costs co as) (sizes as) (symsL as) (costs co bs) (sizes bs) (symsL bs)
theorem leS_of {big : Nat → Prop} (up : ∀ n k, big n → n ≤ k → big k) {co : Nat → Nat} {as bs : List Tm} (h : All2 (Le big co) as bs) : LeS big co as bs := by
  induction h with
  | nil => exact .inr ⟨rfl, .inr ⟨rfl, .inr (.inr rfl)⟩⟩
  | @cons a b as bs r _ ih =>
    show KLe big _ _ _ _ _ _
    rw [costs, costs, sizes, sizes, symsL, symsL]
    rcases r with r | ⟨e, r⟩
    · rcases ih with ih | ⟨e', _⟩
      · exact .inl (by omega)
      · exact .inl (by omega)
    · rcases ih with ih | ⟨e', ih⟩
      · exact .inl (by omega)
      · refine .inr ⟨by omega, ?_⟩
        rcases r with r | ⟨f, r⟩
        · rcases ih with ih | ⟨f', _⟩
          · exact .inl (by omega)
          · exact .inl (by omega)
        · rcases ih with ih | ⟨f', ih⟩
          · exact .inl (by omega)
          · refine .inr ⟨by omega, ?_⟩
            rcases r with r | r | r
            · exact .inl (up _ _ r (by omega))
            · exact .inr (.inl (rlt_post _ _ (by rw [syms_len, syms_len]; exact f) r))
            · rcases ih with ih | ih | ih
              · exact .inl (up _ _ ih (by omega))
              · exact .inr (.inl (by rw [r]; exact rlt_pre _ ih))
              · exact .inr (.inr (by rw [r, ih]))
theorem le_node {big : Nat → Prop} (up : ∀ n k, big n → n ≤ k → big k) {co : Nat → Nat} {as bs : List Tm} (s : Nat) (h : All2 (Le big co) as bs) : Le big co (.node s as) (.node s bs) := by
  show KLe big _ _ _ _ _ _
  rw [Tm.cost, Tm.cost, Tm.size, Tm.size, Tm.syms, Tm.syms]
  rcases leS_of up h with h | ⟨e, h | ⟨f, h | h | h⟩⟩
  · exact .inl (by omega)
  · exact .inr ⟨by omega, .inl (by omega)⟩
  · exact .inr ⟨by omega, .inr ⟨by omega, .inl (up _ _ h (by omega))⟩⟩
  · exact .inr ⟨by omega, .inr ⟨by omega, .inr (.inl (List.cons_lt_cons_iff.mpr (.inr ⟨rfl, h⟩)))⟩⟩
  · exact .inr ⟨by omega, .inr ⟨by omega, .inr (.inr (by rw [h]))⟩⟩
/-- an inner term costs less -/
theorem lt_node {big : Nat → Prop} {co : Nat → Nat} (pos : ∀ s, 1 ≤ co s) {s : Nat} {ts : List Tm} {t : Tm} (h : t ∈ ts) : Lt big co t (.node s ts) := fun q => by
  have h1 := costs_mem co h
  have h2 := pos s
  have h3 : (Tm.node s ts).cost co = co s + costs co ts := by rw [Tm.cost]
  rcases q with q | ⟨q, _⟩
  · omega
  · omega
end KB
/-! KB2 -/
set_option autoImplicit false
namespace KB
theorem MemL.all2 {T : List Row} : ∀ {ts : List Tm} {is : List Nat}, MemL T ts is → All2 (Mem T) ts is
  | _, _, .nil => .nil
  | _, _, .cons a h => .cons a h.all2
theorem memL_of {T : List Row} {ts : List Tm} {is : List Nat} (h : All2 (Mem T) ts is) : MemL T ts is := by
  induction h with
  | nil => exact .nil
  | cons r _ ih => exact .cons r ih
/-! ### counting -/
theorem erase_len {α : Type} [DecidableEq α] {x : α} {l : List α} (h : x ∈ l) : (l.erase x).length + 1 = l.length := by
  have := List.length_erase_of_mem h
  have := List.length_pos_of_mem h
  omega
theorem sub_len {α : Type} [DecidableEq α] : ∀ {l m : List α}, l.Nodup → (∀ x ∈ l, x ∈ m) → l.length ≤ m.length
  | [], m, _, _ => Nat.zero_le _
  | x :: l, m, nd, h => by
    have nd' := List.nodup_cons.mp nd
    have hx : x ∈ m := h x List.mem_cons_self
    have ih := sub_len (m := m.erase x) nd'.2 fun y hy => by
      have ne : y ≠ x := fun e => nd'.1 (e ▸ hy)
      exact (List.mem_erase_of_ne ne).mpr (h y (List.mem_cons_of_mem _ hy))
    have := erase_len hx
    rw [List.length_cons]; omega
/-- all rows that take an item of each list -/
def prodL {α : Type} : List (List α) → List (List α)
  | [] => [[]]
  | l :: ls => l.flatMap fun x => (prodL ls).map fun xs => x :: xs
def prods : List Nat → Nat
  | [] => 1
  | n :: ns => n * prods ns
section
variable {α : Type}
theorem mem_prodL : ∀ {ls : List (List α)} {xs : List α}, xs ∈ prodL ls ↔ All2 (fun x l => x ∈ l) xs ls
  | [], xs => by
    constructor
    · intro h
      have e : xs = [] := by simpa [prodL] using h
      rw [e]; exact .nil
    · intro h; cases h; simp [prodL]
  | l :: ls, xs => by
    constructor
    · intro h
      obtain ⟨x, hx, h⟩ := List.mem_flatMap.mp h
      obtain ⟨ys, hy, e⟩ := List.mem_map.mp h
      rw [← e]
      exact .cons hx (mem_prodL.mp hy)
    · intro h
      cases h with
      | cons r k => exact List.mem_flatMap.mpr ⟨_, r, List.mem_map.mpr ⟨_, mem_prodL.mpr k, rfl⟩⟩
theorem prodL_len : ∀ ls : List (List α), (prodL ls).length = prods (ls.map List.length)
  | [] => rfl
  | l :: ls => by
    have e : ∀ m : List α, (m.flatMap fun x => (prodL ls).map fun xs => x :: xs).length = m.length * (prodL ls).length := by
      intro m
      induction m with
      | nil => simp
      | cons x m ih => rw [List.flatMap_cons, List.length_append, ih, List.length_map, List.length_cons, Nat.succ_mul, Nat.add_comm]
    rw [prodL, e, prodL_len ls]; rfl
theorem prodL_nodup : ∀ {ls : List (List α)}, (∀ l ∈ ls, l.Nodup) → (prodL ls).Nodup
  | [], _ => by simp [prodL]
  | l :: ls, h => by
    have ih := prodL_nodup fun m hm => h m (List.mem_cons_of_mem _ hm)
    have hl := h l List.mem_cons_self
    rw [prodL]
    clear h
    induction l with
    | nil => simp
    | cons x l ihl =>
      have hl' := List.nodup_cons.mp hl
      rw [List.flatMap_cons]
      refine List.nodup_append.mpr ⟨?_, ihl hl'.2, ?_⟩
      · rw [List.nodup_iff_pairwise_ne] at ih ⊢
        rw [List.pairwise_map]
        exact ih.imp fun ne e => ne (by injection e)
      · intro a ha b hb e
        subst e
        obtain ⟨ys, _, rfl⟩ := List.mem_map.mp ha
        obtain ⟨y, hy, hb⟩ := List.mem_flatMap.mp hb
        obtain ⟨zs, _, e⟩ := List.mem_map.mp hb
        injection e with e1 e2
        exact hl'.1 (e1 ▸ hy)
end
theorem prods_pos : ∀ {ns : List Nat}, (∀ n ∈ ns, 1 ≤ n) → 1 ≤ prods ns
  | [], _ => Nat.le_refl _
  | n :: ns, h => by
    have h1 := h n List.mem_cons_self
    have h2 := prods_pos fun m hm => h m (List.mem_cons_of_mem _ hm)
    rw [prods]
    exact Nat.mul_pos h1 h2
theorem prods_ge : ∀ {ns : List Nat} {k : Nat}, (∀ n ∈ ns, 1 ≤ n) → k ∈ ns → k ≤ prods ns
  | n :: ns, k, h, hk => by
    have h1 := h n List.mem_cons_self
    have hp := prods_pos fun m hm => h m (List.mem_cons_of_mem _ hm)
    rw [prods]
    rcases List.mem_cons.mp hk with rfl | hk
    · exact Nat.le_mul_of_pos_right _ hp
    · exact Nat.le_trans (prods_ge (fun m hm => h m (List.mem_cons_of_mem _ hm)) hk) (Nat.le_mul_of_pos_left _ h1)
theorem sum_prods : ∀ js : List Nat, js.sum + 1 ≤ prods (js.map (· + 1))
  | [] => Nat.le_refl _
  | j :: js => by
    have ih := sum_prods js
    rw [List.sum_cons, List.map_cons, prods, Nat.add_mul, Nat.one_mul]
    have : j ≤ j * prods (js.map (· + 1)) := Nat.le_mul_of_pos_right _ (by omega)
    omega
/-! ### the state: what is found of each class, the front -/
section
variable (T : List Row) (big : Nat → Prop) (co : Nat → Nat) (m : Nat)
abbrev Fnd := Nat → List Tm
/-- the inner terms stand in what is found, at the places js -/
inductive At (f : Fnd) : List Tm → List Nat → List Nat → Prop
  | nil : At f [] [] []
  | cons {t : Tm} {i j : Nat} {ts : List Tm} {is js : List Nat} : (f i)[j]? = some t → At f ts is js → At f (t :: ts) (i :: is) (j :: js)
/-- they are found -/
abbrev Kids (f : Fnd) (ts : List Tm) (is : List Nat) : Prop := All2 (fun t i => t ∈ f i) ts is
structure Good (f : Fnd) (fr : List (Nat × Tm)) : Prop where
  mem : ∀ c t, t ∈ f c → Mem T t c
  nd : ∀ c, (f c).Nodup
  len : ∀ c, (f c).length ≤ m
  srt : ∀ c, (f c).Pairwise (Le big co)
  down : ∀ c u t, u ∈ f c → Mem T t c → Lt big co t u → t ∈ f c
  kid : ∀ c s ts, Tm.node s ts ∈ f c → ∃ is, (⟨s, is, c⟩ : Row) ∈ T ∧ Kids f ts is
  fmem : ∀ c t, (c, t) ∈ fr → Mem T t c
  fnew : ∀ c t, (c, t) ∈ fr → t ∉ f c
  fkid : ∀ c s ts, (c, Tm.node s ts) ∈ fr → ∃ is, (⟨s, is, c⟩ : Row) ∈ T ∧ Kids f ts is
  fnd : fr.Nodup
  full : ∀ c s is ts js, (⟨s, is, c⟩ : Row) ∈ T → At f ts is js → prods (js.map (· + 1)) ≤ m → Tm.node s ts ∉ f c → (f c).length < m → (c, Tm.node s ts) ∈ fr
end
section
variable {T : List Row} {big : Nat → Prop} {co : Nat → Nat} {m : Nat} {f : Fnd} {fr : List (Nat × Tm)}
theorem At.kids {ts : List Tm} {is js : List Nat} (h : At f ts is js) : Kids f ts is := by
  induction h with
  | nil => exact .nil
  | cons e _ ih => exact .cons (List.mem_of_getElem? e) ih
theorem Kids.at {ts : List Tm} {is : List Nat} (h : Kids f ts is) : ∃ js, At f ts is js := by
  induction h with
  | nil => exact ⟨_, .nil⟩
  | cons e _ ih =>
    obtain ⟨js, k⟩ := ih
    obtain ⟨j, hj⟩ := List.mem_iff_getElem?.mp e
    exact ⟨j :: js, .cons hj k⟩
theorem At.len {ts : List Tm} {is js : List Nat} (h : At f ts is js) : js.length = is.length := by
  induction h with
  | nil => rfl
  | cons _ _ ih => simp [ih]
/-- places of a part without repeats are told -/
theorem At.one (nd : ∀ c, (f c).Nodup) {ts : List Tm} {is js : List Nat} (h : At f ts is js) : ∀ {ks : List Nat}, At f ts is ks → js = ks := by
  induction h with
  | nil => intro ks k; cases k; rfl
  | @cons t i j ts is js e _ ih =>
    intro ks k
    cases k with
    | @cons _ _ k' _ _ _ e' k =>
      rw [ih k]
      have : j = k' := by
        obtain ⟨h1, e1⟩ := List.getElem?_eq_some_iff.mp e
        obtain ⟨h2, e2⟩ := List.getElem?_eq_some_iff.mp e'
        exact (List.getElem_inj (nd i)).mp (e1.trans e2.symm)
      rw [this]
theorem Kids.mem (hm : ∀ c t, t ∈ f c → Mem T t c) {ts : List Tm} {is : List Nat} (h : Kids f ts is) : MemL T ts is := by
  induction h with
  | nil => exact .nil
  | cons e _ ih => exact .cons (hm _ _ e) ih
/-- the rows at or ahead of given places -/
def heads (f : Fnd) : List Nat → List Nat → List (List Tm)
  | i :: is, j :: js => (f i).take (j + 1) :: heads f is js
  | _, _ => []
theorem heads_len {ts : List Tm} {is js : List Nat} (h : At f ts is js) : (heads f is js).map List.length = js.map (· + 1) := by
  induction h with
  | nil => rfl
  | @cons t i j ts is js e _ ih =>
    rw [heads, List.map_cons, List.map_cons, ih, List.length_take]
    have := (List.getElem?_eq_some_iff.mp e).1
    rw [Nat.min_eq_left (by omega)]
theorem heads_nd (nd : ∀ c, (f c).Nodup) : ∀ (is js : List Nat), ∀ l ∈ heads f is js, l.Nodup
  | i :: is, j :: js, l, h => by
    rw [heads] at h
    rcases List.mem_cons.mp h with rfl | h
    · exact (List.take_sublist _ _).nodup (nd i)
    · exact heads_nd nd is js l h
  | [], _, l, h => by simp [heads] at h
  | _ :: _, [], l, h => by simp [heads] at h
theorem pw_get {α : Type} {R : α → α → Prop} (r : ∀ a, R a a) {l : List α} (h : l.Pairwise R) {i j : Nat} {a b : α} (hij : i ≤ j) (ha : l[i]? = some a) (hb : l[j]? = some b) : R a b := by
  obtain ⟨h1, e1⟩ := List.getElem?_eq_some_iff.mp ha
  obtain ⟨h2, e2⟩ := List.getElem?_eq_some_iff.mp hb
  rcases Nat.lt_or_eq_of_le hij with q | q
  · have := List.pairwise_iff_getElem.mp h i j h1 h2 q
    rw [e1, e2] at this
    exact this
  · subst q
    rw [e1] at e2
    rw [e2]; exact r b
theorem heads_at (srt : ∀ c, (f c).Pairwise (Le big co)) {ts : List Tm} {is js : List Nat} (h : At f ts is js) : ∀ {us : List Tm}, us ∈ prodL (heads f is js) →
    ∃ ks, At f us is ks ∧ All2 (Le big co) us ts ∧ ks.sum ≤ js.sum ∧ (ks.sum = js.sum → us = ts) := by
  induction h with
  | nil =>
    intro us hu
    have e : us = [] := by simpa [heads, prodL] using hu
    rw [e]; exact ⟨_, .nil, .nil, Nat.le_refl _, fun _ => rfl⟩
  | @cons t i j ts is js e k ih =>
    intro us hu
    rw [heads] at hu
    cases mem_prodL.mp hu with
    | @cons u _ us _ hu1 hu2 =>
      obtain ⟨ks, a, le, hs, hq⟩ := ih (mem_prodL.mpr hu2)
      obtain ⟨q, hq1⟩ := List.mem_iff_getElem?.mp hu1
      rw [List.getElem?_take] at hq1
      split at hq1
      · rename_i hlt
        refine ⟨q :: ks, .cons hq1 a, .cons (pw_get Le.refl (srt i) (by omega) hq1 e) le, by rw [List.sum_cons, List.sum_cons]; omega, fun z => ?_⟩
        rw [List.sum_cons, List.sum_cons] at z
        have z1 : q = j := by omega
        subst z1
        rw [hq1] at e
        rw [Option.some.inj e, hq (by omega)]
      · cases hq1
theorem heads_self {ts : List Tm} {is js : List Nat} (h : At f ts is js) : ts ∈ prodL (heads f is js) := by
  refine mem_prodL.mpr ?_
  induction h with
  | nil => exact .nil
  | @cons t i j ts is js e _ ih =>
    refine .cons ?_ ih
    refine List.mem_iff_getElem?.mpr ⟨j, ?_⟩
    rw [List.getElem?_take, if_pos (by omega)]
    exact e
theorem node_nodup {s : Nat} {l : List (List Tm)} (h : l.Nodup) : (l.map (Tm.node s)).Nodup := by
  rw [List.nodup_iff_pairwise_ne] at h ⊢
  rw [List.pairwise_map]
  exact h.imp fun ne e => ne (by injection e)
/-- STEP A: what is made of found ones and lies below the front is found, if its class has room -/
theorem settleA (up : ∀ n k, big n → n ≤ k → big k) (G : Good T big co m f fr) {s : Nat} {is : List Nat} {c : Nat} (hr : (⟨s, is, c⟩ : Row) ∈ T) (room : (f c).length < m) {ts : List Tm}
    (low : ∀ e ∈ fr, Lt big co (.node s ts) e.2) : ∀ (n : Nat) (us : List Tm) (js : List Nat), js.sum ≤ n → At f us is js → All2 (Le big co) us ts → Tm.node s us ∈ f c := by
  intro n
  induction n with
  | zero =>
    intro us js hn ha hle
    refine Classical.byContradiction fun no => ?_
    have hp : prods (js.map (· + 1)) = 1 := by
      clear no hle ha
      induction js with
      | nil => rfl
      | cons j js ih =>
        rw [List.sum_cons] at hn
        have e : j = 0 := by omega
        rw [List.map_cons, prods, ih (by omega), e]
    have h1 := G.full c s is us js hr ha (by rw [hp]; omega) no room
    exact (low _ h1).trans_le (le_node up s hle) |>.irrefl
  | succ n ih =>
    intro us js hn ha hle
    refine Classical.byContradiction fun no => ?_
    by_cases hp : prods (js.map (· + 1)) ≤ m
    · have h1 := G.full c s is us js hr ha hp no room
      exact (low _ h1).trans_le (le_node up s hle) |>.irrefl
    · -- the rows ahead: too many
      have nd := node_nodup (s := s) (prodL_nodup (heads_nd G.nd is js))
      have hm := heads_self ha
      have h2 : ((prodL (heads f is js)).map (Tm.node s)).length = prods (js.map (· + 1)) := by
        rw [List.length_map, prodL_len, heads_len ha]
      have h3 : Tm.node s us ∈ (prodL (heads f is js)).map (Tm.node s) := List.mem_map.mpr ⟨us, hm, rfl⟩
      have h4 := erase_len h3
      have h5 := sub_len (l := ((prodL (heads f is js)).map (Tm.node s)).erase (.node s us)) (m := f c) (nd.erase _) fun x hx => by
        have hx1 : x ∈ (prodL (heads f is js)).map (Tm.node s) := List.mem_of_mem_erase hx
        have hx2 : x ≠ .node s us := fun e => by
          rw [e] at hx
          exact (List.Nodup.not_mem_erase nd) hx
        obtain ⟨vs, hv, rfl⟩ := List.mem_map.mp hx1
        obtain ⟨ks, a, le, q, qe⟩ := heads_at G.srt ha hv
        have : ks.sum ≠ js.sum := fun z => hx2 (by rw [qe z])
        exact ih vs ks (by omega) a (All2.tr (R := Le big co) (fun _ _ _ a b => Le.trans a b) le hle)
      omega
/-- for each inner term: itself if it is found, else all that are found of its class -/
def chose (f : Fnd) : List Tm → List Nat → List (List Tm)
  | t :: ts, i :: is => (if t ∈ f i then [t] else f i) :: chose f ts is
  | _, _ => []
theorem chose_ok {f : Fnd} (hm1 : 1 ≤ m) (nd : ∀ c, (f c).Nodup) {ts : List Tm} {is : List Nat} (h : All2 (fun t i => t ∈ f i ∨ ((f i).length = m ∧ ∀ v ∈ f i, Le big co v t)) ts is) :
    (∀ l ∈ chose f ts is, l.Nodup) ∧ (∀ vs ∈ prodL (chose f ts is), Kids f vs is ∧ All2 (Le big co) vs ts) ∧ (∀ n ∈ (chose f ts is).map List.length, 1 ≤ n) ∧ (¬ Kids f ts is → m ≤ prods ((chose f ts is).map List.length)) := by
  induction h with
  | nil =>
    refine ⟨fun l hl => by simp [chose] at hl, fun vs hv => ?_, fun n hn => by simp [chose] at hn, fun q => absurd .nil q⟩
    have e : vs = [] := by simpa [chose, prodL] using hv
    rw [e]; exact ⟨.nil, .nil⟩
  | @cons t i ts is r k ih =>
    obtain ⟨i1, i2, i3, i4⟩ := ih
    by_cases ht : t ∈ f i
    · have e : chose f (t :: ts) (i :: is) = [t] :: chose f ts is := by rw [chose, if_pos ht]
      rw [e]
      refine ⟨fun l hl => ?_, fun vs hv => ?_, fun n hn => ?_, fun q => ?_⟩
      · rcases List.mem_cons.mp hl with rfl | hl
        · simp
        · exact i1 l hl
      · cases mem_prodL.mp hv with
        | cons hx hv =>
          obtain ⟨k1, k2⟩ := i2 _ (mem_prodL.mpr hv)
          have ex := List.mem_singleton.mp hx
          subst ex
          exact ⟨.cons ht k1, .cons (Le.refl _) k2⟩
      · rw [List.map_cons] at hn
        rcases List.mem_cons.mp hn with rfl | hn
        · simp
        · exact i3 n hn
      · rw [List.map_cons, prods]
        have := i4 fun z => q (.cons ht z)
        simpa using this
    · have e : chose f (t :: ts) (i :: is) = f i :: chose f ts is := by rw [chose, if_neg ht]
      obtain ⟨l1, l2⟩ := r.resolve_left ht
      rw [e]
      refine ⟨fun l hl => ?_, fun vs hv => ?_, fun n hn => ?_, fun q => ?_⟩
      · rcases List.mem_cons.mp hl with rfl | hl
        · exact nd i
        · exact i1 l hl
      · cases mem_prodL.mp hv with
        | cons hx hv =>
          obtain ⟨k1, k2⟩ := i2 _ (mem_prodL.mpr hv)
          exact ⟨.cons hx k1, .cons (l2 _ hx) k2⟩
      · rw [List.map_cons] at hn
        rcases List.mem_cons.mp hn with rfl | hn
        · omega
        · exact i3 n hn
      · rw [List.map_cons, prods, l1]
        exact Nat.le_mul_of_pos_right _ (prods_pos i3)
theorem settle (up : ∀ n k, big n → n ≤ k → big k) (pos : ∀ s, 1 ≤ co s) (hm1 : 1 ≤ m) (G : Good T big co m f fr) : ∀ (t : Tm) (c : Nat), Mem T t c → (∀ e ∈ fr, Lt big co t e.2) → t ∈ f c ∨ (f c).length = m := by
  have main : ∀ (n : Nat) (t : Tm) (c : Nat), t.size ≤ n → Mem T t c → (∀ e ∈ fr, Lt big co t e.2) → t ∈ f c ∨ (f c).length = m := by
    intro n
    induction n with
    | zero => intro t c h; have := t.size_pos; omega
    | succ n ih =>
      intro t c hn hm low
      cases hm with
      | @mk s is _ ts hr hk =>
        rcases Nat.lt_or_eq_of_le (G.len c) with room | e
        · left
          -- what is known of the inner terms
          have kids : ∀ (k : Nat) (x : Tm) (i : Nat), ts[k]? = some x → is[k]? = some i → x ∈ f i ∨ ((f i).length = m ∧ ∀ v ∈ f i, Le big co v x) := by
            intro k x i e1 e2
            have hx : x ∈ ts := List.mem_of_getElem? e1
            have lt : Lt big co x (.node s ts) := lt_node pos hx
            have sz : x.size ≤ n := by
              have := sizes_mem hx
              rw [Tm.size] at hn
              omega
            have hxm : Mem T x i := hk.all2.get k x i e1 e2
            rcases ih x i sz hxm (fun e he => lt.trans (low e he)) with h | h
            · exact .inl h
            · by_cases hx : x ∈ f i
              · exact .inl hx
              · exact .inr ⟨h, fun v hv => not_lt fun q => hx (G.down i v x hv hxm q)⟩
          have fits : All2 (fun t i => t ∈ f i ∨ ((f i).length = m ∧ ∀ v ∈ f i, Le big co v t)) ts is := All2.of_get hk.len kids
          by_cases all : Kids f ts is
          · obtain ⟨js, ha⟩ := all.at
            exact settleA up G hr room low js.sum ts js (Nat.le_refl _) ha (All2.refl Le.refl ts)
          · exfalso
            obtain ⟨c1, c2, c3, c4⟩ := chose_ok hm1 G.nd fits
            have nd := node_nodup (s := s) (prodL_nodup c1)
            have h5 := sub_len (l := (prodL (chose f ts is)).map (Tm.node s)) (m := f c) nd fun x hx => by
              obtain ⟨vs, hv, rfl⟩ := List.mem_map.mp hx
              obtain ⟨k1, k2⟩ := c2 vs hv
              obtain ⟨js, ha⟩ := k1.at
              exact settleA up G hr room low js.sum vs js (Nat.le_refl _) ha k2
            rw [List.length_map, prodL_len] at h5
            have := c4 all
            omega
        · exact .inr e
  exact fun t c => main t.size t c (Nat.le_refl _)
end
end KB
/-! KB3 -/
set_option autoImplicit false
namespace KB
section
variable {T : List Row} {big : Nat → Prop} {co : Nat → Nat} {m : Nat} {f : Fnd} {fr : List (Nat × Tm)}
theorem Kids.mono {f' : Fnd} (h : ∀ c t, t ∈ f c → t ∈ f' c) {ts : List Tm} {is : List Nat} (k : Kids f ts is) : Kids f' ts is := All2.imp (fun t c => h c t) k
/-- one more found -/
def addF (f : Fnd) (c : Nat) (u : Tm) : Fnd := fun d => if d = c then f c ++ [u] else f d
theorem addF_same (f : Fnd) (c : Nat) (u : Tm) : addF f c u c = f c ++ [u] := if_pos rfl
theorem addF_ne (f : Fnd) {c d : Nat} (u : Tm) (h : d ≠ c) : addF f c u d = f d := if_neg h
theorem mem_addF {f : Fnd} {c d : Nat} {u t : Tm} : t ∈ addF f c u d ↔ t ∈ f d ∨ (d = c ∧ t = u) := by
  by_cases h : d = c
  · subst h; rw [addF_same]; simp
  · rw [addF_ne f u h]; simp [h]
theorem addF_len (f : Fnd) (c d : Nat) (u : Tm) : (addF f c u d).length = (f d).length + if d = c then 1 else 0 := by
  by_cases h : d = c
  · subst h; rw [addF_same]; simp
  · rw [addF_ne f u h]; simp [h]
/-- places in what is found ahead stay; the new one's place is the last -/
theorem addF_get {f : Fnd} {c d j : Nat} {u t : Tm} : (addF f c u d)[j]? = some t ↔ (f d)[j]? = some t ∨ (d = c ∧ j = (f c).length ∧ t = u) := by
  by_cases h : d = c
  · subst h
    rw [addF_same]
    rcases Nat.lt_trichotomy j (f d).length with q | q | q
    · rw [List.getElem?_append_left q]
      constructor
      · exact .inl
      · rintro (h | ⟨_, h, _⟩)
        · exact h
        · omega
    · subst q
      rw [List.getElem?_append_right (Nat.le_refl _), Nat.sub_self]
      constructor
      · intro h; exact .inr ⟨rfl, rfl, by simpa using h.symm⟩
      · rintro (h | ⟨_, _, h⟩)
        · rw [List.getElem?_eq_none (Nat.le_refl _)] at h; cases h
        · rw [h]; rfl
    · rw [List.getElem?_eq_none (by simp; omega)]
      constructor
      · intro h; cases h
      · rintro (h | ⟨_, h, _⟩)
        · rw [List.getElem?_eq_none (by omega)] at h; cases h
        · omega
  · rw [addF_ne f u h]
    constructor
    · exact .inl
    · rintro (q | ⟨q, _⟩)
      · exact q
      · exact absurd q h
/-- places of inner terms behind an addition: as ahead, or the newest is among them -/
theorem At.split {c : Nat} {u : Tm} {ts : List Tm} {is js : List Nat} (h : At (addF f c u) ts is js) : At f ts is js ∨ ∃ k : Nat, is[k]? = some c ∧ js[k]? = some (f c).length ∧ ts[k]? = some u := by
  induction h with
  | nil => exact .inl .nil
  | @cons t i j ts is js e _ ih =>
    rcases addF_get.mp e with h | ⟨h1, h2, h3⟩
    · rcases ih with ih | ⟨k, a, b, d⟩
      · exact .inl (.cons h ih)
      · exact .inr ⟨k + 1, by simpa using a, by simpa using b, by simpa using d⟩
    · exact .inr ⟨0, by simp [h1], by simp [h2], by simp [h3]⟩
theorem At.mono {c : Nat} {u : Tm} {ts : List Tm} {is js : List Nat} (h : At f ts is js) : At (addF f c u) ts is js := by
  induction h with
  | nil => exact .nil
  | cons e _ ih => exact .cons (addF_get.mpr (.inl e)) ih
/-- the class of the entry is full: it is dropped -/
theorem Good.drop (G : Good T big co m f fr) {c : Nat} {u : Tm} (hfull : (f c).length = m) {fr' : List (Nat × Tm)} (hsub : ∀ e ∈ fr', e ∈ fr) (hnd : fr'.Nodup) (hall : ∀ e ∈ fr, e ≠ (c, u) → e ∈ fr') : Good T big co m f fr' :=
  { G with
    fmem := fun d t h => G.fmem d t (hsub _ h)
    fnew := fun d t h => G.fnew d t (hsub _ h)
    fkid := fun d s ts h => G.fkid d s ts (hsub _ h)
    fnd := hnd
    full := fun d s is ts js h1 h2 h3 h4 h5 => hall _ (G.full d s is ts js h1 h2 h3 h4 h5) fun e => by
      injection e with e1 e2
      subst e1
      omega }
/-- what an entry that the newest makes is -/
def IsNew (T : List Row) (f : Fnd) (c : Nat) (u : Tm) (e : Nat × Tm) : Prop := ∃ (s : Nat) (ts : List Tm) (is : List Nat), e.2 = .node s ts ∧ (⟨s, is, e.1⟩ : Row) ∈ T ∧ Kids (addF f c u) ts is ∧ ∃ k : Nat, is[k]? = some c ∧ ts[k]? = some u
/-- a least entry is found -/
theorem Good.pop (up : ∀ n k, big n → n ≤ k → big k) (pos : ∀ s, 1 ≤ co s) (hm1 : 1 ≤ m) (U : Uniq T) (G : Good T big co m f fr) {c : Nat} {u : Tm} (hu : (c, u) ∈ fr) (hmin : ∀ e ∈ fr, Le big co u e.2) (room : (f c).length < m)
    {fr' : List (Nat × Tm)} (hsub : ∀ e ∈ fr', (e ∈ fr ∧ e ≠ (c, u)) ∨ IsNew T f c u e) (hnd : fr'.Nodup)
    (hold : ∀ e ∈ fr, e ≠ (c, u) → (addF f c u e.1).length < m → e ∈ fr')
    (hnew : ∀ (d s : Nat) (is : List Nat) (ts : List Tm) (js : List Nat), (⟨s, is, d⟩ : Row) ∈ T → At (addF f c u) ts is js → prods (js.map (· + 1)) ≤ m → (∃ k : Nat, is[k]? = some c ∧ js[k]? = some (f c).length ∧ ts[k]? = some u) → (addF f c u d).length < m → (d, Tm.node s ts) ∈ fr') :
    Good T big co m (addF f c u) fr' := by
  have hum := G.fmem c u hu
  have hun := G.fnew c u hu
  have kidm : ∀ d t, t ∈ addF f c u d → Mem T t d := fun d t h => by
    rcases mem_addF.mp h with h | ⟨rfl, rfl⟩
    · exact G.mem d t h
    · exact hum
  have incl : ∀ d t, t ∈ f d → t ∈ addF f c u d := fun d t h => mem_addF.mpr (.inl h)
  refine ⟨kidm, fun d => ?_, fun d => ?_, fun d => ?_, fun d v t hv ht hlt => ?_, fun d s ts h => ?_, fun d t h => ?_, fun d t h => ?_, fun d s ts h => ?_, hnd, fun d s is ts js hr ha hp hno hlen => ?_⟩
  · by_cases h : d = c
    · subst h
      rw [addF_same]
      exact List.nodup_append.mpr ⟨G.nd d, by simp, fun a ha b hb e => by rw [List.mem_singleton.mp hb] at e; subst e; exact hun ha⟩
    · rw [addF_ne f u h]; exact G.nd d
  · rw [addF_len]
    have := G.len d
    split
    · rename_i h; subst h; omega
    · omega
  · by_cases h : d = c
    · subst h
      rw [addF_same]
      refine List.pairwise_append.mpr ⟨G.srt d, by simp, fun a ha b hb => ?_⟩
      rw [List.mem_singleton.mp hb]
      exact not_lt fun q => hun (G.down d a u ha hum q)
    · rw [addF_ne f u h]; exact G.srt d
  · rcases mem_addF.mp hv with hv | ⟨rfl, rfl⟩
    · exact incl _ _ (G.down d v t hv ht hlt)
    · rcases settle up pos hm1 G t d ht (fun e he => hlt.trans_le (hmin e he)) with h | h
      · exact incl _ _ h
      · omega
  · rcases mem_addF.mp h with h | ⟨rfl, rfl⟩
    · obtain ⟨is, h1, h2⟩ := G.kid d s ts h
      exact ⟨is, h1, h2.mono incl⟩
    · obtain ⟨is, h1, h2⟩ := G.fkid d s ts hu
      exact ⟨is, h1, h2.mono incl⟩
  · rcases hsub _ h with ⟨h, _⟩ | ⟨s, ts, is, rfl, hr, hk, _⟩
    · exact G.fmem d t h
    · exact .mk hr (hk.mem kidm)
  · rcases hsub _ h with ⟨h, hne⟩ | ⟨s, ts, is, e, hr, hk, k, hk1, hk2⟩
    · intro q
      rcases mem_addF.mp q with q | ⟨rfl, rfl⟩
      · exact G.fnew d t h q
      · exact hne rfl
    · intro q
      have e : t = .node s ts := e
      subst e
      rcases mem_addF.mp q with q | ⟨_, q⟩
      · obtain ⟨is', hr', hk'⟩ := G.kid d s ts q
        have ei : is' = is := MemL.one U ts _ _ (hk'.mem G.mem) (hk.mem kidm)
        subst ei
        exact hun (hk'.get k u c hk2 hk1)
      · have hx := sizes_mem (List.mem_of_getElem? hk2)
        have : (Tm.node s ts).size = 1 + sizes ts := by rw [Tm.size]
        rw [q] at this
        omega
  · rcases hsub _ h with ⟨h, _⟩ | ⟨s', ts', is, e, hr, hk, _⟩
    · obtain ⟨is, h1, h2⟩ := G.fkid d s ts h
      exact ⟨is, h1, h2.mono incl⟩
    · injection (show Tm.node s ts = Tm.node s' ts' from e) with e1 e2
      subst e1 e2
      exact ⟨is, hr, hk⟩
  · rcases ha.split with ha' | hk
    · have hd : (f d).length < m := by rw [addF_len] at hlen; omega
      have h1 := G.full d s is ts js hr ha' hp (fun q => hno (incl _ _ q)) hd
      refine hold _ h1 (fun e => ?_) hlen
      injection e with e1 e2
      subst e1 e2
      exact hno (mem_addF.mpr (.inr ⟨rfl, rfl⟩))
    · exact hnew d s is ts js hr ha hp hk hlen
/-- the beginning: nothing is found, the rows of plain symbols wait -/
theorem Good.start {fr : List (Nat × Tm)} (hm : ∀ e ∈ fr, ∃ s, e.2 = .node s [] ∧ (⟨s, [], e.1⟩ : Row) ∈ T) (nd : fr.Nodup) (all : ∀ s c, (⟨s, [], c⟩ : Row) ∈ T → (c, Tm.node s []) ∈ fr) : Good T big co m (fun _ => []) fr where
  mem := fun _ _ h => nomatch h
  nd := fun _ => List.nodup_nil
  len := fun _ => Nat.zero_le _
  srt := fun _ => List.Pairwise.nil
  down := fun _ _ _ h => nomatch h
  kid := fun _ _ _ h => nomatch h
  fmem := fun c t h => by
    obtain ⟨s, e, hr⟩ := hm _ h
    have e : t = .node s [] := e
    subst e
    exact .mk hr .nil
  fnew := fun _ _ _ h => nomatch h
  fkid := fun c s ts h => by
    obtain ⟨s', e, hr⟩ := hm _ h
    injection (show Tm.node s ts = Tm.node s' [] from e) with e1 e2
    subst e1 e2
    exact ⟨[], hr, .nil⟩
  fnd := nd
  full := fun c s is ts js hr ha _ _ _ => by
    cases ha with
    | nil => exact all s c hr
    | cons e _ => simp at e
/-! ### the best members of a class -/
structure FP (T : List Row) (big : Nat → Prop) (co : Nat → Nat) (m c : Nat) (l : List Tm) : Prop where
  mem : ∀ t ∈ l, Mem T t c
  nd : l.Nodup
  len : l.length ≤ m
  srt : l.Pairwise (Le big co)
  down : ∀ u t, u ∈ l → Mem T t c → Lt big co t u → t ∈ l
  fin : l.length = m ∨ ∀ t, Mem T t c → t ∈ l
theorem Good.fp_full (G : Good T big co m f fr) {c : Nat} (h : (f c).length = m) : FP T big co m c (f c) := ⟨G.mem c, G.nd c, G.len c, G.srt c, G.down c, .inl h⟩
theorem Good.fp_end (up : ∀ n k, big n → n ≤ k → big k) (pos : ∀ s, 1 ≤ co s) (hm1 : 1 ≤ m) (G : Good T big co m f []) (c : Nat) : FP T big co m c (f c) := by
  refine ⟨G.mem c, G.nd c, G.len c, G.srt c, G.down c, ?_⟩
  by_cases h : (f c).length = m
  · exact .inl h
  · exact .inr fun t ht => (settle up pos hm1 G t c ht (fun e he => nomatch he)).resolve_right h
variable {c : Nat} {l l' : List Tm}
theorem FP.take (F : FP T big co m c l) {k : Nat} (hk : k ≤ m) : FP T big co k c (l.take k) := by
  refine ⟨fun t h => F.mem t (List.mem_of_mem_take h), (List.take_sublist _ _).nodup F.nd, by rw [List.length_take]; omega, F.srt.sublist (List.take_sublist _ _), fun u t hu ht hlt => ?_, ?_⟩
  · have h1 := F.down u t (List.mem_of_mem_take hu) ht hlt
    obtain ⟨i, hi⟩ := List.mem_iff_getElem?.mp hu
    obtain ⟨j, hj⟩ := List.mem_iff_getElem?.mp h1
    rw [List.getElem?_take] at hi
    split at hi
    · rename_i hik
      have hjk : j < k := by
        refine Classical.byContradiction fun q => ?_
        have := pw_get Le.refl F.srt (show i ≤ j by omega) hi hj
        exact hlt this
      refine List.mem_iff_getElem?.mpr ⟨j, ?_⟩
      rw [List.getElem?_take, if_pos hjk]
      exact hj
    · cases hi
  · by_cases h : k ≤ l.length
    · exact .inl (by rw [List.length_take]; omega)
    · have e : l.take k = l := List.take_of_length_le (by omega)
      rw [e]
      exact .inr (F.fin.resolve_left (by omega))
/-- looking at less of the symbols -/
theorem FP.less {big' : Nat → Prop} (i : ∀ n, big n → big' n) (F : FP T big co m c l) : FP T big' co m c l :=
  ⟨F.mem, F.nd, F.len, F.srt.imp fun h => h.less i, fun u t hu ht hlt => F.down u t hu ht fun q => hlt (q.less i), F.fin⟩
theorem FP.lens (F : FP T big co m c l) (F' : FP T big co m c l') : l.length ≤ l'.length := by
  rcases F'.fin with h | h
  · have := F.len; omega
  · exact sub_len F.nd fun x hx => h x (F.mem x hx)
theorem FP.le_at (F : FP T big co m c l) (F' : FP T big co m c l') {i : Nat} {a b : Tm} (ha : l[i]? = some a) (hb : l'[i]? = some b) : Le big co b a := by
  refine Classical.byContradiction fun q => ?_
  have hlt : Lt big co a b := q
  have h5 := sub_len (l := l.take (i + 1)) (m := l'.take i) ((List.take_sublist _ _).nodup F.nd) fun x hx => by
    obtain ⟨j, hj⟩ := List.mem_iff_getElem?.mp hx
    rw [List.getElem?_take] at hj
    split at hj
    · rename_i hji
      have h1 : Le big co x a := pw_get Le.refl F.srt (by omega) hj ha
      have h2 : Lt big co x b := h1.trans_lt hlt
      have h3 : x ∈ l' := F'.down b x (List.mem_of_getElem? hb) (F.mem x (List.mem_of_getElem? hj)) h2
      obtain ⟨k, hk⟩ := List.mem_iff_getElem?.mp h3
      have hki : k < i := by
        refine Classical.byContradiction fun z => ?_
        exact h2 (pw_get Le.refl F'.srt (show i ≤ k by omega) hb hk)
      refine List.mem_iff_getElem?.mpr ⟨k, ?_⟩
      rw [List.getElem?_take, if_pos hki]
      exact hk
    · cases hj
  rw [List.length_take, List.length_take] at h5
  have := (List.getElem?_eq_some_iff.mp ha).1
  omega
/-- two lists of the best of one class: place by place of one key; alike where no size is great -/
theorem FP.same {ar : Nat → Nat} (hT : ∀ r ∈ T, r.is.length = ar r.s) (F : FP T big co m c l) (F' : FP T big co m c l') : All2 (fun a b => a.size = b.size ∧ (big a.size ∨ a = b)) l l' := by
  refine All2.of_get (Nat.le_antisymm (F.lens F') (F'.lens F)) fun i a b ha hb => ?_
  have h1 := F.le_at F' ha hb
  have h2 := F'.le_at F hb ha
  obtain ⟨_, h3, h4⟩ := KLe.anti h2 h1
  refine ⟨h3, ?_⟩
  rcases h4 with h4 | h4
  · exact .inl h4
  · exact .inr (syms_eq (Mem.wf hT a c (F.mem a (List.mem_of_getElem? ha))) (Mem.wf hT b c (F'.mem b (List.mem_of_getElem? hb))) h4)
theorem FP.ne (hm1 : 1 ≤ m) (F : FP T big co m c l) {t : Tm} (h : Mem T t c) : l ≠ [] := fun e => by
  rcases F.fin with q | q
  · rw [e] at q; simp at q; omega
  · have := q t h; rw [e] at this; cases this
end
end KB
/-! KB4 -/
set_option autoImplicit false
namespace KB
section
variable {T : List Row} {big : Nat → Prop} {co : Nat → Nat} {m : Nat} {f : Fnd} {fr : List (Nat × Tm)}
/-- how many are made of found ones at or ahead of its inner terms' places: no more than are found ahead of it, and it -/
theorem Good.rank (up : ∀ n k, big n → n ≤ k → big k) (pos : ∀ s, 1 ≤ co s) (hm1 : 1 ≤ m) {ar : Nat → Nat} (hT : ∀ r ∈ T, r.is.length = ar r.s) (nb : ∀ n, ¬ big n) (G : Good T big co m f fr) {c s : Nat} {ts : List Tm} {is js : List Nat} (hu : (c, Tm.node s ts) ∈ fr) (hmin : ∀ e ∈ fr, Le big co (.node s ts) e.2) (room : (f c).length < m)
    (hr : (⟨s, is, c⟩ : Row) ∈ T) (ha : At f ts is js) : prods (js.map (· + 1)) ≤ (f c).length + 1 := by
  have nd := node_nodup (s := s) (prodL_nodup (heads_nd G.nd is js))
  have h2 : ((prodL (heads f is js)).map (Tm.node s)).length = prods (js.map (· + 1)) := by rw [List.length_map, prodL_len, heads_len ha]
  have h3 : Tm.node s ts ∈ (prodL (heads f is js)).map (Tm.node s) := List.mem_map.mpr ⟨ts, heads_self ha, rfl⟩
  have h4 := erase_len h3
  have h5 := sub_len (l := ((prodL (heads f is js)).map (Tm.node s)).erase (.node s ts)) (m := f c) (nd.erase _) fun x hx => by
    have hx1 : x ∈ (prodL (heads f is js)).map (Tm.node s) := List.mem_of_mem_erase hx
    have hx2 : x ≠ .node s ts := fun e => by
      rw [e] at hx
      exact (List.Nodup.not_mem_erase nd) hx
    obtain ⟨vs, hv, rfl⟩ := List.mem_map.mp hx1
    obtain ⟨ks, a, le, _, _⟩ := heads_at G.srt ha hv
    have hmem : Mem T (.node s vs) c := .mk hr (a.kids.mem G.mem)
    have hlt : Lt big co (.node s vs) (.node s ts) := fun q => hx2 (Le.anti (Mem.wf hT _ c hmem) (Mem.wf hT _ c (G.fmem _ _ hu)) (le_node up s le) q (nb _))
    rcases settle up pos hm1 G _ c hmem (fun e he => hlt.trans_le (hmin e he)) with h | h
    · exact h
    · omega
  omega
end
/-! ### how many are found -/
def tot (f : Fnd) (n : Nat) : Nat := ((List.range n).map fun c => (f c).length).sum
def nes (f : Fnd) (n : Nat) : Nat := ((List.range n).map fun c => if f c = [] then 0 else 1).sum
theorem sum_add (g h : Nat → Nat) (c : Nat) (hc : h c = g c + 1) : ∀ n, (∀ d, d ≠ c → h d = g d) → c < n → ((List.range n).map h).sum = ((List.range n).map g).sum + 1 := by
  intro n
  induction n with
  | zero => intro _ h; omega
  | succ n ih =>
    intro hd hn
    rw [List.range_succ, List.map_append, List.map_append, List.sum_append, List.sum_append]
    simp only [List.map_cons, List.map_nil, List.sum_cons, List.sum_nil]
    by_cases e : c = n
    · subst e
      have : ((List.range c).map h) = ((List.range c).map g) := List.map_congr_left fun d hd' => hd d (by have := List.mem_range.mp hd'; omega)
      rw [this, hc]; omega
    · have := ih hd (by omega)
      rw [this, hd n (fun z => e z.symm)]; omega
theorem sum_same (g h : Nat → Nat) : ∀ n, (∀ d, h d = g d) → ((List.range n).map h).sum = ((List.range n).map g).sum := fun n e => by
  rw [show h = g from funext e]
theorem tot_add {f : Fnd} {c n : Nat} {u : Tm} (hc : c < n) : tot (addF f c u) n = tot f n + 1 :=
  sum_add _ _ c (by rw [addF_len, if_pos rfl]) n (fun d hd => by rw [addF_len, if_neg hd]; rfl) hc
theorem nes_new {f : Fnd} {c n : Nat} {u : Tm} (hc : c < n) (h : f c = []) : nes (addF f c u) n = nes f n + 1 :=
  sum_add _ _ c (by rw [addF_same, h]; simp) n (fun d hd => by rw [addF_ne f u hd]) hc
theorem nes_old {f : Fnd} {c n : Nat} {u : Tm} (h : f c ≠ []) : nes (addF f c u) n = nes f n :=
  sum_same _ _ n fun d => by
    by_cases e : d = c
    · subst e; rw [addF_same]; simp [h]
    · rw [addF_ne f u e]
theorem sum_le (g : Nat → Nat) (k : Nat) : ∀ n, (∀ d, g d ≤ k) → ((List.range n).map g).sum ≤ n * k := by
  intro n h
  induction n with
  | zero => simp
  | succ n ih =>
    rw [List.range_succ, List.map_append, List.sum_append, Nat.succ_mul]
    simp only [List.map_cons, List.map_nil, List.sum_cons, List.sum_nil]
    have := h n
    omega
theorem tot_le {f : Fnd} {n m : Nat} (h : ∀ c, (f c).length ≤ m) : tot f n ≤ n * m := sum_le _ m n h
theorem nes_le {f : Fnd} {n : Nat} : nes f n ≤ n := by
  have := sum_le (fun c => if f c = [] then 0 else 1) 1 n fun d => by
    show (if f d = [] then 0 else 1) ≤ 1
    split <;> omega
  unfold nes; omega
theorem tot_pos {f : Fnd} {n c : Nat} (hc : c < n) : (f c).length ≤ tot f n := by
  unfold tot
  induction n with
  | zero => omega
  | succ n ih =>
    rw [List.range_succ, List.map_append, List.sum_append]
    simp only [List.map_cons, List.map_nil, List.sum_cons, List.sum_nil]
    by_cases e : c = n
    · subst e; omega
    · have := ih (by omega); omega
/-- the greatest size of a term of so many levels -/
def full (A : Nat) : Nat → Nat
  | 0 => 0
  | k + 1 => 1 + A * full A k
theorem full_mono (A : Nat) : ∀ {a b : Nat}, a ≤ b → full A a ≤ full A b
  | 0, _, _ => Nat.zero_le _
  | a + 1, 0, h => by omega
  | a + 1, b + 1, h => by
    rw [full, full]
    have := Nat.mul_le_mul_left A (full_mono A (show a ≤ b by omega))
    omega
theorem sizes_le {k : Nat} : ∀ {ts : List Tm}, (∀ t ∈ ts, t.size ≤ k) → sizes ts ≤ ts.length * k
  | [], _ => by rw [sizes]; omega
  | t :: ts, h => by
    rw [sizes, List.length_cons, Nat.succ_mul]
    have h1 := h t List.mem_cons_self
    have h2 := sizes_le fun u hu => h u (List.mem_cons_of_mem _ hu)
    omega
theorem depths_max {k : Nat} : ∀ {ts : List Tm}, (∀ t ∈ ts, t.depth ≤ k) → depths ts ≤ k
  | [], _ => by rw [depths]; omega
  | t :: ts, h => by
    rw [depths]
    have h1 := h t List.mem_cons_self
    have h2 := depths_max fun u hu => h u (List.mem_cons_of_mem _ hu)
    omega
/-- no found term is too great -/
structure SB (A M n : Nat) (f : Fnd) : Prop where
  sz : ∀ c (i : Nat) u, (f c)[i]? = some u → u.size ≤ 3 * M * tot f n * i + M
  s0 : ∀ c u, (f c)[0]? = some u → u.size ≤ full A (nes f n)
  dp : ∀ c u, u ∈ f c → u.depth ≤ tot f n
theorem at_sizes {f : Fnd} {b M : Nat} (h : ∀ c (i : Nat) u, (f c)[i]? = some u → u.size ≤ b * i + M) {ts : List Tm} {is js : List Nat} (ha : At f ts is js) : sizes ts ≤ b * js.sum + M * ts.length := by
  induction ha with
  | nil => rw [sizes]; omega
  | @cons t i j ts is js e _ ih =>
    have := h _ _ _ e
    rw [sizes, List.sum_cons, List.length_cons, Nat.mul_add, Nat.mul_add]
    omega
theorem at_zero {f : Fnd} {b : Nat} (h : ∀ c u, (f c)[0]? = some u → u.size ≤ b) {ts : List Tm} {is js : List Nat} (ha : At f ts is js) (hj : js.sum = 0) : ∀ t ∈ ts, t.size ≤ b := by
  induction ha with
  | nil => intro t h; cases h
  | @cons t i j ts is js e _ ih =>
    rw [List.sum_cons] at hj
    intro x hx
    rcases List.mem_cons.mp hx with rfl | hx
    · have : j = 0 := by omega
      subst this
      exact h _ _ e
    · exact ih (by omega) x hx
theorem SB.start (A M n : Nat) : SB A M n (fun _ => []) := ⟨fun c i u h => by simp at h, fun c u h => by simp at h, fun c u h => nomatch h⟩
theorem SB.pop {T : List Row} {big : Nat → Prop} {co : Nat → Nat} {m : Nat} {f : Fnd} {fr : List (Nat × Tm)} {A M n : Nat} (hA : A ≤ 3) (hM : full A n ≤ M) (hM1 : 1 ≤ M) (up : ∀ n k, big n → n ≤ k → big k) (pos : ∀ s, 1 ≤ co s) (hm1 : 1 ≤ m) {ar : Nat → Nat} (hT : ∀ r ∈ T, r.is.length = ar r.s) (har : ∀ r ∈ T, r.is.length ≤ A) (hcl : ∀ r ∈ T, r.c < n) (nb : ∀ n, ¬ big n)
    (G : Good T big co m f fr) (B : SB A M n f) {c : Nat} {u : Tm} (hu : (c, u) ∈ fr) (hmin : ∀ e ∈ fr, Le big co u e.2) (room : (f c).length < m) : SB A M n (addF f c u) := by
  obtain ⟨s, ts⟩ := u
  obtain ⟨is, hr, hk⟩ := G.fkid c s ts hu
  obtain ⟨js, ha⟩ := hk.at
  have hcn : c < n := hcl _ hr
  have hlen : ts.length ≤ A := by rw [hk.len]; exact har _ hr
  have hrank := G.rank up pos hm1 hT nb hu hmin room hr ha
  have hsum := sum_prods js
  have ht := tot_add (f := f) (u := .node s ts) hcn
  have hsz : (Tm.node s ts).size = 1 + sizes ts := by rw [Tm.size]
  have hdep : (Tm.node s ts).depth = 1 + depths ts := by rw [Tm.depth]
  have hall : ∀ (c' : Nat) v, v ∈ f c' → c' < n ∨ True := fun _ _ _ => .inr trivial
  refine ⟨fun d i v h => ?_, fun d v h => ?_, fun d v h => ?_⟩
  · rw [ht]
    rcases addF_get.mp h with h | ⟨rfl, rfl, rfl⟩
    · have h1 := B.sz d i v h
      have h2 : 3 * M * tot f n * i ≤ 3 * M * (tot f n + 1) * i := Nat.mul_le_mul_right _ (Nat.mul_le_mul_left _ (by omega))
      omega
    · by_cases h0 : (f d).length = 0
      · -- the first of its class
        have hj : js.sum = 0 := by omega
        have hz : ∀ t ∈ ts, t.size ≤ full A (nes f n) := at_zero B.s0 ha hj
        have h1 := sizes_le hz
        have hd0 : f d = [] := List.length_eq_zero_iff.mp h0
        have h2 := nes_new (f := f) (u := .node s ts) hcn hd0
        have h3 : nes f n + 1 ≤ n := by rw [← h2]; exact nes_le
        have h4 : full A (nes f n + 1) ≤ full A n := full_mono A h3
        rw [full] at h4
        have h5 : ts.length * full A (nes f n) ≤ A * full A (nes f n) := Nat.mul_le_mul_right _ hlen
        rw [hsz]
        omega
      · have h1 := at_sizes (b := 3 * M * tot f n) (M := M) (f := f) B.sz ha
        have h2 : M * ts.length ≤ M * 3 := Nat.mul_le_mul_left _ (by omega)
        have h3 : 3 * M * tot f n * js.sum ≤ 3 * M * tot f n * (f d).length := Nat.mul_le_mul_left _ (by omega)
        have h4 : 3 * M * (tot f n + 1) * (f d).length = 3 * M * tot f n * (f d).length + 3 * M * (f d).length := by rw [Nat.mul_add, Nat.add_mul, Nat.mul_one]
        have h5 : 3 * M * 1 ≤ 3 * M * (f d).length := Nat.mul_le_mul_left _ (by omega)
        rw [hsz, h4]
        omega
  · rcases addF_get.mp h with h | ⟨rfl, h0, rfl⟩
    · have h1 := B.s0 d v h
      by_cases hd0 : f c = []
      · rw [nes_new hcn hd0]
        exact Nat.le_trans h1 (full_mono A (by omega))
      · rw [nes_old hd0]; exact h1
    · have hd0 : f d = [] := List.length_eq_zero_iff.mp h0.symm
      rw [nes_new hcn hd0, full, hsz]
      have hj : js.sum = 0 := by omega
      have hz : ∀ t ∈ ts, t.size ≤ full A (nes f n) := at_zero B.s0 ha hj
      have h1 := sizes_le hz
      have h5 : ts.length * full A (nes f n) ≤ A * full A (nes f n) := Nat.mul_le_mul_right _ hlen
      omega
  · rw [ht]
    rcases mem_addF.mp h with h | ⟨rfl, rfl⟩
    · have := B.dp d v h; omega
    · rw [hdep]
      have : depths ts ≤ tot f n := depths_max fun t hx => by
        obtain ⟨k, hk1⟩ := List.mem_iff_getElem?.mp hx
        have hkl := (List.getElem?_eq_some_iff.mp hk1).1
        have hil : k < is.length := by rw [← hk.len]; exact hkl
        exact B.dp _ t (hk.get k t _ hk1 (List.getElem?_eq_getElem hil))
      omega
/-- all of it, in plain numbers -/
theorem SB.all {A M n m : Nat} {f : Fnd} (B : SB A M n f) (hl : ∀ c, (f c).length ≤ m) {c : Nat} {u : Tm} (h : u ∈ f c) : u.size ≤ 3 * M * (n * m) * m + M ∧ u.depth ≤ n * m := by
  obtain ⟨i, hi⟩ := List.mem_iff_getElem?.mp h
  have h1 := B.sz c i u hi
  have h2 := (List.getElem?_eq_some_iff.mp hi).1
  have h3 := hl c
  have h4 : tot f n ≤ n * m := tot_le hl
  have h5 : 3 * M * tot f n * i ≤ 3 * M * (n * m) * m := Nat.mul_le_mul (Nat.mul_le_mul_left _ h4) (by omega)
  have h6 := B.dp c u h
  omega
/-! a size for each class that its rows keep -/
mutual
theorem Mem.weight {T : List Row} (z : Nat → Nat) (h : ∀ r ∈ T, 1 + (r.is.map z).sum ≤ z r.c) : ∀ (t : Tm) (c : Nat), Mem T t c → t.size ≤ z c
  | .node s ts, c, .mk (is := is) hr hk => by
    have h1 : 1 + (is.map z).sum ≤ z c := h _ hr
    have h2 := MemL.weight z h ts _ hk
    rw [Tm.size]
    exact Nat.le_trans (by omega) h1
theorem MemL.weight {T : List Row} (z : Nat → Nat) (h : ∀ r ∈ T, 1 + (r.is.map z).sum ≤ z r.c) : ∀ (ts : List Tm) (is : List Nat), MemL T ts is → sizes ts ≤ (is.map z).sum
  | [], _, .nil => Nat.le_refl _
  | t :: ts, _, .cons a k => by
    rw [sizes, List.map_cons, List.sum_cons]
    have := Mem.weight z h t _ a
    have := MemL.weight z h ts _ k
    omega
end
end KB
/-! KH -/
set_option autoImplicit false
namespace KH
section
variable {α : Type} {lt : α → α → Bool}
/-- b is not below a -/
abbrev Le (lt : α → α → Bool) (a b : α) : Prop := lt b a = false
abbrev par (i : Nat) : Nat := (i - 1) / 2
def swp (l : List α) (i j : Nat) (x y : α) : List α := (l.set i y).set j x
theorem swp_perm {l : List α} {i j : Nat} {x y : α} (hi : l[i]? = some x) (hj : l[j]? = some y) : (swp l i j x y).Perm l := by
  obtain ⟨h1, e1⟩ := List.getElem?_eq_some_iff.mp hi
  obtain ⟨h2, e2⟩ := List.getElem?_eq_some_iff.mp hj
  subst e1 e2
  exact List.set_set_perm h1 h2
theorem swp_len (l : List α) (i j : Nat) (x y : α) : (swp l i j x y).length = l.length := by simp [swp]
theorem swp_get {l : List α} {i j : Nat} {x y : α} (hi : i < l.length) (hj : j < l.length) (k : Nat) : (swp l i j x y)[k]? = if k = j then some x else if k = i then some y else l[k]? := by
  unfold swp
  rw [List.getElem?_set, List.getElem?_set]
  by_cases h1 : j = k
  · subst h1; simp [hj]
  · have h1' : ¬ k = j := fun e => h1 e.symm
    rw [if_neg h1, if_neg h1']
    by_cases h2 : i = k
    · subst h2; simp [hi]
    · have h2' : ¬ k = i := fun e => h2 e.symm
      rw [if_neg h2, if_neg h2']
theorem swp_comm (l : List α) {i j : Nat} (h : i ≠ j) (x y : α) : swp l i j x y = swp l j i y x := by
  unfold swp
  exact List.set_comm _ _ h
def Hpd (lt : α → α → Bool) (l : List α) : Prop := ∀ (i : Nat) (a b : α), 0 < i → l[par i]? = some a → l[i]? = some b → Le lt a b
structure Up (lt : α → α → Bool) (l : List α) (p : Nat) : Prop where
  lt_ : p < l.length
  h1 : ∀ (i : Nat) (a b : α), 0 < i → i ≠ p → l[par i]? = some a → l[i]? = some b → Le lt a b
  h2 : ∀ (i : Nat) (a b : α), 0 < p → 0 < i → par i = p → l[par p]? = some a → l[i]? = some b → Le lt a b
structure Dn (lt : α → α → Bool) (l : List α) (p : Nat) : Prop where
  lt_ : p < l.length
  h1 : ∀ (i : Nat) (a b : α), 0 < i → i ≠ p → par i ≠ p → l[par i]? = some a → l[i]? = some b → Le lt a b
  h2 : ∀ (i : Nat) (a b : α), 0 < p → 0 < i → par i = p → l[par p]? = some a → l[i]? = some b → Le lt a b
theorem Up.stop {l : List α} {p : Nat} (U : Up lt l p) (h : p = 0 ∨ ∀ a b, l[par p]? = some a → l[p]? = some b → Le lt a b) : Hpd lt l := fun i a b hi ha hb => by
  by_cases e : i = p
  · subst e
    rcases h with h | h
    · omega
    · exact h a b ha hb
  · exact U.h1 i a b hi e ha hb
theorem Up.step (tr : ∀ a b c, Le lt a b → Le lt b c → Le lt a c) (as : ∀ a b, lt a b = true → lt b a = false) {l : List α} {p : Nat} (U : Up lt l p) (hp : 0 < p) {x w : α} (hx : l[p]? = some x) (hw : l[par p]? = some w) (hl : lt x w = true) : Up lt (swp l p (par p) x w) (par p) := by
  have hpl := U.lt_
  have hql : par p < l.length := by unfold par; omega
  have hne : par p ≠ p := by unfold par; omega
  refine ⟨by rw [swp_len]; exact hql, fun i a b hi hip ha hb => ?_, fun i a b hq hi hpi ha hb => ?_⟩
  · rw [swp_get hpl hql] at ha hb
    rw [if_neg hip] at hb
    by_cases e1 : i = p
    · -- w at p, x above it
      subst e1
      rw [if_pos rfl] at ha hb
      cases ha; cases hb
      exact as _ _ hl
    · rw [if_neg e1] at hb
      by_cases e2 : par i = par p
      · rw [if_pos e2] at ha
        cases ha
        exact tr _ w _ (as _ _ hl) (U.h1 i w b hi e1 (by rw [e2]; exact hw) hb)
      · rw [if_neg e2] at ha
        by_cases e3 : par i = p
        · rw [if_pos e3] at ha
          cases ha
          exact U.h2 i w b hp hi e3 hw hb
        · rw [if_neg e3] at ha
          exact U.h1 i a b hi e1 ha hb
  · have hpp : par (par p) ≠ par p := by unfold par at hq ⊢; omega
    have hpp2 : par (par p) ≠ p := by unfold par at hq ⊢; omega
    have hip : i ≠ par p := by
      intro e; subst e; exact hpp hpi
    rw [swp_get hpl hql, if_neg hpp, if_neg hpp2] at ha
    rw [swp_get hpl hql, if_neg hip] at hb
    have h0 : Le lt a w := U.h1 (par p) a w hq hne ha hw
    by_cases e1 : i = p
    · rw [if_pos e1] at hb; cases hb; exact h0
    · rw [if_neg e1] at hb
      exact tr _ w _ h0 (U.h1 i w b hi e1 (by rw [hpi]; exact hw) hb)
theorem Dn.leaf {l : List α} {p : Nat} (D : Dn lt l p) (h : l.length / 2 ≤ p) : Up lt l p := by
  have none : ∀ (i : Nat) (b : α), 0 < i → par i = p → l[i]? = some b → False := fun i b hi e hb => by
    have := (List.getElem?_eq_some_iff.mp hb).1
    unfold par at e; omega
  refine ⟨D.lt_, fun i a b hi hip ha hb => ?_, fun i a b hp hi e ha hb => (none i b hi e hb).elim⟩
  by_cases e : par i = p
  · exact (none i b hi e hb).elim
  · exact D.h1 i a b hi hip e ha hb
theorem Dn.step (tr : ∀ a b c, Le lt a b → Le lt b c → Le lt a c) {l : List α} {p c : Nat} (D : Dn lt l p) (hc0 : 0 < c) (hcp : par c = p) {v y : α} (hv : l[p]? = some v) (hy : l[c]? = some y) (hmin : ∀ (i : Nat) (b : α), 0 < i → par i = p → l[i]? = some b → Le lt y b) : Dn lt (swp l c p y v) c := by
  have hcl := (List.getElem?_eq_some_iff.mp hy).1
  have hpl := D.lt_
  have hne : p ≠ c := by unfold par at hcp; omega
  refine ⟨by rw [swp_len]; exact hcl, fun i a b hi hic hpi ha hb => ?_, fun i a b hc hi hpi ha hb => ?_⟩
  · rw [swp_get hcl hpl] at ha hb
    rw [if_neg hpi] at ha
    by_cases e1 : i = p
    · rw [if_pos e1] at hb
      have e3 : y = b := Option.some.inj hb
      have e2 : par i ≠ p := by subst e1; unfold par; omega
      rw [if_neg e2] at ha
      rw [← e3]
      exact D.h2 c a y (by omega) hc0 hcp (by rw [← e1]; exact ha) hy
    · rw [if_neg e1, if_neg hic] at hb
      by_cases e2 : par i = p
      · rw [if_pos e2] at ha
        cases ha
        exact hmin i b hi e2 hb
      · rw [if_neg e2] at ha
        exact D.h1 i a b hi e1 e2 ha hb
  · rw [swp_get hcl hpl] at ha hb
    have hic : i ≠ c := by intro e; subst e; unfold par at hpi; omega
    have hip : i ≠ p := by intro e; subst e; unfold par at hpi hcp; omega
    rw [hcp, if_pos rfl] at ha
    have e3 : y = a := Option.some.inj ha
    rw [if_neg hip, if_neg hic] at hb
    rw [← e3]
    exact D.h1 i y b hi hip (by rw [hpi]; exact hne.symm) (by rw [hpi]; exact hy) hb
/-- a new last item -/
theorem Up.push {l : List α} (h : Hpd lt l) (x : α) : Up lt (l ++ [x]) l.length := by
  refine ⟨by simp, fun i a b hi hne ha hb => ?_, fun i a b hp hi e ha hb => ?_⟩
  · have := (List.getElem?_eq_some_iff.mp hb).1
    simp only [List.length_append, List.length_cons, List.length_nil] at this
    have hil : i < l.length := by omega
    rw [List.getElem?_append_left hil] at hb
    rw [List.getElem?_append_left (by unfold par; omega)] at ha
    exact h i a b hi ha hb
  · have := (List.getElem?_eq_some_iff.mp hb).1
    simp only [List.length_append, List.length_cons, List.length_nil] at this
    unfold par at e; omega
/-- the last item in the first one's place -/
theorem Dn.pop {l : List α} {y : α} (h : Hpd lt (l ++ [y])) (hl : 0 < l.length) : Dn lt (l.set 0 y) 0 := by
  refine ⟨by simpa using hl, fun i a b hi hne hp ha hb => ?_, fun i a b hp => by omega⟩
  have hil := (List.getElem?_eq_some_iff.mp hb).1
  rw [List.length_set] at hil
  rw [List.getElem?_set_ne (by omega)] at hb
  rw [List.getElem?_set_ne (by omega)] at ha
  refine h i a b hi ?_ ?_
  · rw [List.getElem?_append_left (by unfold par; omega)]; exact ha
  · rw [List.getElem?_append_left hil]; exact hb
/-- the first one is least -/
theorem Hpd.least (tr : ∀ a b c, Le lt a b → Le lt b c → Le lt a c) (rf : ∀ a, Le lt a a) {l : List α} (h : Hpd lt l) {x : α} (hx : l[0]? = some x) : ∀ (i : Nat) (b : α), l[i]? = some b → Le lt x b := by
  intro i
  induction i using Nat.strongRecOn with
  | _ i ih =>
    intro b hb
    by_cases h0 : i = 0
    · subst h0; rw [hx] at hb; cases hb; exact rf x
    · have hil := (List.getElem?_eq_some_iff.mp hb).1
      have hpl : par i < l.length := by unfold par; omega
      exact tr _ _ _ (ih (par i) (by unfold par; omega) _ (List.getElem?_eq_getElem hpl)) (h i _ b (by omega) (List.getElem?_eq_getElem hpl) hb)
theorem Hpd.nil : Hpd lt ([] : List α) := fun i a b _ _ hb => by simp at hb
theorem Hpd.one (x : α) : Hpd lt [x] := fun i a b hi _ hb => by
  have := (List.getElem?_eq_some_iff.mp hb).1
  simp at this; omega
end
end KH
/-! KR1 -/
set_option maxHeartbeats 1000000
/-! rules over data at any depth that the room allows -/
namespace R59
open PySem PySem.Spec PyProof.Rows L2
/-! ### data of tuples alone: stands while the tuples stand -/
mutual
def flatD : PyData → Bool
  | .list _ => false
  | .dict _ => false
  | .tuple ds => flatDs ds
  | .none => true
  | .bool _ => true
  | .int _ => true
  | .str _ => true
def flatDs : List PyData → Bool
  | [] => true
  | d :: ds => flatD d && flatDs ds
end
/-- the tuples of H stand in H' -/
def Tps (K : PySem.W.Frag) (H H' : Hp) : Prop := ∀ a xs, SqT K H a xs → SqT K H' a xs
theorem Tps.refl (K : PySem.W.Frag) (H : Hp) : Tps K H H := fun _ _ h => h
theorem Tps.trans {K : PySem.W.Frag} {H H1 H2 : Hp} (a : Tps K H H1) (b : Tps K H1 H2) : Tps K H H2 := fun x y h => b x y (a x y h)
theorem Tps.of {K : PySem.W.Frag} {H H' : Hp} (h1 : ∀ b xs, H b = some (.tup xs) → H' b = some (.tup xs)) (h2 : ∀ b o u, H b = some (.frz o u) → H' b = some (.frz o u)) : Tps K H H' := fun a xs h => by
  rcases h with (h | ⟨o, h⟩) | h
  · exact .inl (.inl (h1 _ _ h))
  · exact .inl (.inr ⟨o, h2 _ _ _ h⟩)
  · exact .inr h
theorem Tps.same {K : PySem.W.Frag} {H H' : Hp} (h : Same H H') : Tps K H H' := .of (fun _ _ e => h _ _ e) fun _ _ _ e => h _ _ e
theorem Tps.new {K : PySem.W.Frag} {H : Hp} {p : Addr} {o : HO} (h : H p = none) : Tps K H (upd H p o) := .same fun b u e => by rw [upd_ne (ne_of_none e h)]; exact e
/-- a list, a dict, an instance is changed -/
theorem Tps.mut {K : PySem.W.Frag} {H : Hp} {p : Addr} {o u : HO} (h : H p = some u) (m : Mut (some u)) : Tps K H (upd H p o) :=
  .of (fun b xs e => by
    rw [upd_ne fun z => ?_]
    · exact e
    · subst z; rw [h] at e; cases e; exact m) fun b o' u' e => by
    rw [upd_ne fun z => ?_]
    · exact e
    · subst z; rw [h] at e; cases e; exact m
end R59
namespace L2
open PySem PySem.Spec PyProof.Rows R59
mutual
theorem Dp.tps {K : PySem.W.Frag} {H H' : Hp} (t : Tps K H H') : ∀ (d : PyData) (v : V), flatD d = true → Dp K H v d → Dp K H' v d
  | .none, _, _, h => by cases h; exact .non
  | .bool _, _, _, h => by cases h; exact .bl _
  | .int _, _, _, h => by cases h; exact .int _
  | .str _, _, _, h => by cases h; exact .str _
  | .list _, _, f, _ => by rw [flatD] at f; cases f
  | .dict _, _, f, _ => by rw [flatD] at f; cases f
  | .tuple ds, _, f, h => by
    cases h with
    | tup hs ha => exact .tup (t _ _ hs) (DpAll.tps t ds _ (by rw [flatD] at f; exact f) ha)
theorem DpAll.tps {K : PySem.W.Frag} {H H' : Hp} (t : Tps K H H') : ∀ (ds : List PyData) (vs : List V), flatDs ds = true → DpAll K H vs ds → DpAll K H' vs ds
  | [], _, _, h => by cases h; exact .nil
  | d :: ds, _, f, h => by
    rw [flatDs, Bool.and_eq_true] at f
    cases h with
    | cons a b => exact .cons (Dp.tps t d _ f.1 a) (DpAll.tps t ds _ f.2 b)
end
theorem DpAll.len {K : PySem.W.Frag} {H : Hp} : ∀ {vs : List V} {ds : List PyData}, DpAll K H vs ds → vs.length = ds.length
  | _, _, .nil => rfl
  | _, _, .cons _ h => by simp [DpAll.len h]
theorem DpAll.get {K : PySem.W.Frag} {H : Hp} : ∀ {vs : List V} {ds : List PyData} {i : Nat} {d : PyData}, DpAll K H vs ds → ds[i]? = some d → ∃ v, vs[i]? = some v ∧ Dp K H v d
  | _, _, _, _, .nil, e => by simp at e
  | _, _, 0, _, .cons h _, e => by simp at e; subst e; exact ⟨_, rfl, h⟩
  | _, _, i + 1, d, .cons _ h, e => by
    obtain ⟨v, e1, e2⟩ := DpAll.get (i := i) (d := d) h (by simpa using e)
    exact ⟨v, by simpa using e1, e2⟩
theorem DpAll.get' {K : PySem.W.Frag} {H : Hp} {vs : List V} {ds : List PyData} {i : Nat} {v : V} (h : DpAll K H vs ds) (e : vs[i]? = some v) : ∃ d, ds[i]? = some d ∧ Dp K H v d := by
  have h1 := (List.getElem?_eq_some_iff.mp e).1
  obtain ⟨v', e1, e2⟩ := h.get (List.getElem?_eq_getElem (by rw [← h.len]; exact h1))
  rw [e] at e1
  rw [Option.some.inj e1]
  exact ⟨_, List.getElem?_eq_getElem _, e2⟩
theorem DpAll.app {K : PySem.W.Frag} {H : Hp} : ∀ {vs ws : List V} {ds es : List PyData}, DpAll K H vs ds → DpAll K H ws es → DpAll K H (vs ++ ws) (ds ++ es)
  | _, _, _, _, .nil, h => h
  | _, _, _, _, .cons a b, h => .cons a (DpAll.app b h)
theorem DpAll.ints {K : PySem.W.Frag} {H : Hp} : ∀ ns : List Int, DpAll K H (ns.map V.int) (ns.map PyData.int)
  | [] => .nil
  | n :: ns => .cons (.int n) (DpAll.ints ns)
/-- what reads as whole numbers is these -/
theorem DpAll.of_ints {K : PySem.W.Frag} {H : Hp} : ∀ {ns : List Int} {vs : List V}, DpAll K H vs (ns.map PyData.int) → vs = ns.map V.int
  | [], _, h => by cases h; rfl
  | n :: ns, _, h => by
    cases h with
    | cons a b => cases a; rw [DpAll.of_ints b]; rfl
theorem Dp.tupOf {K : PySem.W.Frag} {H : Hp} {v : V} {ds : List PyData} (h : Dp K H v (.tuple ds)) : ∃ a xs, v = .ref a ∧ SqT K H a xs ∧ DpAll K H xs ds := by
  cases h with
  | tup hs ha => exact ⟨_, _, rfl, hs, ha⟩
theorem Dp.intOf {K : PySem.W.Frag} {H : Hp} {v : V} {i : Int} (h : Dp K H v (.int i)) : v = .int i := by cases h; rfl
theorem Dp.tupInts {K : PySem.W.Frag} {H : Hp} {v : V} {ns : List Int} (h : Dp K H v (.tuple (ns.map .int))) : ∃ a, v = .ref a ∧ SqT K H a (ns.map V.int) := by
  obtain ⟨a, xs, e, hs, ha⟩ := Dp.tupOf h
  rw [DpAll.of_ints ha] at hs
  exact ⟨a, e, hs⟩
end L2
namespace R59
open PySem PySem.Spec PyProof.Rows L2
theorem sqT_one {K : PySem.W.Frag} {H : Hp} {a : Addr} {xs ys : List V} (h : H a = some (.tup xs)) (k : H a = some (.tup ys)) : xs = ys := by
  rw [h] at k; cases k; rfl
/-! ### < == != -/
def rLtD (K : PySem.W.Frag) : R2 := fun x y H Q => ∃ d e, Dp K H x d ∧ Dp K H y e ∧ PySem.W.alike d e = true ∧ d ≠ .none ∧ min d.depth e.depth ≤ 180 ∧ Q (.bl (PySem.W.dataLt d e)) H
def rGtD (K : PySem.W.Frag) : R2 := fun x y H Q => ∃ d e, Dp K H x d ∧ Dp K H y e ∧ PySem.W.alike d e = true ∧ d ≠ .none ∧ min d.depth e.depth ≤ 180 ∧ Q (.bl (PySem.W.dataLt e d)) H
def rEqA (K : PySem.W.Frag) : R2 := fun x y H Q => ∃ d e, Dp K H x d ∧ Dp K H y e ∧ d.canLay0 = true ∧ e.canLay0 = true ∧ min d.depth e.depth ≤ 180 ∧ Q (.bl (PyData.eqv d e)) H
def rNeA (K : PySem.W.Frag) : R2 := fun x y H Q => ∃ d e, Dp K H x d ∧ Dp K H y e ∧ d.canLay0 = true ∧ e.canLay0 = true ∧ min d.depth e.depth ≤ 180 ∧ Q (.bl (!PyData.eqv d e)) H
def rInT (K : PySem.W.Frag) : R2 := fun x y H Q => ∃ d ds, Dp K H x d ∧ Dp K H y (.tuple ds) ∧ SeqAt.shaped d = true ∧ SeqAt.shaped (.tuple ds) = true ∧ Q (.bl (ds.any fun z => PyData.eqv z d)) H
section
variable {X : Cx}
theorem op_ltD (hu : X.A.units + 190 < cLine) : OpR X (compareOp .Lt) (rLtD X.K) := by
  intro pins s σ H x y v u Q I rx ry h
  obtain ⟨d, e, hd, he, al, nn, dp, q⟩ := h
  obtain ⟨as, r1⟩ := Dp.reads I d x v hd rx
  obtain ⟨bs, r2⟩ := Dp.reads I e y u he ry
  exact PySem.W.lt_data r1 r2 al nn (by omega) ⟨.bl _, H, I, rfl, q⟩
theorem op_gtD (hu : X.A.units + 190 < cLine) : OpR X (compareOp .Gt) (rGtD X.K) := by
  intro pins s σ H x y v u Q I rx ry h
  obtain ⟨d, e, hd, he, al, nn, dp, q⟩ := h
  obtain ⟨as, r1⟩ := Dp.reads I d x v hd rx
  obtain ⟨bs, r2⟩ := Dp.reads I e y u he ry
  exact PySem.W.gt_data r1 r2 al nn (by omega) ⟨.bl _, H, I, rfl, q⟩
theorem op_eqA (hu : X.A.units + 190 < cLine) : OpR X (compareOp .Eq) (rEqA X.K) := by
  intro pins s σ H x y v u Q I rx ry h
  obtain ⟨d, e, hd, he, c1, c2, dp, q⟩ := h
  obtain ⟨as, r1⟩ := Dp.reads I d x v hd rx
  obtain ⟨bs, r2⟩ := Dp.reads I e y u he ry
  exact SeqAt.compareEq_reads r1 r2 c1 c2 (by omega) ⟨.bl _, H, I, rfl, q⟩
theorem op_neA (hu : X.A.units + 190 < cLine) : OpR X (compareOp .NotEq) (rNeA X.K) := by
  intro pins s σ H x y v u Q I rx ry h
  obtain ⟨d, e, hd, he, c1, c2, dp, q⟩ := h
  obtain ⟨as, r1⟩ := Dp.reads I d x v hd rx
  obtain ⟨bs, r2⟩ := Dp.reads I e y u he ry
  exact SeqAt.compareNe_reads r1 r2 c1 c2 (by omega) ⟨.bl _, H, I, rfl, q⟩
theorem op_inT (hu : X.A.units + 190 < cLine) : OpR X (compareOp .In) (rInT X.K) := by
  intro pins s σ H x y v u Q I rx ry h
  obtain ⟨d, ds, hd, he, sd, se, q⟩ := h
  obtain ⟨as, r1⟩ := Dp.reads I d x v hd rx
  obtain ⟨bs, r2⟩ := Dp.reads I (.tuple ds) y u he ry
  exact SeqAt.in_tuple_reads r2 r1 (SeqAt.canLay_of_shaped se) (SeqAt.canLay_of_shaped sd) (room_in_shaped sd (by omega)) ⟨.bl _, H, I, rfl, q⟩
end
/-! ### sorted, min, remove -/
/-- what is known of values, told of their V -/
theorem vals_of_each {K : PySem.W.Frag} {H : Hp} : ∀ {out : List Value} {ds : List PyData}, PySem.W.EachIs (fun v d => ∃ x, RelV x v ∧ Dp K H x d) out ds → ∃ xs, Vals xs out ∧ DpAll K H xs ds
  | _, _, .nil => ⟨[], .nil, .nil⟩
  | _, _, .cons ⟨x, r, d⟩ h => by
    obtain ⟨xs, r', d'⟩ := vals_of_each h
    exact ⟨x :: xs, .cons r r', .cons d d'⟩
theorem each_of_vals {K : PySem.W.Frag} {H : Hp} : ∀ {xs : List V} {out : List Value} {ds : List PyData}, Vals xs out → DpAll K H xs ds → PySem.W.EachIs (fun v d => ∃ x, RelV x v ∧ Dp K H x d) out ds
  | _, _, _, .nil, .nil => .nil
  | _, _, _, .cons r h, .cons d k => .cons ⟨_, r, d⟩ (each_of_vals h k)
theorem each_reads {X : Cx} {pins : List (Addr × Obj)} {σ : L2.St} {H : Hp} {s : Shared} (I : Inv X pins σ H s) : ∀ {out : List Value} {ds : List PyData}, PySem.W.EachIs (fun v d => ∃ x, RelV x v ∧ Dp X.K H x d) out ds → PySem.W.EachIs (fun v d => ∃ as, Reads s.heap v d as) out ds
  | _, _, .nil => .nil
  | _, _, .cons ⟨x, r, d⟩ h => .cons (Dp.reads I _ x _ d r) (each_reads I h)
theorem map_id' : ∀ ds : List PyData, ds.map id = ds := fun ds => by simp
def rSortedD (K : PySem.W.Frag) : List V → Hp → VK → Prop := fun vs H Q => ∃ (a : Addr) (xs : List V) (ds : List PyData), vs = [V.ref a] ∧ SqL K H a xs ∧ DpAll K H xs ds ∧ PySem.W.AllAlike ds ∧ PySem.W.Sortable ds ∧ (∀ d ∈ ds, d.depth ≤ 180) ∧
  ∀ (p : Addr) (ys : List V), H p = none → DpAll K H ys (ds.mergeSort (PySem.W.dataLe false id)) → Q (.ref p) (upd H p (.lst ys))
section
variable {X : Cx}
theorem cr_sortedD (hu : X.A.units + 190 < cLine) : CallR X (.builtin "sorted") (rSortedD X.K) := by
  intro pins s σ H vs us Q I r h
  obtain ⟨a, xs, ds, rfl, hs, hd, al, so, dp, q⟩ := h
  obtain ⟨its, rv, hl, hz⟩ := I.list hs
  rw [Vals.ref1 r]
  have e := each_of_vals rv hd
  have hn : ds.length = its.length := by rw [← rv.length, hd.len]
  refine PySem.W.sorted_data (enc := id) (R := fun v d => ∃ x, RelV x v ∧ Dp X.K H x d) hl.isList e (each_reads I e) (by rw [map_id']; exact al) (by rw [map_id']; exact so) (by rw [← hd.len]; exact hz) (fun d hd' => by have := dp d hd'; show X.A.units + 2 + d.depth < cLine; omega) fun out ho h1 => ?_
  obtain ⟨ys, r1, d1⟩ := vals_of_each h1
  obtain ⟨ep, he'⟩ := PyProof.Rows.sortedAll_at s.heap its out.toArray
  have hlen : ys.length ≤ sizeLine := by rw [r1.length, ho, ← hd.len]; exact hz
  exact ⟨.ref _, upd H (s.heap.objs.size + 1) (.lst ys), I.laid (t' := s.toks) (fun _ _ => PyProof.Rows.sortedAll_old) (Nat.le_succ _) ⟨hlen, out, ep, r1, he'⟩, rfl, q _ _ (I.hok.fresh (Nat.le_succ _)) d1⟩
end
theorem minD_mem : ∀ (d : PyData) (ds : List PyData), PySem.W.minD d ds ∈ d :: ds := fun d ds => by
  unfold PySem.W.minD
  induction ds generalizing d with
  | nil => simp
  | cons e ds ih =>
    rw [List.foldl_cons]
    have h := ih (if PySem.W.dataLt e d then e else d)
    rcases List.mem_cons.mp h with h | h
    · rw [h]
      split
      · exact List.mem_cons_of_mem _ List.mem_cons_self
      · exact List.mem_cons_self
    · exact List.mem_cons_of_mem _ (List.mem_cons_of_mem _ h)
def rMinD (K : PySem.W.Frag) : List V → Hp → VK → Prop := fun vs H Q => ∃ (a : Addr) (xs : List V) (d : PyData) (ds : List PyData), vs = [V.ref a] ∧ SqL K H a xs ∧ DpAll K H xs (d :: ds) ∧ PySem.W.AlikeAll (d :: ds) ∧ PyData.depthAll (d :: ds) ≤ 180 ∧
  ∀ (i : Nat) (x : V), xs[i]? = some x → Dp K H x (PySem.W.minD d ds) → Q x H
section
variable {X : Cx}
theorem cr_minD (hc : X.calm = true) (hu : X.A.units + 190 < cLine) : CallR X (.builtin "min") (rMinD X.K) := by
  intro pins s σ H vs us Q I r h
  obtain ⟨a, xs, d, ds, rfl, hs, hd, al, dp, q⟩ := h
  obtain ⟨its, rv, hl, hz⟩ := I.list hs
  rw [Vals.ref1 r]
  obtain ⟨as, hr⟩ := Dp.readsAll I _ _ its hd rv
  refine PySem.W.min_list_data (I.ok.hd hc) hl.isList (by simpa using hr) al (by omega) fun i v h' tk bs hi hrd hk => ?_
  have hi' : its[i]? = some v := by simpa using hi
  have hlt := (List.getElem?_eq_some_iff.mp hi').1
  have hxl : i < xs.length := by rw [rv.length]; exact hlt
  have hx : xs[i]? = some xs[i] := List.getElem?_eq_getElem hxl
  obtain ⟨u, hu1, hu2⟩ := rv.get hx
  rw [hi'] at hu1
  cases hu1
  refine ⟨xs[i], H, I.kept hk, hu2, q i _ hx ?_⟩
  obtain ⟨e, he1, he2⟩ := hd.get' hx
  obtain ⟨cs, hrd2⟩ := Dp.reads (I.kept (t' := tk) hk) e _ v he2 hu2
  have em : e ∈ d :: ds := List.mem_of_getElem? he1
  have mm : PySem.W.minD d ds ∈ d :: ds := minD_mem d ds
  rw [← PySem.W.alike_unique e _ v cs bs (al.1 e em _ mm) hrd2 hrd]
  exact he2
end
end R59
/-! KR2 -/
set_option maxHeartbeats 1000000
namespace R59
open PySem PySem.Spec PyProof.Rows L2
open AutoSeq1 (wpAny_loadPart')
/-- tuples whose first difference stands at m -/
theorem tup_lt_first (l b : Addr) (us ws : Array Value) (n n2 : Nat) (dd dd2 : Option Addr) (sl sl2 : Array (Option Value)) (m : Nat) (r : Bool) (m1 : m < us.size) (m2 : m < ws.size) :
    Meets (Builtin.«tuple.__lt__» ⟨[.ref l, .ref b], []⟩) (fun A R s =>
        s.heap.get? l = some { cls := .type "tuple", dict := dd, data := .seq us n, slots := sl } ∧
        s.heap.get? b = some { cls := .type "tuple", dict := dd2, data := .seq ws n2, slots := sl2 } ∧
        (∀ j (h1 : j < us.size) (h2 : j < ws.size), j < m → SeqAt.EqAt A.in1 s us[j] ws[j] true) ∧ SeqAt.EqAt A.in1 s us[m] ws[m] false ∧ SeqAt.RcLt A.in1 s us[m] ws[m] r ∧ R (.ok (.ret (.bool r))) s) :=
  .of_wp fun prog w A R s h => by
    obtain ⟨hp, g, d, tk, os⟩ := s
    obtain ⟨hl, hb, he, hm, hr, h⟩ := h
    have f2 := AutoSeq1.sub_tuple_tuple
    have zl : (us.toList.zip ws.toList).length = min us.size ws.size := by simp
    wp_walk using wpAny_loadPart' hl, wpAny_loadPart' hb, wpAny_forIn_list _ (fun rest b s' => b.1 = none ∧ s' = ⟨hp, g, d, tk, os⟩ ∧ ∃ i, i ≤ m ∧ rest = (us.toList.zip ws.toList).drop i) _
    case turn =>
      rintro ⟨y, x⟩ rest b s' ⟨hb', rfl, i, him, hz⟩
      have ilt : i < (us.toList.zip ws.toList).length := by omega
      have i1 : i < us.size := by omega
      have i2 : i < ws.size := by omega
      rw [List.drop_eq_getElem_cons ilt] at hz
      injection hz with hyx hrest
      have ey : y = us[i] := by have := congrArg Prod.fst hyx; simpa using this
      have ex : x = ws[i] := by have := congrArg Prod.snd hyx; simpa using this
      subst ey ex
      by_cases hlt : i < m
      · refine wpAny_bind (he i i1 i2 hlt prog w _ _ ?_)
        wp_walk
        exact ⟨rfl, rfl, i + 1, by omega, hrest⟩
      · have e : i = m := by omega
        subst e
        refine wpAny_bind (hm prog w _ _ ?_)
        dsimp only
        rw [if_pos (show (!false) = true from rfl)]
        refine wpAny_bind (wpAny_rule ?_)
        refine wpAny_bind (hr prog w _ _ ?_)
        wp_walk
        exact ⟨_, rfl, h⟩
    case fin =>
      rintro ⟨b1, b2⟩ s' ⟨hb', rfl, i, him, hz⟩
      have : (us.toList.zip ws.toList).length ≤ i := by
        rcases Nat.lt_or_ge i (us.toList.zip ws.toList).length with q | q
        · rw [List.drop_eq_getElem_cons q] at hz; cases hz
        · exact q
      omega
    case h => exact ⟨rfl, rfl, 0, Nat.zero_le _, rfl⟩
/-- the same as a comparison -/
theorem rcLt_first {A : Around} {s : Shared} {l b : Addr} {us ws : Array Value} {m : Nat} {r : Bool} (hl : s.heap.IsTuple l us) (hb : s.heap.IsTuple b ws) (hu : A.units < cLine) (m1 : m < us.size) (m2 : m < ws.size)
    (he : ∀ j (h1 : j < us.size) (h2 : j < ws.size), j < m → SeqAt.EqAt A.in1 s us[j] ws[j] true) (hm : SeqAt.EqAt A.in1 s us[m] ws[m] false) (hr : SeqAt.RcLt A.in1 s us[m] ws[m] r) : SeqAt.RcLt A s (.ref l) (.ref b) r := fun prog w E Q h => by
  obtain ⟨⟨c1, d1, t1, sl⟩, ho, hc, n, hd⟩ := id hl
  obtain ⟨⟨c2, d2, t2, sl2⟩, ho2, hc2, n2, hd2⟩ := id hb
  simp only at hc hd hc2 hd2
  subst hc hd hc2 hd2
  exact PySem.richCompare_meets_room (op := .Lt) ⟨_, ho, rfl⟩ ⟨_, ho2, rfl⟩ PySem.F.slot_tuple_lt PySem.F.entry_tuple_lt (PySem.F.args_tuple_lt_2 _ _) (tup_lt_first l b us ws n n2 d1 d2 sl sl2 m r m1 m2)
    ⟨ho, ho2, he, hm, hr, show Value.bool r ≠ Value.notImplemented ∧ Q (.bool r) s from ⟨(fun x => nomatch x), h⟩⟩ hu
/-- what waits: cost, size, symbols, number, class, term -/
structure Ent where
  c : Int
  n : Int
  r : List Int
  k : Int
  own : Int
  t : PyData
def entD (e : Ent) : PyData := .tuple [.int e.c, .int e.n, .tuple (e.r.map .int), .int e.k, .int e.own, e.t]
def entLt (a b : Ent) : Bool := decide (a.c < b.c ∨ (a.c = b.c ∧ (a.n < b.n ∨ (a.n = b.n ∧ (a.r < b.r ∨ (a.r = b.r ∧ a.k < b.k))))))
theorem ints_eqv : ∀ a b : List Int, PyData.eqvAll (a.map .int) (b.map .int) = decide (a = b)
  | [], [] => rfl
  | [], _ :: _ => rfl
  | _ :: _, [] => rfl
  | x :: a, y :: b => by
    rw [List.map_cons, List.map_cons, PyData.eqvAll, ints_eqv a b, PyData.eqv]
    by_cases h : x = y
    · subst h; simp
    · simp [h]
theorem ints_plain : ∀ a : List Int, PyData.plainAll (a.map .int) = true
  | [] => rfl
  | x :: a => by rw [List.map_cons, PyData.plainAll, ints_plain a]; rfl
theorem ints_depth : ∀ a : List Int, PyData.depthAll (a.map .int) = 0
  | [] => rfl
  | x :: a => by rw [List.map_cons, PyData.depthAll, ints_depth a, PyData.depth]; rfl
theorem reads_tup6 {h : Heap} {v : Value} {e : Ent} {as : List Addr} (r : Reads h v (entD e) as) : ∃ a us, v = .ref a ∧ h.IsTuple a us ∧ us.size = 6 ∧ ∀ (j : Nat) (u : Value) (d : PyData), us[j]? = some u → ([.int e.c, .int e.n, .tuple (e.r.map .int), .int e.k, .int e.own, e.t] : List PyData)[j]? = some d → ∃ bs, Reads h u d bs := by
  unfold entD at r
  cases r with
  | @tuple a o vs n _ _ h1 h2 h3 h4 =>
    refine ⟨a, vs, rfl, ⟨o, h1, h2, n, h3⟩, ?_, fun j u d hu hd => ?_⟩
    · have := SeqAt.ReadsAll.length _ _ _ h4
      simpa using this
    · have : ∀ {ds : List PyData} {us : List Value} {bs : List Addr}, ReadsAll h us ds bs → ∀ (j : Nat) (u : Value) (d : PyData), us[j]? = some u → ds[j]? = some d → ∃ cs, Reads h u d cs := by
        intro ds
        induction ds with
        | nil => intro us bs _ j u d _ hd; simp at hd
        | cons d0 ds ih =>
          intro us bs hr j u d hu hd
          cases hr with
          | cons a b =>
            cases j with
            | zero => simp at hu hd; subst hu hd; exact ⟨_, a⟩
            | succ j => exact ih b j u d (by simpa using hu) (by simpa using hd)
      exact this h4 j u d (by simpa using hu) hd
/-- two entries of unlike numbers are compared ahead of their terms -/
theorem rcLt_ent {A : Around} {s : Shared} {v v' : Value} {e e' : Ent} {as bs : List Addr} (hu : A.units + 10 < cLine) (r : Reads s.heap v (entD e) as) (r' : Reads s.heap v' (entD e') bs) (hk : e.k ≠ e'.k) : SeqAt.RcLt A s v v' (entLt e e') := by
  obtain ⟨a, us, rfl, hl, z, get⟩ := reads_tup6 r
  obtain ⟨b, ws, rfl, hl', z', get'⟩ := reads_tup6 r'
  have at_ : ∀ (j : Nat) (h : j < us.size) (d : PyData), ([.int e.c, .int e.n, .tuple (e.r.map .int), .int e.k, .int e.own, e.t] : List PyData)[j]? = some d → ∃ cs, Reads s.heap us[j] d cs := fun j h d hd => get j us[j] d (Array.getElem?_eq_getElem h) hd
  have at' : ∀ (j : Nat) (h : j < ws.size) (d : PyData), ([.int e'.c, .int e'.n, .tuple (e'.r.map .int), .int e'.k, .int e'.own, e'.t] : List PyData)[j]? = some d → ∃ cs, Reads s.heap ws[j] d cs := fun j h d hd => get' j ws[j] d (Array.getElem?_eq_getElem h) hd
  have h0 : 0 < us.size := by omega
  have h1 : 1 < us.size := by omega
  have h2 : 2 < us.size := by omega
  have h3 : 3 < us.size := by omega
  have k0 : 0 < ws.size := by omega
  have k1 : 1 < ws.size := by omega
  have k2 : 2 < ws.size := by omega
  have k3 : 3 < ws.size := by omega
  obtain ⟨_, p0⟩ := at_ 0 h0 _ rfl
  obtain ⟨_, p1⟩ := at_ 1 h1 _ rfl
  obtain ⟨_, p2⟩ := at_ 2 h2 _ rfl
  obtain ⟨_, p3⟩ := at_ 3 h3 _ rfl
  obtain ⟨_, q0⟩ := at' 0 k0 _ rfl
  obtain ⟨_, q1⟩ := at' 1 k1 _ rfl
  obtain ⟨_, q2⟩ := at' 2 k2 _ rfl
  obtain ⟨_, q3⟩ := at' 3 k3 _ rfl
  have ui : A.in1.units = A.units + 1 := rfl
  have dpt : ∀ l : List Int, (PyData.tuple (l.map .int)).depth = 1 := fun l => by rw [PyData.depth, ints_depth]
  have eqi : ∀ {u u' : Value} {x y : Int} {cs ds : List Addr}, Reads s.heap u (.int x) cs → Reads s.heap u' (.int y) ds → SeqAt.EqAt A.in1 s u u' (decide (x = y)) := fun {u u' x y cs ds} a b => by
    have := SeqAt.eqAt_plain (.int x) (.int y) A.in1 s u u' cs ds a b rfl rfl (by rw [ui, PyData.depth]; omega)
    rw [PyData.eqv] at this
    rw [show decide (x = y) = (x == y) from by by_cases q : x = y <;> simp [q]]
    exact this
  have lti : ∀ {u u' : Value} {x y : Int} {cs ds : List Addr}, Reads s.heap u (.int x) cs → Reads s.heap u' (.int y) ds → SeqAt.RcLt A.in1 s u u' (decide (x < y)) := fun {u u' x y cs ds} a b => by
    have := PySem.W.rcLt_alike (.int x) (.int y) A.in1 s u u' cs ds a b (by simp [PySem.W.alike]) (fun q => nomatch q) (by rw [ui, PyData.depth]; omega)
    rw [PySem.W.dataLt_int] at this
    exact this
  have e2 : SeqAt.EqAt A.in1 s us[2] ws[2] (decide (e.r = e'.r)) := by
    have := SeqAt.eqAt_plain _ _ A.in1 s _ _ _ _ p2 q2 (by rw [PyData.plain]; exact ints_plain _) (by rw [PyData.plain]; exact ints_plain _) (by rw [ui, dpt, dpt]; omega)
    rw [PyData.eqv, ints_eqv] at this
    exact this
  have l2 : SeqAt.RcLt A.in1 s us[2] ws[2] (decide (e.r < e'.r)) := by
    have := PySem.W.rcLt_alike _ _ A.in1 s _ _ _ _ p2 q2 (by rw [PySem.W.alike]; exact PySem.W.alike_ints _ _) (fun q => nomatch q) (by rw [ui, dpt, dpt]; omega)
    rw [PySem.W.dataLt_tuple] at this
    rw [← PySem.W.dataLt_ints e.r e'.r]
    exact this
  have go : ∀ (m : Nat) (m1 : m < us.size) (m2 : m < ws.size) (x : Bool), (∀ j (a1 : j < us.size) (a2 : j < ws.size), j < m → SeqAt.EqAt A.in1 s us[j] ws[j] true) → SeqAt.EqAt A.in1 s us[m] ws[m] false → SeqAt.RcLt A.in1 s us[m] ws[m] x → entLt e e' = x → SeqAt.RcLt A s (.ref a) (.ref b) (entLt e e') := fun m m1 m2 x a1 a2 a3 a4 => by
    rw [a4]
    exact rcLt_first hl hl' (by omega) m1 m2 a1 a2 a3
  unfold entLt at go ⊢
  by_cases c0 : e.c = e'.c
  · have E0 := eqi p0 q0
    rw [decide_eq_true c0] at E0
    by_cases c1 : e.n = e'.n
    · have E1 := eqi p1 q1
      rw [decide_eq_true c1] at E1
      by_cases c2 : e.r = e'.r
      · have E2 := e2
        rw [decide_eq_true c2] at E2
        have E3 := eqi p3 q3
        rw [decide_eq_false hk] at E3
        refine go 3 h3 k3 _ (fun j j1 j2 hj => ?_) E3 (lti p3 q3) ?_
        · match j, hj with
          | 0, _ => exact E0
          | 1, _ => exact E1
          | 2, _ => exact E2
        · rw [decide_eq_decide]
          have := KB.rlt_irrefl e'.r
          simp only [c0, c1, c2, Int.lt_irrefl, false_or, true_and, this]
      · have E2 := e2
        rw [decide_eq_false c2] at E2
        refine go 2 h2 k2 _ (fun j j1 j2 hj => ?_) E2 l2 ?_
        · match j, hj with
          | 0, _ => exact E0
          | 1, _ => exact E1
        · rw [decide_eq_decide]
          simp only [c0, c1, c2, Int.lt_irrefl, false_or, true_and, false_and, or_false]
    · have E1 := eqi p1 q1
      rw [decide_eq_false c1] at E1
      refine go 1 h1 k1 _ (fun j j1 j2 hj => ?_) E1 (lti p1 q1) ?_
      · match j, hj with
        | 0, _ => exact E0
      · rw [decide_eq_decide]
        simp only [c0, c1, Int.lt_irrefl, false_or, true_and, false_and, or_false]
  · have E0 := eqi p0 q0
    rw [decide_eq_false c0] at E0
    refine go 0 h0 k0 _ (fun j j1 j2 hj => absurd hj (Nat.not_lt_zero _)) E0 (lti p0 q0) ?_
    rw [decide_eq_decide]
    simp only [c0, false_and, or_false]
end R59
/-! KR3 -/
set_option maxHeartbeats 1000000
namespace R59
open PySem PySem.Spec PyProof.Rows L2
open AutoSeq1 (wpAny_loadPart')
theorem plain_sift : plainId "_heapq.heapify.sift" = true := by decide +kernel
theorem entry_sift : entryFor table "_heapq.heapify.sift" = some Builtin.«_heapq.heapify.sift» := entryFor_of_fast (by kernel_rfl)
theorem entry_push : entryFor table "_heapq.heappush" = some Builtin.«_heapq.heappush» := entryFor_of_fast (by kernel_rfl)
theorem entry_pop : entryFor table "_heapq.heappop" = some Builtin.«_heapq.heappop» := entryFor_of_fast (by kernel_rfl)
/-- at a stands a list of these values, each told of its entry -/
structure HSt (P : Value → Ent → Prop) (h : Heap) (a : Addr) (its : List Value) (es : List Ent) : Prop where
  ls : ∃ n, h.get? a = some { cls := .type "list", dict := none, data := .seq its.toArray n, slots := #[] }
  ln : its.length = es.length
  sz : its.length ≤ sizeLine
  rd : ∀ (i : Nat) v e, its[i]? = some v → es[i]? = some e → P v e ∧ Reads h v (entD e) [] ∧ PySem.W.alike e.t e.t = true
  ks : ∀ (i j : Nat) e e', es[i]? = some e → es[j]? = some e' → i ≠ j → e.k ≠ e'.k
theorem ent_alike {e : Ent} (h : PySem.W.alike e.t e.t = true) : PySem.W.alike (entD e) (entD e) = true := by
  unfold entD
  simp only [PySem.W.alike, PySem.W.alikeAll, PySem.W.alike_ints, h, Bool.and_true, Bool.true_and]
theorem HSt.write {P : Value → Ent → Prop} {h h' : Heap} {a : Addr} {its its' : List Value} {es es' : List Ent} {n : Nat} (S : HSt P h a its es) (hg : h'.get? a = some { cls := .type "list", dict := none, data := .seq its'.toArray n, slots := #[] })
    (hk : ∀ b o, b ≠ a → h.get? b = some o → h'.get? b = some o) (hl : its'.length = es'.length) (hz : its'.length ≤ sizeLine) (hsub : ∀ (i : Nat) v e, its'[i]? = some v → es'[i]? = some e → ∃ j : Nat, its[j]? = some v ∧ es[j]? = some e)
    (hks : ∀ (i j : Nat) e e', es'[i]? = some e → es'[j]? = some e' → i ≠ j → e.k ≠ e'.k) : HSt P h' a its' es' := by
  refine ⟨⟨n, hg⟩, hl, hz, fun i v e hv he => ?_, hks⟩
  obtain ⟨j, h1, h2⟩ := hsub i v e hv he
  obtain ⟨p, r, al⟩ := S.rd j v e h1 h2
  obtain ⟨n0, e0⟩ := S.ls
  exact ⟨p, PySem.W.Reads.keepBut hk (fun o ho => by rw [e0] at ho; cases ho; rfl) _ _ _ (ent_alike al) r (by simp), al⟩
theorem HSt.less {P : Value → Ent → Prop} {A : Around} {s : Shared} {a : Addr} {its : List Value} {es : List Ent} (hu : A.units + 10 < cLine) (S : HSt P s.heap a its es) {i j : Nat} {v v' : Value} {e e' : Ent} (h1 : its[i]? = some v) (h2 : its[j]? = some v') (h3 : es[i]? = some e) (h4 : es[j]? = some e') (hij : i ≠ j) : SeqAt.RcLt A s v v' (entLt e e') :=
  rcLt_ent hu (S.rd i v e h1 h3).2.1 (S.rd j v' e' h2 h4).2.1 (S.ks i j e e' h3 h4 hij)
theorem entLt_asym (a b : Ent) (h : entLt a b = true) : entLt b a = false := by
  unfold entLt at *
  have h := of_decide_eq_true h
  refine decide_eq_false fun q => ?_
  rcases h with h | ⟨e1, h | ⟨e2, h | ⟨e3, h⟩⟩⟩
  · rcases q with q | ⟨q, _⟩ <;> omega
  · rcases q with q | ⟨_, q | ⟨q, _⟩⟩ <;> omega
  · rcases q with q | ⟨_, q | ⟨_, q | ⟨q, _⟩⟩⟩
    · omega
    · omega
    · exact KB.rlt_irrefl _ (KB.rlt_trans h q)
    · rw [q] at h; exact KB.rlt_irrefl _ h
  · rcases q with q | ⟨_, q | ⟨_, q | ⟨_, q⟩⟩⟩
    · omega
    · omega
    · rw [e3] at q; exact KB.rlt_irrefl _ q
    · omega
theorem entLe_iff (a b : Ent) : entLt b a = false ↔ (a.c < b.c ∨ (a.c = b.c ∧ (a.n < b.n ∨ (a.n = b.n ∧ (a.r < b.r ∨ (a.r = b.r ∧ a.k ≤ b.k)))))) := by
  constructor
  · intro h
    have h : ¬ _ := of_decide_eq_false h
    rcases Int.lt_trichotomy a.c b.c with t | t | t
    · exact .inl t
    · refine .inr ⟨t, ?_⟩
      rcases Int.lt_trichotomy a.n b.n with u | u | u
      · exact .inl u
      · refine .inr ⟨u, ?_⟩
        rcases KB.lt_tri a.r b.r with v | v | v
        · exact .inl v
        · refine .inr ⟨v, ?_⟩
          rcases Int.lt_or_le b.k a.k with w | w
          · exact (h (.inr ⟨t.symm, .inr ⟨u.symm, .inr ⟨v.symm, w⟩⟩⟩)).elim
          · exact w
        · exact (h (.inr ⟨t.symm, .inr ⟨u.symm, .inl v⟩⟩)).elim
      · exact (h (.inr ⟨t.symm, .inl u⟩)).elim
    · exact (h (.inl t)).elim
  · intro h
    refine decide_eq_false fun q => ?_
    rcases h with h | ⟨e1, h | ⟨e2, h | ⟨e3, h⟩⟩⟩
    · rcases q with q | ⟨q, _⟩ <;> omega
    · rcases q with q | ⟨_, q | ⟨q, _⟩⟩ <;> omega
    · rcases q with q | ⟨_, q | ⟨_, q | ⟨q, _⟩⟩⟩
      · omega
      · omega
      · exact KB.rlt_irrefl _ (KB.rlt_trans h q)
      · rw [q] at h; exact KB.rlt_irrefl _ h
    · rcases q with q | ⟨_, q | ⟨_, q | ⟨_, q⟩⟩⟩
      · omega
      · omega
      · rw [e3] at q; exact KB.rlt_irrefl _ q
      · omega
theorem entLe_refl (a : Ent) : KH.Le entLt a a := (entLe_iff a a).mpr (.inr ⟨rfl, .inr ⟨rfl, .inr ⟨rfl, Int.le_refl _⟩⟩⟩)
theorem entLe_trans (a b c : Ent) (h1 : KH.Le entLt a b) (h2 : KH.Le entLt b c) : KH.Le entLt a c := by
  have h1 := (entLe_iff a b).mp h1
  have h2 := (entLe_iff b c).mp h2
  refine (entLe_iff a c).mpr ?_
  rcases h1 with h1 | ⟨e1, h1⟩
  · rcases h2 with h2 | ⟨e2, _⟩
    · exact .inl (by omega)
    · exact .inl (by omega)
  · rcases h2 with h2 | ⟨e2, h2⟩
    · exact .inl (by omega)
    · refine .inr ⟨by omega, ?_⟩
      rcases h1 with h1 | ⟨f1, h1⟩
      · rcases h2 with h2 | ⟨f2, _⟩
        · exact .inl (by omega)
        · exact .inl (by omega)
      · rcases h2 with h2 | ⟨f2, h2⟩
        · exact .inl (by omega)
        · refine .inr ⟨by omega, ?_⟩
          rcases h1 with h1 | ⟨g1, h1⟩
          · rcases h2 with h2 | ⟨g2, _⟩
            · exact .inl (KB.rlt_trans h1 h2)
            · exact .inl (by rw [← g2]; exact h1)
          · rcases h2 with h2 | ⟨g2, h2⟩
            · exact .inl (by rw [g1]; exact h2)
            · exact .inr ⟨g1.trans g2, by omega⟩
/-- the list changed by a swap -/
theorem HSt.swap {P : Value → Ent → Prop} {h : Heap} {a : Addr} {its : List Value} {es : List Ent} (S : HSt P h a its es) {i j : Nat} {x y : Value} {e f : Ent} (hx : its[i]? = some x) (hy : its[j]? = some y) (he : es[i]? = some e) (hf : es[j]? = some f) (hij : i ≠ j) :
    HSt P (h.update a (Obj.mapSeq fun xs => (xs.setIfInBounds i y).setIfInBounds j x)) a (KH.swp its i j x y) (KH.swp es i j e f) := by
  obtain ⟨n, e0⟩ := S.ls
  have li := (List.getElem?_eq_some_iff.mp hx).1
  have lj := (List.getElem?_eq_some_iff.mp hy).1
  have mi := (List.getElem?_eq_some_iff.mp he).1
  have mj := (List.getElem?_eq_some_iff.mp hf).1
  have back : ∀ (k : Nat) (g : Ent), (KH.swp es i j e f)[k]? = some g → (k = j ∧ g = e) ∨ (k ≠ j ∧ k = i ∧ g = f) ∨ (k ≠ j ∧ k ≠ i ∧ es[k]? = some g) := fun k g hg => by
    rw [KH.swp_get mi mj] at hg
    by_cases c1 : k = j
    · rw [if_pos c1] at hg; exact .inl ⟨c1, (Option.some.inj hg).symm⟩
    · rw [if_neg c1] at hg
      by_cases c2 : k = i
      · rw [if_pos c2] at hg; exact .inr (.inl ⟨c1, c2, (Option.some.inj hg).symm⟩)
      · rw [if_neg c2] at hg; exact .inr (.inr ⟨c1, c2, hg⟩)
  have place : ∀ (k : Nat) (g : Ent), (KH.swp es i j e f)[k]? = some g → ∃ k' : Nat, es[k']? = some g ∧ (k' = if k = j then i else if k = i then j else k) := fun k g hg => by
    rcases back k g hg with ⟨c, rfl⟩ | ⟨c, c', rfl⟩ | ⟨c, c', hg'⟩
    · exact ⟨i, he, by rw [if_pos c]⟩
    · exact ⟨j, hf, by rw [if_neg c, if_pos c']⟩
    · exact ⟨k, hg', by rw [if_neg c, if_neg c']⟩
  refine S.write (n := n) ?_ (fun b o hb ho => ?_) (by rw [KH.swp_len, KH.swp_len]; exact S.ln) (by rw [KH.swp_len]; exact S.sz) (fun k v g hv hg => ?_) fun k l g g' hg hg' hkl => ?_
  · rw [Heap.get?_update_self _ e0 rfl]
    simp [Obj.mapSeq, KH.swp]
  · exact (Heap.get?_update_other _ _ (Ne.symm hb)).trans ho
  · rw [KH.swp_get li lj] at hv
    rcases back k g hg with ⟨c, rfl⟩ | ⟨c, c', rfl⟩ | ⟨c, c', hg'⟩
    · rw [if_pos c] at hv
      exact ⟨i, by rw [hx]; exact hv, he⟩
    · rw [if_neg c, if_pos c'] at hv
      exact ⟨j, by rw [hy]; exact hv, hf⟩
    · rw [if_neg c, if_neg c'] at hv
      exact ⟨k, hv, hg'⟩
  · obtain ⟨k1, h1, q1⟩ := place k g hg
    obtain ⟨l1, h2, q2⟩ := place l g' hg'
    refine S.ks k1 l1 g g' h1 h2 ?_
    rw [q1, q2]
    repeat' split
    all_goals omega
/-- sifting up -/
theorem sift_up (P : Value → Ent → Prop) (a : Addr) (res : Value) : ∀ (N pos : Nat) (its : List Value) (es : List Ent), pos ≤ N → KH.Up entLt es pos →
    Meets (Builtin.«_heapq.heapify.sift» ⟨[.ref a, .bool false, .bool false, rawInt pos, rawInt 0, res, rawInt (-1)], []⟩) (fun A R s => A.units + 20 < cLine ∧ HSt P s.heap a its es ∧
        (∀ h' its' es', HSt P h' a its' es' → es'.Perm es → KH.Hpd entLt es' → (∀ b o, b ≠ a → s.heap.get? b = some o → h'.get? b = some o) → R (.ok (.ret res)) { s with heap := h' })) := by
  intro N
  induction N with
  | zero =>
    intro pos its es hN U prog w A R s h
    have e : pos = 0 := by omega
    subst e
    obtain ⟨hp, g, d, tk, os⟩ := s
    obtain ⟨hu, S, h⟩ := h
    obtain ⟨n, e0⟩ := id S.ls
    wp_walk using wpAny_loadPart' e0
    exact h hp its es S (List.Perm.refl _) (U.stop (.inl rfl)) (fun _ _ _ e => e)
  | succ N ih =>
    intro pos its es hN U prog w A R s h
    by_cases hp0 : pos = 0
    · subst hp0
      exact ih 0 its es (Nat.zero_le _) U prog w A R s h
    obtain ⟨hp, g, d, tk, os⟩ := s
    obtain ⟨hu, S, h⟩ := h
    obtain ⟨n, e0⟩ := id S.ls
    have hpl : pos < its.length := by rw [S.ln]; exact U.lt_
    have hql : KH.par pos < its.length := by unfold KH.par; omega
    have gx : its[pos]? = some its[pos] := List.getElem?_eq_getElem hpl
    have gy : its[KH.par pos]? = some its[KH.par pos] := List.getElem?_eq_getElem hql
    have hpe : pos < es.length := U.lt_
    have hqe : KH.par pos < es.length := by unfold KH.par; omega
    have gex : es[pos]? = some es[pos] := List.getElem?_eq_getElem hpe
    have gey : es[KH.par pos]? = some es[KH.par pos] := List.getElem?_eq_getElem hqe
    have hne : pos ≠ KH.par pos := by unfold KH.par; omega
    have cmp := S.less (A := A.in1) (s := ⟨hp, g, d, tk, os⟩) (by show A.units + 1 + 10 < cLine; omega) gx gy gex gey hne
    have cmp' : ∀ (E : Value → Shared → Prop) (Q : Value → Shared → Prop), Q (.bool (entLt es[pos] es[KH.par pos])) ⟨hp, g, d, tk, os⟩ → wpAny (model prog w) A.in1 (richCompare .Lt its[pos] its[KH.par pos]) Q E ⟨hp, g, d, tk, os⟩ := fun E Q q => cmp prog w E Q q
    have hgt : decide (pos > 0) = true := decide_eq_true (by omega)
    wp_walk using wpAny_loadPart' e0, (cmp' _ _)
    have gy' : its[(pos - 1) / 2]? = some its[KH.par pos] := gy
    simp only [Int.toNat_natCast, List.getElem?_toArray, gx]
    wp_walk using wpAny_loadPart' e0, (cmp' _ _)
    simp only [List.getElem?_toArray, gy']
    wp_walk using wpAny_loadPart' e0, (cmp' _ _)
    have goOn : ∀ (h1 : Heap) (its1 : List Value) (es1 : List Ent), HSt P h1 a its1 es1 → es1.Perm es → KH.Up entLt es1 (KH.par pos) → (∀ b o, b ≠ a → hp.get? b = some o → h1.get? b = some o) →
        codeAny (model prog w) A (.builtin "_heapq.heapify.sift" ⟨[.ref a, .bool false, .bool false, rawInt (KH.par pos), rawInt 0, res, rawInt (-1)], []⟩) R ⟨h1, g, d, tk, os⟩ := fun h1 its1 es1 S1 pm U1 k1 =>
      codeAny_builtin entry_sift (by
        rw [Around.under_plainId plain_sift _]
        exact ih (KH.par pos) its1 es1 (by unfold KH.par; omega) U1 prog w A R ⟨h1, g, d, tk, os⟩ ⟨hu, S1, fun h' its' es' a1 a2 a3 a4 => h h' its' es' a1 (a2.trans pm) a3 fun b o hb ho => a4 b o hb (k1 b o hb ho)⟩)
    cases hlt : entLt es[pos] es[KH.par pos] with
    | true =>
      have S1 := S.swap gy gx gey gex hne.symm
      have pm := KH.swp_perm gey gex
      have U1 := U.step entLe_trans entLt_asym (by omega) gex gey hlt
      rw [KH.swp_comm es hne] at U1
      have hzz : its.toArray.size ≤ sizeLine := by simpa using S.sz
      have hzz' : ((its.toArray.setIfInBounds (KH.par pos) its[pos]).setIfInBounds pos its[KH.par pos]).size ≤ sizeLine + 1 := by simp; exact Nat.le_succ_of_le S.sz
      rw [if_pos rfl]
      wp_walk using wpAny_loadPart' e0
      simp only [List.getElem?_toArray, gy']
      wp_walk using wpAny_loadPart' e0
      simp only [List.getElem?_toArray, gx]
      wp_walk using (wpAny_updateSeq e0 rfl (hz := hzz) (_hz' := hzz')), wpAny_loadPart' e0
      exact ⟨plainId_quiet plain_sift _, goOn _ _ _ S1 pm U1 fun b o hb ho => (Heap.get?_update_other _ _ (Ne.symm hb)).trans ho⟩
    | false =>
      rw [if_neg Bool.false_ne_true]
      wp_walk
      exact h hp its es S (List.Perm.refl _) (U.stop (.inr fun x y hx hy => by
        rw [gey] at hx
        rw [gex] at hy
        rw [← Option.some.inj hx, ← Option.some.inj hy]
        exact hlt)) (fun _ _ _ e => e)
/-- sifting down, then up -/
theorem sift_down (P : Value → Ent → Prop) (a : Addr) (res : Value) : ∀ (N pos : Nat) (its : List Value) (es : List Ent), es.length - pos ≤ N → KH.Dn entLt es pos →
    Meets (Builtin.«_heapq.heapify.sift» ⟨[.ref a, .bool false, .bool true, rawInt pos, rawInt 0, res, rawInt (-1)], []⟩) (fun A R s => A.units + 20 < cLine ∧ HSt P s.heap a its es ∧
        (∀ h' its' es', HSt P h' a its' es' → es'.Perm es → KH.Hpd entLt es' → (∀ b o, b ≠ a → s.heap.get? b = some o → h'.get? b = some o) → R (.ok (.ret res)) { s with heap := h' })) := by
  intro N
  induction N with
  | zero =>
    intro pos its es hN D
    have := D.lt_
    omega
  | succ N ih =>
    intro pos its es hN D prog w A R s h
    obtain ⟨hp, g, d, tk, os⟩ := s
    obtain ⟨hu, S, h⟩ := h
    obtain ⟨n, e0⟩ := id S.ls
    have hsz : its.toArray.size = es.length := by simp [S.ln]
    by_cases hleaf : es.length / 2 ≤ pos
    · have hgt : decide (pos < its.toArray.size / 2) = false := decide_eq_false (by rw [hsz]; omega)
      wp_walk using wpAny_loadPart' e0
      refine ⟨plainId_quiet plain_sift _, codeAny_builtin entry_sift ?_⟩
      rw [Around.under_plainId plain_sift _]
      exact sift_up P a res pos pos its es (Nat.le_refl _) (D.leaf hleaf) prog w A R ⟨hp, g, d, tk, os⟩ ⟨hu, S, h⟩
    · have hgt : decide (pos < its.toArray.size / 2) = true := decide_eq_true (by rw [hsz]; omega)
      have kids : ∀ i : Nat, 0 < i → KH.par i = pos → i = 2 * pos + 1 ∨ i = 2 * pos + 1 + 1 := fun i h0 h1 => by unfold KH.par at h1; omega
      have hpe : pos < es.length := D.lt_
      have hpi : pos < its.length := by rw [S.ln]; exact hpe
      have gv : its[pos]? = some its[pos] := List.getElem?_eq_getElem hpi
      have gev : es[pos]? = some es[pos] := List.getElem?_eq_getElem hpe
      have hle : 2 * pos + 1 < es.length := by omega
      have hli : 2 * pos + 1 < its.length := by rw [S.ln]; exact hle
      have gl : its[2 * pos + 1]? = some its[2 * pos + 1] := List.getElem?_eq_getElem hli
      have gel : es[2 * pos + 1]? = some es[2 * pos + 1] := List.getElem?_eq_getElem hle
      have hzz : its.toArray.size ≤ sizeLine := by simpa using S.sz
      -- the child c goes up
      have goOn : ∀ (c : Nat) (hci : c < its.length) (hce : c < es.length), 0 < c → KH.par c = pos → (∀ (i : Nat) (b : Ent), 0 < i → KH.par i = pos → es[i]? = some b → KH.Le entLt es[c] b) →
          codeAny (model prog w) A (.builtin "_heapq.heapify.sift" ⟨[.ref a, .bool false, .bool true, rawInt (c : Nat), rawInt 0, res, rawInt (-1)], []⟩) R ⟨hp.update a (Obj.mapSeq fun xs => (xs.setIfInBounds c its[pos]).setIfInBounds pos its[c]), g, d, tk, os⟩ := fun c hci hce h0 hcp hmin => by
        have gc : its[c]? = some its[c] := List.getElem?_eq_getElem hci
        have gec : es[c]? = some es[c] := List.getElem?_eq_getElem hce
        have hcne : c ≠ pos := by unfold KH.par at hcp; omega
        have S1 := S.swap gc gv gec gev hcne
        have pm := KH.swp_perm gec gev
        have D1 := D.step entLe_trans h0 hcp gev gec hmin
        refine codeAny_builtin entry_sift ?_
        rw [Around.under_plainId plain_sift _]
        refine ih c _ _ (by rw [KH.swp_len]; unfold KH.par at hcp; omega) D1 prog w A R _ ⟨hu, S1, fun h' its' es' a1 a2 a3 a4 => h h' its' es' a1 (a2.trans pm) a3 fun b o hb ho => a4 b o hb ((Heap.get?_update_other _ _ (Ne.symm hb)).trans ho)⟩
      have hzs : ∀ (c : Nat) (u v : Value), ((its.toArray.setIfInBounds c u).setIfInBounds pos v).size ≤ sizeLine + 1 := fun c u v => by simp; exact Nat.le_succ_of_le S.sz
      by_cases hr : 2 * pos + 1 + 1 < es.length
      · have hri : 2 * pos + 1 + 1 < its.length := by rw [S.ln]; exact hr
        have gr : its[2 * pos + 1 + 1]? = some its[2 * pos + 1 + 1] := List.getElem?_eq_getElem hri
        have ger : es[2 * pos + 1 + 1]? = some es[2 * pos + 1 + 1] := List.getElem?_eq_getElem hr
        have cmp := S.less (A := A.in1) (s := ⟨hp, g, d, tk, os⟩) (by show A.units + 1 + 10 < cLine; omega) gl gr gel ger (by omega)
        have cmp' : ∀ (E : Value → Shared → Prop) (Q : Value → Shared → Prop), Q (.bool (entLt es[2 * pos + 1] es[2 * pos + 1 + 1])) ⟨hp, g, d, tk, os⟩ → wpAny (model prog w) A.in1 (richCompare .Lt its[2 * pos + 1] its[2 * pos + 1 + 1]) Q E ⟨hp, g, d, tk, os⟩ := fun E Q q => cmp prog w E Q q
        wp_walk using wpAny_loadPart' e0
        simp only [Int.toNat_natCast]
        rw [if_pos (by rw [hsz]; omega), if_pos (by rw [hsz]; omega)]
        wp_walk using wpAny_loadPart' e0
        simp only [List.getElem?_toArray, gl]
        wp_walk using wpAny_loadPart' e0
        simp only [List.getElem?_toArray, gr]
        wp_walk using wpAny_loadPart' e0, (cmp' _ _)
        cases hlt : entLt es[2 * pos + 1] es[2 * pos + 1 + 1] with
        | true =>
          have hmin : ∀ (i : Nat) (b : Ent), 0 < i → KH.par i = pos → es[i]? = some b → KH.Le entLt es[2 * pos + 1] b := fun i b h0 h1 hb => by
            rcases kids i h0 h1 with e | e
            · subst e; rw [gel] at hb; rw [← Option.some.inj hb]; exact entLe_refl _
            · subst e; rw [ger] at hb; rw [← Option.some.inj hb]; exact entLt_asym _ _ hlt
          have hzz' := hzs (2 * pos + 1) its[pos] its[2 * pos + 1]
          rw [if_neg (show ¬ ((!true) = true) from Bool.false_ne_true)]
          wp_walk using wpAny_loadPart' e0
          simp only [List.getElem?_toArray, gl]
          wp_walk using wpAny_loadPart' e0
          simp only [List.getElem?_toArray, gv]
          wp_walk using (wpAny_updateSeq e0 rfl (hz := hzz) (_hz' := hzz')), wpAny_loadPart' e0
          exact ⟨plainId_quiet plain_sift _, goOn (2 * pos + 1) hli hle (by omega) (by unfold KH.par; omega) hmin⟩
        | false =>
          have hmin : ∀ (i : Nat) (b : Ent), 0 < i → KH.par i = pos → es[i]? = some b → KH.Le entLt es[2 * pos + 1 + 1] b := fun i b h0 h1 hb => by
            rcases kids i h0 h1 with e | e
            · subst e; rw [gel] at hb; rw [← Option.some.inj hb]; exact hlt
            · subst e; rw [ger] at hb; rw [← Option.some.inj hb]; exact entLe_refl _
          have hzz' := hzs (2 * pos + 1 + 1) its[pos] its[2 * pos + 1 + 1]
          rw [if_pos (show (!false) = true from rfl)]
          wp_walk using wpAny_loadPart' e0
          simp only [List.getElem?_toArray, gr]
          wp_walk using wpAny_loadPart' e0
          simp only [List.getElem?_toArray, gv]
          wp_walk using (wpAny_updateSeq e0 rfl (hz := hzz) (_hz' := hzz')), wpAny_loadPart' e0
          exact ⟨plainId_quiet plain_sift _, goOn (2 * pos + 1 + 1) hri hr (by omega) (by unfold KH.par; omega) hmin⟩
      · have hmin : ∀ (i : Nat) (b : Ent), 0 < i → KH.par i = pos → es[i]? = some b → KH.Le entLt es[2 * pos + 1] b := fun i b h0 h1 hb => by
          rcases kids i h0 h1 with e | e
          · subst e; rw [gel] at hb; rw [← Option.some.inj hb]; exact entLe_refl _
          · subst e; have := (List.getElem?_eq_some_iff.mp hb).1; omega
        have hzz' := hzs (2 * pos + 1) its[pos] its[2 * pos + 1]
        wp_walk using wpAny_loadPart' e0
        simp only [Int.toNat_natCast]
        rw [if_pos (by rw [hsz]; omega), if_neg (by rw [hsz]; omega)]
        wp_walk using wpAny_loadPart' e0
        simp only [List.getElem?_toArray, gl]
        wp_walk using wpAny_loadPart' e0
        simp only [List.getElem?_toArray, gv]
        wp_walk using (wpAny_updateSeq e0 rfl (hz := hzz) (_hz' := hzz')), wpAny_loadPart' e0
        exact ⟨plainId_quiet plain_sift _, goOn (2 * pos + 1) hli hle (by omega) (by unfold KH.par; omega) hmin⟩
end R59
/-! KR4 -/
set_option maxHeartbeats 1000000
namespace R59
open PySem PySem.Spec PyProof.Rows L2
open AutoSeq1 (wpAny_loadPart')
/-- heappush -/
theorem push_meets (P : Value → Ent → Prop) (a : Addr) (x : Value) (e : Ent) (its : List Value) (es : List Ent) (hz : its.length < sizeLine) (hh : KH.Hpd entLt es) (hk : ∀ e' ∈ es, e'.k ≠ e.k) :
    Meets (Builtin.«_heapq.heappush» ⟨[.ref a, x], []⟩) (fun A R s => A.units + 20 < cLine ∧ HSt P s.heap a its es ∧ P x e ∧ Reads s.heap x (entD e) [] ∧ PySem.W.alike e.t e.t = true ∧
        (∀ h' its' es', HSt P h' a its' es' → es'.Perm (es ++ [e]) → KH.Hpd entLt es' → (∀ b o, b ≠ a → s.heap.get? b = some o → h'.get? b = some o) → R (.ok (.ret .none)) { s with heap := h' })) := by
  intro prog w A R s h
  obtain ⟨hp, g, d, tk, os⟩ := s
  obtain ⟨hu, S, px, rx, al, h⟩ := h
  obtain ⟨n, e0⟩ := id S.ls
  have f1 := PySem.F.sub_list_list
  have hzz : its.toArray.size ≤ sizeLine := by simpa using S.sz
  have hzz' : (its.toArray.push x).size ≤ sizeLine + 1 := by simp; omega
  obtain ⟨n1, e1⟩ : ∃ n1, (hp.update a (Obj.mapSeq fun xs => xs.push x)).get? a = some { cls := .type "list", dict := none, data := .seq (its ++ [x]).toArray n1, slots := #[] } :=
    ⟨_, by rw [Heap.get?_update_self _ e0 rfl]; simp only [Obj.mapSeq, List.push_toArray]; rfl⟩
  have keep : ∀ b o, b ≠ a → hp.get? b = some o → (hp.update a (Obj.mapSeq fun xs => xs.push x)).get? b = some o := fun b o hb ho => (Heap.get?_update_other _ _ (Ne.symm hb)).trans ho
  have hl := S.ln
  have S1 : HSt P (hp.update a (Obj.mapSeq fun xs => xs.push x)) a (its ++ [x]) (es ++ [e]) := by
    refine ⟨⟨n1, e1⟩, by simp [hl], by simp; omega, fun i v f hv hf => ?_, fun i j f f' hf hf' hij => ?_⟩
    · by_cases hi : i < its.length
      · rw [List.getElem?_append_left hi] at hv
        rw [List.getElem?_append_left (by omega)] at hf
        obtain ⟨p, r, q⟩ := S.rd i v f hv hf
        exact ⟨p, PySem.W.Reads.keepBut keep (fun o ho => by rw [show hp.get? a = _ from e0] at ho; cases ho; rfl) _ _ _ (ent_alike q) r (by simp), q⟩
      · have hi2 := (List.getElem?_eq_some_iff.mp hv).1
        simp only [List.length_append, List.length_cons, List.length_nil] at hi2
        have ei : i = its.length := by omega
        rw [ei, List.getElem?_append_right (Nat.le_refl _), Nat.sub_self] at hv
        rw [ei, hl, List.getElem?_append_right (Nat.le_refl _), Nat.sub_self] at hf
        have ev : x = v := Option.some.inj hv
        have ef : e = f := Option.some.inj hf
        subst ev ef
        exact ⟨px, PySem.W.Reads.keepBut keep (fun o ho => by rw [show hp.get? a = _ from e0] at ho; cases ho; rfl) _ _ _ (ent_alike al) rx (by simp), al⟩
    · have lenE : ∀ (i : Nat) f, (es ++ [e])[i]? = some f → (i < es.length ∧ es[i]? = some f) ∨ (i = es.length ∧ f = e) := fun i f hf => by
        by_cases hi : i < es.length
        · rw [List.getElem?_append_left hi] at hf; exact .inl ⟨hi, hf⟩
        · have hi2 := (List.getElem?_eq_some_iff.mp hf).1
          simp only [List.length_append, List.length_cons, List.length_nil] at hi2
          have ei : i = es.length := by omega
          rw [ei, List.getElem?_append_right (Nat.le_refl _), Nat.sub_self] at hf
          exact .inr ⟨ei, (Option.some.inj hf).symm⟩
      rcases lenE i f hf with ⟨a1, a2⟩ | ⟨a1, a2⟩ <;> rcases lenE j f' hf' with ⟨b1, b2⟩ | ⟨b1, b2⟩
      · exact S.ks i j f f' a2 b2 hij
      · subst b2; exact hk f (List.mem_of_getElem? a2)
      · subst a2; exact (hk f' (List.mem_of_getElem? b2)).symm
      · omega
  wp_walk using (wpAny_updateSeq e0 rfl (hz := hzz) (_hz' := hzz')), wpAny_loadPart' e1, wpAny_load' e1
  refine ⟨plainId_quiet plain_sift _, codeAny_builtin entry_sift ?_⟩
  rw [Around.under_plainId plain_sift _]
  have el : (its ++ [x]).toArray.size - 1 = es.length := by simp [hl]
  rw [el]
  exact sift_up P a .none es.length es.length (its ++ [x]) (es ++ [e]) (Nat.le_refl _) (KH.Up.push hh e) prog w A R ⟨_, g, d, tk, os⟩ ⟨hu, S1, fun h' its' es' a1 a2 a3 a4 => h h' its' es' a1 a2 a3 fun b o hb ho => a4 b o hb (keep b o hb ho)⟩
theorem snoc_of {α : Type} : ∀ {l : List α}, l ≠ [] → ∃ m z, l = m ++ [z]
  | [], h => absurd rfl h
  | [x], _ => ⟨[], x, rfl⟩
  | x :: y :: l, _ => by
    obtain ⟨m, z, e⟩ := snoc_of (l := y :: l) (by simp)
    exact ⟨x :: m, z, by rw [e]; rfl⟩
/-- heappop of one item -/
theorem pop_one (P : Value → Ent → Prop) (a : Addr) (x : Value) (e : Ent) :
    Meets (Builtin.«_heapq.heappop» ⟨[.ref a], []⟩) (fun A R s => HSt P s.heap a [x] [e] ∧ (∀ h', HSt P h' a [] [] → (∀ b o, b ≠ a → s.heap.get? b = some o → h'.get? b = some o) → R (.ok (.ret x)) { s with heap := h' })) := by
  intro prog w A R s h
  obtain ⟨hp, g, d, tk, os⟩ := s
  obtain ⟨S, h⟩ := h
  obtain ⟨n, e0⟩ := id S.ls
  have f1 := PySem.F.sub_list_list
  obtain ⟨n1, e1⟩ : ∃ n1, (hp.update a (Obj.mapSeq fun xs => xs.pop)).get? a = some { cls := .type "list", dict := none, data := .seq ([] : List Value).toArray n1, slots := #[] } :=
    ⟨_, by rw [Heap.get?_update_self _ e0 rfl]; simp only [Obj.mapSeq]; rfl⟩
  have hz1 : ([x].toArray).size ≤ sizeLine := by simp; rw [sizeLine_eq]; omega
  have hz2 : ([x].toArray.pop).size ≤ sizeLine + 1 := by simp
  have S1 := S.write (its' := []) (es' := []) e1 (fun b o hb ho => (Heap.get?_update_other _ _ (Ne.symm hb)).trans ho) rfl (by simp) (fun i v f hv => by simp at hv) (fun i j f f' hf => by simp at hf)
  wp_walk using (wpAny_updateSeq e0 rfl (hz := hz1) (_hz' := hz2)), wpAny_loadPart' e0, wpAny_load' e0
  exact h _ S1 fun b o hb ho => (Heap.get?_update_other _ _ (Ne.symm hb)).trans ho
theorem pop_more (P : Value → Ent → Prop) (a : Addr) (x y : Value) (e f : Ent) (its : List Value) (es : List Ent) (hl : its.length = es.length) (hh : KH.Hpd entLt (e :: es ++ [f])) :
    Meets (Builtin.«_heapq.heappop» ⟨[.ref a], []⟩) (fun A R s => A.units + 20 < cLine ∧ HSt P s.heap a (x :: its ++ [y]) (e :: es ++ [f]) ∧
        (∀ h' its' es', HSt P h' a its' es' → es'.Perm (f :: es) → KH.Hpd entLt es' → (∀ b o, b ≠ a → s.heap.get? b = some o → h'.get? b = some o) → R (.ok (.ret x)) { s with heap := h' })) := by
  intro prog w A R s h
  obtain ⟨hp, g, d, tk, os⟩ := s
  obtain ⟨hu, S, h⟩ := h
  obtain ⟨n, e0⟩ := id S.ls
  have f1 := PySem.F.sub_list_list
  obtain ⟨n1, e1⟩ : ∃ n1, (hp.update a (Obj.mapSeq fun xs => xs.pop)).get? a = some { cls := .type "list", dict := none, data := .seq (x :: its).toArray n1, slots := #[] } :=
    ⟨_, by rw [Heap.get?_update_self _ e0 rfl]; simp only [Obj.mapSeq, List.pop_toArray, List.dropLast_concat]; rfl⟩
  obtain ⟨n2, e2⟩ : ∃ n2, ((hp.update a (Obj.mapSeq fun xs => xs.pop)).update a (Obj.mapSeq fun xs => xs.setIfInBounds 0 y)).get? a = some { cls := .type "list", dict := none, data := .seq (y :: its).toArray n2, slots := #[] } :=
    ⟨_, by rw [Heap.get?_update_self _ e1 rfl]; simp [Obj.mapSeq]; rfl⟩
  have hz := S.sz
  simp only [List.length_append, List.length_cons, List.length_nil] at hz
  have hz1 : ((x :: its ++ [y]).toArray).size ≤ sizeLine := by simp; omega
  have hz2 : ((x :: its ++ [y]).toArray.pop).size ≤ sizeLine + 1 := by simp; omega
  have hz3 : ((x :: its).toArray).size ≤ sizeLine := by simp; omega
  have hz4 : ((x :: its).toArray.setIfInBounds 0 y).size ≤ sizeLine + 1 := by simp; omega
  have keep : ∀ b o, b ≠ a → hp.get? b = some o → ((hp.update a (Obj.mapSeq fun xs => xs.pop)).update a (Obj.mapSeq fun xs => xs.setIfInBounds 0 y)).get? b = some o := fun b o hb ho =>
    (Heap.get?_update_other _ _ (Ne.symm hb)).trans ((Heap.get?_update_other _ _ (Ne.symm hb)).trans ho)
  have lastI : (x :: its ++ [y])[its.length + 1]? = some y := by simp
  have lastE : (e :: es ++ [f])[es.length + 1]? = some f := by simp
  have S1 := S.write (its' := y :: its) (es' := f :: es) e2 keep (by simp [hl]) (by simp; omega) (fun i v q hv hq => ?sub) (fun i j q q' hq hq' hij => ?ks)
  case sub =>
    cases i with
    | zero =>
      have ev : y = v := Option.some.inj hv
      have ef : f = q := Option.some.inj hq
      subst ev ef
      exact ⟨its.length + 1, lastI, by rw [hl]; exact lastE⟩
    | succ i =>
      have hv : its[i]? = some v := by simpa using hv
      have hq : es[i]? = some q := by simpa using hq
      have h1 := (List.getElem?_eq_some_iff.mp hv).1
      have h2 := (List.getElem?_eq_some_iff.mp hq).1
      refine ⟨i + 1, ?_, ?_⟩
      · rw [List.getElem?_append_left (by simp; omega)]; simpa using hv
      · rw [List.getElem?_append_left (by simp; omega)]; simpa using hq
  case ks =>
    have at_ : ∀ (i : Nat) q, (f :: es)[i]? = some q → ∃ i' : Nat, (e :: es ++ [f])[i']? = some q ∧ (i' = if i = 0 then es.length + 1 else i) ∧ i ≤ es.length := fun i q hq => by
      cases i with
      | zero =>
        have ef : f = q := Option.some.inj hq
        subst ef
        exact ⟨es.length + 1, lastE, rfl, Nat.zero_le _⟩
      | succ i =>
        have hq : es[i]? = some q := by simpa using hq
        have h2 := (List.getElem?_eq_some_iff.mp hq).1
        refine ⟨i + 1, ?_, rfl, by omega⟩
        rw [List.getElem?_append_left (by simp; omega)]; simpa using hq
    obtain ⟨i1, a1, a2, a3⟩ := at_ i q hq
    obtain ⟨j1, b1, b2, b3⟩ := at_ j q' hq'
    refine S.ks i1 j1 q q' a1 b1 ?_
    rw [a2, b2]
    repeat' split
    all_goals omega
  have D0 : KH.Dn entLt (f :: es) 0 := by
    have := KH.Dn.pop (l := e :: es) (y := f) hh (by simp)
    simpa using this
  have hne : ((x :: its ++ [y]).toArray.size == 1) = false := by simp
  have hback : (x :: its ++ [y]).toArray.back? = some y := by
    rw [List.back?_toArray]
    exact List.getLast?_concat
  wp_walk using wpAny_loadPart' e0, wpAny_load' e0
  simp only [hback]
  wp_walk using (wpAny_updateSeq e0 rfl (hz := hz1) (_hz' := hz2)), (wpAny_updateSeq e1 rfl (hz := hz3) (_hz' := hz4)), wpAny_loadPart' e0, wpAny_load' e0
  have ex : (x :: its ++ [y]).toArray[0] = x := rfl
  refine ⟨plainId_quiet plain_sift _, codeAny_builtin entry_sift ?_⟩
  rw [Around.under_plainId plain_sift _]
  exact sift_down P a x (f :: es).length 0 (y :: its) (f :: es) (by simp) D0 prog w A R ⟨_, g, d, tk, os⟩ ⟨hu, S1, fun h' its' es' a1 a2 a3 a4 => h h' its' es' a1 a2 a3 fun b o hb ho => a4 b o hb (keep b o hb ho)⟩
end R59
/-! KR5 -/
set_option maxHeartbeats 1000000
namespace R59
open PySem PySem.Spec PyProof.Rows L2
mutual
theorem reads_flat {h : Heap} : ∀ (d : PyData) (v : Value) (as : List Addr), flatD d = true → Reads h v d as → as = []
  | .none, _, _, _, .none => rfl
  | .bool _, _, _, _, .bool _ => rfl
  | .int _, _, _, _, .int _ _ => rfl
  | .str _, _, _, _, .str _ _ => rfl
  | .tuple ds, _, _, f, .tuple h1 h2 h3 h4 => readsAll_flat ds _ _ (by rw [flatD] at f; exact f) h4
  | .list _, _, _, f, _ => by rw [flatD] at f; cases f
  | .dict _, _, _, f, _ => by rw [flatD] at f; cases f
theorem readsAll_flat {h : Heap} : ∀ (ds : List PyData) (vs : List Value) (as : List Addr), flatDs ds = true → ReadsAll h vs ds as → as = []
  | [], _, _, _, .nil => rfl
  | d :: ds, _, _, f, .cons a b => by
    rw [flatDs, Bool.and_eq_true] at f
    rw [reads_flat d _ _ f.1 a, readsAll_flat ds _ _ f.2 b]; rfl
end
mutual
theorem plain_flat : ∀ d : PyData, flatD d = true → d.plain = true
  | .none, _ => rfl
  | .bool _, _ => rfl
  | .int _, _ => rfl
  | .str _, _ => rfl
  | .tuple ds, f => by rw [PyData.plain]; exact plainAll_flat ds (by rw [flatD] at f; exact f)
  | .list _, f => by rw [flatD] at f; cases f
  | .dict _, f => by rw [flatD] at f; cases f
theorem plainAll_flat : ∀ ds : List PyData, flatDs ds = true → PyData.plainAll ds = true
  | [], _ => rfl
  | d :: ds, f => by
    rw [flatDs, Bool.and_eq_true] at f
    rw [PyData.plainAll, plain_flat d f.1, plainAll_flat ds f.2]; rfl
end
theorem flat_ints : ∀ ns : List Int, flatDs (ns.map .int) = true
  | [] => rfl
  | n :: ns => by rw [List.map_cons, flatDs, flatD, flat_ints ns]; rfl
theorem flat_app : ∀ a b : List PyData, flatDs (a ++ b) = (flatDs a && flatDs b)
  | [], b => by simp [flatDs]
  | x :: a, b => by rw [List.cons_append, flatDs, flatDs, flat_app a b, Bool.and_assoc]
theorem flat_entD {e : Ent} (h : flatD e.t = true) : flatD (entD e) = true := by
  unfold entD
  rw [flatD]
  simp only [flatDs, flatD, flat_ints, h, Bool.and_true, Bool.true_and]
theorem each_of_get {α β : Type} {R : α → β → Prop} : ∀ {as : List α} {bs : List β}, as.length = bs.length → (∀ (i : Nat) a b, as[i]? = some a → bs[i]? = some b → R a b) → PySem.W.EachIs R as bs
  | [], [], _, _ => .nil
  | a :: as, b :: bs, hl, h => .cons (h 0 a b rfl rfl) (each_of_get (by simpa using hl) fun i x y e1 e2 => h (i + 1) x y (by simpa using e1) (by simpa using e2))
  | [], _ :: _, hl, _ => by simp at hl
  | _ :: _, [], hl, _ => by simp at hl
theorem each_map' {α : Type} {K : PySem.W.Frag} {H : Hp} (f : α → PyData) : ∀ {out : List Value} {es : List α}, PySem.W.EachIs (fun v e => ∃ x, RelV x v ∧ Dp K H x (f e)) out es → PySem.W.EachIs (fun v d => ∃ x, RelV x v ∧ Dp K H x d) out (es.map f)
  | _, _, .nil => .nil
  | _, _, .cons a b => .cons a (each_map' f b)
/-- entries that wait: told apart by their numbers, a heap -/
structure EntOk (es : List Ent) : Prop where
  hp : KH.Hpd entLt es
  ks : es.Pairwise fun a b => a.k ≠ b.k
  al : ∀ e ∈ es, PySem.W.alike e.t e.t = true ∧ flatD e.t = true
def rPush (K : PySem.W.Frag) : List V → Hp → VK → Prop := fun xs H Q => ∃ (l : Addr) (vs : List V) (es : List Ent) (x : V) (e : Ent), xs = [.ref l, x] ∧ H l = some (.lst vs) ∧ DpAll K H vs (es.map entD) ∧ EntOk es ∧ Dp K H x (entD e) ∧ (∀ e' ∈ es, e'.k ≠ e.k) ∧ PySem.W.alike e.t e.t = true ∧ flatD e.t = true ∧ vs.length < sizeLine ∧
  ∀ (vs' : List V) (es' : List Ent), es'.Perm (es ++ [e]) → EntOk es' → DpAll K (upd H l (.lst vs')) vs' (es'.map entD) → Q .non (upd H l (.lst vs'))
def rPop (K : PySem.W.Frag) : List V → Hp → VK → Prop := fun xs H Q => ∃ (l : Addr) (vs : List V) (es : List Ent), xs = [.ref l] ∧ H l = some (.lst vs) ∧ DpAll K H vs (es.map entD) ∧ EntOk es ∧ es ≠ [] ∧
  ∀ (x : V) (e : Ent) (vs' : List V) (es' : List Ent), (e :: es').Perm es → (∀ e' ∈ es', entLt e' e = false) → EntOk es' → DpAll K (upd H l (.lst vs')) vs' (es'.map entD) → Dp K (upd H l (.lst vs')) x (entD e) → Q x (upd H l (.lst vs'))
section
variable {X : Cx}
theorem hst_of {pins : List (Addr × Obj)} {σ : L2.St} {H : Hp} {s : Shared} {l : Addr} {vs : List V} {es : List Ent} (I : Inv X pins σ H s) (hl : H l = some (.lst vs)) (hd : DpAll X.K H vs (es.map entD)) (ok : EntOk es) :
    ∃ its, Vals vs its ∧ HSt (fun v e => ∃ x, RelV x v ∧ Dp X.K H x (entD e)) s.heap l its es := by
  obtain ⟨z, its, n, rv, hln, e0⟩ := I.lstM hl
  have hlen : vs.length = es.length := by rw [hd.len, List.length_map]
  refine ⟨its, rv, ⟨n, e0⟩, by omega, by omega, fun i v e hv he => ?_, fun i j e e' he he' hij => ?_⟩
  · obtain ⟨x, hx, dx⟩ := hd.get (i := i) (d := entD e) (by rw [List.getElem?_map, he]; rfl)
    obtain ⟨u, hu, ru⟩ := rv.get hx
    rw [hv] at hu
    cases hu
    obtain ⟨as, r⟩ := Dp.reads I _ x v dx ru
    have := ok.al e (List.mem_of_getElem? he)
    have ea := reads_flat _ _ _ (flat_entD this.2) r
    rw [ea] at r
    exact ⟨⟨x, ru, dx⟩, r, this.1⟩
  · obtain ⟨h1, e1⟩ := List.getElem?_eq_some_iff.mp he
    obtain ⟨h2, e2⟩ := List.getElem?_eq_some_iff.mp he'
    rcases Nat.lt_or_gt_of_ne hij with q | q
    · have := List.pairwise_iff_getElem.mp ok.ks i j h1 h2 q
      rw [e1, e2] at this; exact this
    · have := List.pairwise_iff_getElem.mp ok.ks j i h2 h1 q
      rw [e1, e2] at this; exact this.symm
theorem hst_to {pins : List (Addr × Obj)} {σ : L2.St} {H : Hp} {s : Shared} {l : Addr} {vs : List V} {its' : List Value} {es' : List Ent} {h' : Heap} (I : Inv X pins σ H s) (hl : H l = some (.lst vs)) (S : HSt (fun v e => ∃ x, RelV x v ∧ Dp X.K H x (entD e)) h' l its' es')
    (al : ∀ e ∈ es', PySem.W.alike e.t e.t = true ∧ flatD e.t = true) (keep : ∀ b o, b ≠ l → s.heap.get? b = some o → h'.get? b = some o) (t' : Nat) :
    ∃ vs', Vals vs' its' ∧ DpAll X.K (upd H l (.lst vs')) vs' (es'.map entD) ∧ Inv X pins σ (upd H l (.lst vs')) { s with heap := h', toks := t' } := by
  have E := each_map' entD (each_of_get S.ln fun i v e hv he => (S.rd i v e hv he).1)
  obtain ⟨vs', r, d⟩ := vals_of_each E
  have fl : flatDs (es'.map entD) = true := by
    clear E S d r
    induction es' with
    | nil => rfl
    | cons e es ih => rw [List.map_cons, flatDs, flat_entD (al e List.mem_cons_self).2, ih fun x hx => al x (List.mem_cons_of_mem _ hx)]; rfl
  have tp : Tps X.K H (upd H l (.lst vs')) := Tps.mut hl trivial
  obtain ⟨n, e0⟩ := S.ls
  refine ⟨vs', r, DpAll.tps tp _ _ fl d, I.write (x := l) (e := l) (by rw [hl]; trivial) (.inl rfl) keep ⟨_, e0⟩ ⟨by rw [r.length]; exact S.sz, its', n, r, e0⟩⟩
theorem ok_of {P : Value → Ent → Prop} {h : Heap} {a : Addr} {its : List Value} {es : List Ent} (S : HSt P h a its es) (hh : KH.Hpd entLt es) (al : ∀ e ∈ es, PySem.W.alike e.t e.t = true ∧ flatD e.t = true) : EntOk es :=
  ⟨hh, List.pairwise_iff_getElem.mpr fun i j hi hj hij => S.ks i j _ _ (List.getElem?_eq_getElem hi) (List.getElem?_eq_getElem hj) (by omega), al⟩
end
theorem kind_push : builtinKind "_heapq.heappush" = none := by decide +kernel
theorem kind_pop : builtinKind "_heapq.heappop" = none := by decide +kernel
theorem plain_push : plainId "_heapq.heappush" = true := by decide +kernel
theorem plain_pop : plainId "_heapq.heappop" = true := by decide +kernel
theorem args_push (a b : Value) : argsOk "_heapq.heappush" ⟨[a, b], []⟩ := by unfold argsOk; kernel_rfl
theorem args_pop (a : Value) : argsOk "_heapq.heappop" ⟨[a], []⟩ := by unfold argsOk; kernel_rfl
section
variable {X : Cx}
theorem cr_push (hu : X.A.units + 190 < cLine) : CallR X (.builtin "_heapq.heappush") (rPush X.K) := by
  intro pins s σ H xs us Q I r h
  obtain ⟨l, vs, es, x, e, rfl, hl, hd, ok, dx, hk, al, fl, hz, q⟩ := h
  obtain ⟨its, rv, S⟩ := hst_of I hl hd ok
  cases r with
  | cons r1 r2 =>
    rename_i u1 us1
    cases r1
    cases r2 with
    | cons r2 r3 =>
      rename_i u2 us2
      cases r3
      obtain ⟨as, rx⟩ := Dp.reads I _ x u2 dx r2
      rw [reads_flat _ _ _ (flat_entD fl) rx] at rx
      refine PySem.call_function_meets kind_push plain_push entry_push (args_push _ _) (push_meets (fun v e => ∃ x, RelV x v ∧ Dp X.K H x (entD e)) l u2 e its es (by rw [← rv.length]; exact hz) ok.hp hk) ⟨by omega, S, ⟨x, r2, dx⟩, rx, al, fun h' its' es' S' pm hh keep => ?_⟩
      have al' : ∀ e' ∈ es', PySem.W.alike e'.t e'.t = true ∧ flatD e'.t = true := fun e' he' => by
        rcases List.mem_append.mp (pm.mem_iff.mp he') with h1 | h1
        · exact ok.al e' h1
        · rw [List.mem_singleton.mp h1]; exact ⟨al, fl⟩
      obtain ⟨vs', r', d', I'⟩ := hst_to I hl S' al' keep s.toks
      exact ⟨.non, _, I', rfl, q vs' es' pm (ok_of S' hh al') d'⟩
theorem cr_pop (hu : X.A.units + 190 < cLine) : CallR X (.builtin "_heapq.heappop") (rPop X.K) := by
  intro pins s σ H xs us Q I r h
  obtain ⟨l, vs, es, rfl, hl, hd, ok, hne, q⟩ := h
  obtain ⟨its, rv, S⟩ := hst_of I hl hd ok
  cases r with
  | cons r1 r2 =>
    rename_i u1 us1
    cases r1
    cases r2
    cases es with
    | nil => exact absurd rfl hne
    | cons e es =>
      have hl1 := S.ln
      cases its with
      | nil => simp at hl1
      | cons v its =>
        have le : ∀ e' ∈ es, entLt e' e = false := fun e' he' => by
          obtain ⟨i, hi⟩ := List.mem_iff_getElem?.mp he'
          exact KH.Hpd.least entLe_trans entLe_refl ok.hp (x := e) rfl (i + 1) e' (by simpa using hi)
        have pv := (S.rd 0 v e rfl rfl).1
        obtain ⟨x, rx, dx⟩ := pv
        have fe := ok.al e List.mem_cons_self
        rcases List.eq_nil_or_concat es with he | ⟨es1, f, he⟩
        · subst he
          have : its = [] := by
            rw [List.length_cons] at hl1
            exact List.length_eq_zero_iff.mp (by simpa using hl1)
          subst this
          refine PySem.call_function_meets kind_pop plain_pop entry_pop (args_pop _) (pop_one _ l v e) ⟨S, fun h' S' keep => ?_⟩
          obtain ⟨vs', r', d', I'⟩ := hst_to I hl S' (fun _ h => nomatch h) keep s.toks
          have tp : Tps X.K H (upd H l (.lst vs')) := Tps.mut hl trivial
          exact ⟨x, _, I', rx, q x e vs' [] (List.Perm.refl _) (fun _ h => nomatch h) ⟨KH.Hpd.nil, List.Pairwise.nil, fun _ h => nomatch h⟩ d' (Dp.tps tp _ _ (flat_entD fe.2) dx)⟩
        · have he : es = es1 ++ [f] := by rw [he, List.concat_eq_append]
          subst he
          have hne2 : its ≠ [] := fun z => by rw [z] at hl1; simp at hl1
          obtain ⟨its1, y, ei⟩ := snoc_of hne2
          subst ei
          refine PySem.call_function_meets kind_pop plain_pop entry_pop (args_pop _) (pop_more _ l v y e f its1 es1 (by simpa using hl1) ok.hp) ⟨by omega, S, fun h' its' es' S' pm hh keep => ?_⟩
          have pm2 : es'.Perm (es1 ++ [f]) := pm.trans (List.perm_append_comm (l₁ := [f]) (l₂ := es1))
          have al' : ∀ e' ∈ es', PySem.W.alike e'.t e'.t = true ∧ flatD e'.t = true := fun e' he' => ok.al e' (List.mem_cons_of_mem _ (pm2.mem_iff.mp he'))
          obtain ⟨vs', r', d', I'⟩ := hst_to I hl S' al' keep s.toks
          have tp : Tps X.K H (upd H l (.lst vs')) := Tps.mut hl trivial
          exact ⟨x, _, I', rx, q x e vs' es' (pm2.cons e) (fun e' he' => le e' (pm2.mem_iff.mp he')) (ok_of S' hh al') d' (Dp.tps tp _ _ (flat_entD fe.2) dx)⟩
end
end R59
/-! KR6 -/
set_option maxHeartbeats 1000000
namespace R59
open PySem PySem.Spec PyProof.Rows L2
/-! ### enumerate(t), t a tuple -/
set_option maxHeartbeats 2000000 in
theorem meets_enum_tup (l : Addr) (items : Array Value) (n : Nat) (dct : Option Addr) (sl : Array (Option Value)) :
    Meets (Builtin.«enumerate.__new__» ⟨[.type "enumerate", .ref l], []⟩) (fun _ R s => s.heap.get? l = some { cls := .type "tuple", dict := dct, data := .seq items n, slots := sl } ∧
      R (.ok (.ret (.ref (s.heap.push { cls := .type "tuple_iterator", data := .fields #[.ref l, .int 0 0] }).objs.size)))
        { s with heap := (s.heap.push { cls := .type "tuple_iterator", data := .fields #[.ref l, .int 0 0] }).push { cls := .type "enumerate", data := .fields #[.none, .bool false, .ref s.heap.objs.size, rawInt 0, .none, .none] } }) :=
  .of_wp fun prog w A R s h => by
    obtain ⟨hp, g, d, tk, os⟩ := s
    obtain ⟨hl, h⟩ := h
    have hT : ({ heap := hp, gens := g, drawn := d, toks := tk, os := os } : Shared).heap.IsTuple l items := ⟨_, hl, rfl, _, rfl⟩
    have hsub := sub_enumerate
    wp_walk
    refine wpAny_stack_any fun st => wpAny_pure ?_
    split
    · rename_i c _ _ _ _ _
      cases (c == Value.type "enumerate")
      · wp_walk using wpAny_pyIter_tuple hT
        exact ⟨_, rfl, h⟩
      · wp_walk using wpAny_pyIter_tuple hT
        exact ⟨_, rfl, h⟩
    · wp_walk using wpAny_pyIter_tuple hT
      exact ⟨_, rfl, h⟩
theorem call_enum_tup {prog : Program} {w : World} {A : Around} {E : Value → Shared → Prop} {s : Shared} {l : Addr} {items : Array Value} {Q : Value → Shared → Prop} (hL : s.heap.IsTuple l items)
    (h : ∀ h', IsEnum h' (s.heap.objs.size + 1) s.heap.objs.size 0 .none → h'.IsTupleIter s.heap.objs.size l 0 → h'.objs.size = s.heap.objs.size + 2 → (∀ b o, s.heap.get? b = some o → h'.get? b = some o) → Q (.ref (s.heap.objs.size + 1)) { s with heap := h' }) :
    wpAny (model prog w) A (call (.type "enumerate") [.ref l]) Q E s := by
  obtain ⟨⟨c, dct, dt, sl⟩, hl, hc, n, hd⟩ := hL
  have hc : c = .type "tuple" := hc
  have hd : dt = .seq items n := hd
  subst hc hd
  refine callType_new PySem.F.called_enumerate (by decide) (PySem.F.typeCall_enumerate_1 _) (PySem.F.newCall_enumerate_1 _) (fun obj => PySem.F.args_object_init_2 obj _) PySem.F.entry_enumerate_new (meets_enum_tup l items n dct sl) ⟨hl, ?_⟩
  have hz : (s.heap.push { cls := .type "tuple_iterator", data := .fields #[.ref l, .int 0 0] }).objs.size = s.heap.objs.size + 1 := Heap.size_push ..
  show _ ∧ _
  rw [hz]
  have he : IsEnum ((s.heap.push { cls := .type "tuple_iterator", data := .fields #[.ref l, .int 0 0] }).push { cls := .type "enumerate", data := .fields #[.none, .bool false, .ref s.heap.objs.size, rawInt 0, .none, .none] }) (s.heap.objs.size + 1) s.heap.objs.size 0 .none := by
    have q := Heap.get?_push_size (s.heap.push { cls := .type "tuple_iterator", data := .fields #[.ref l, .int 0 0] }) (o := { cls := .type "enumerate", data := .fields #[.none, .bool false, .ref s.heap.objs.size, rawInt 0, .none, .none] }) rfl
    rw [hz] at q
    exact q
  exact ⟨⟨_, he, rfl⟩, h _ he ⟨_, Heap.get?_push_of_some _ (Heap.get?_push_size _ rfl), rfl, rfl⟩ (by rw [Heap.size_push, hz]) fun b o x => Heap.get?_push_of_some _ (Heap.get?_push_of_some _ x)⟩
theorem enum_tup_end {prog : Program} {w : World} {A : Around} {E : Value → Shared → Prop} {s : Shared} {e it l : Addr} {i : Nat} {items : Array Value} {old : Value} {Q : Option Value → Shared → Prop} (hh : A.handled = none) (he : IsEnum s.heap e it i old) (hit : s.heap.IsTupleIter it l i) (hl : s.heap.IsTuple l items)
    (hx : items[i]? = none) (hQ : ∀ h', Heap.ExtBut it s.heap h' → Q none { s with heap := h' }) : wpAny (model prog w) A (pyNext (.ref e)) Q E s := by
  have ty : s.TypeIs (.ref e) "enumerate" := ⟨_, he, rfl⟩
  unfold pyNext
  refine wpAny_bind (wpAny_attempt (wpAny_callSpecial?_slot (name := Str.ofString "__next__") ty PySem.F.slot_enumerate_next (wpAny_call_entry PySem.F.slot_enumerate_next ty PySem.F.entry_enumerate_next ?_ (PySem.F.args_enumerate_next_1 _))))
  show wpAny _ _ (field (.ref e) 2 >>= _) _ _ _
  refine wpAny_bind (wpAny_field he rfl (x := .ref it) rfl (wpAny_bind (wpAny_nextOf_tuple_end hh hit hl hx fun h' x k ⟨o, ho, hc⟩ => ?_)))
  exact wpAny_bind (wpAny_isInstance (T := "StopIteration") (b := true) ⟨o, ho, hc⟩ isSubtype_stop (wpAny_pure (hQ _ k)))
/-- the tuple at a as it stands, its items with their places in new pairs -/
def IteT (K : PySem.W.Frag) (a : Addr) : It :=
  ⟨fun i H => ∃ (xs : List V) (x : V), SqT K H a xs ∧ xs[i]? = some x, fun i H v H' => ∃ T x, v = .ref T ∧ H T = none ∧ H' = upd H T (.tup [.int (i : Nat), x]) ∧ ∀ xs, SqT K H a xs → xs[i]? = some x, fun i H => ∃ xs : List V, SqT K H a xs ∧ xs.length ≤ i⟩
theorem Inv.tup_inj {X : Cx} {pins : List (Addr × Obj)} {σ : L2.St} {H : Hp} {s : Shared} {a : Addr} {xs ys : List V} (I : Inv X pins σ H s) (h : SqT X.K H a xs) (h' : SqT X.K H a ys) : xs = ys := by
  obtain ⟨its, r, ⟨o, e, _, n, d⟩, _⟩ := I.tuple h
  obtain ⟨its', r', ⟨o', e', _, n', d'⟩, _⟩ := I.tuple h'
  rw [e] at e'; cases e'
  rw [d] at d'
  injection d' with d1 _
  have : its = its' := by simpa using congrArg Array.toList d1
  subst this
  exact r.inj r'
theorem turn_enumT {P : Program} {w : World} {K : PySem.W.Frag} {elts : List Expr} {kk : Nat} {tpos : Pos} (a e it : Addr) (hai : a ≠ it) (hea : e ≠ a) :
    Turn P w K (.Tuple elts kk tpos) (IteT K a) [e, it] e (fun i h => (∃ old, IsEnum h e it ((i : Nat) : Int) old) ∧ h.IsTupleIter it a i ∧ e ≠ it) where
  mem := by simp
  obj := fun i h st b hb => by
    obtain ⟨⟨old, he⟩, ⟨o, ho, hc, hd⟩, _⟩ := st
    have e' : b = e ∨ b = it := by simpa using hb
    rcases e' with z | z
    · rw [z]; exact ⟨_, he, fun v q => nomatch q⟩
    · rw [z]; exact ⟨o, ho, fun v q => by rw [hd] at q; cases q⟩
  keep := fun i h h' st k => let ⟨⟨old, he⟩, hi, hne⟩ := st; ⟨⟨old, k e (by simp) _ he⟩, hi.at fun o q => k it (by simp) o q, hne⟩
  item := by
    intro X hP hw hK hc i pins s σ H E I hf st hg
    subst hP hw hK
    obtain ⟨⟨old, he⟩, hit, hne⟩ := st
    obtain ⟨xs, x, hq, hx⟩ := hg
    obtain ⟨its, rv, p, hz⟩ := I.tuple hq
    obtain ⟨u, hu, ru⟩ := rv.get hx
    have hil2 := (List.getElem?_eq_some_iff.mp hu).1
    have hel : e < s.heap.objs.size := Heap.lt_size he
    have hil : it < s.heap.objs.size := by obtain ⟨_, q, _⟩ := hit; exact Heap.lt_size q
    have D := Draws.tuple (prog := X.prog) (w := X.w) (A := X.A.in1) (I.ok.hd hc) it a hai its.toArray
    refine wpAny_pyNext_enum_itemD (n := its.toArray.size) D he ⟨hit, p⟩ (by simpa using hil2) hne (by simp [hne, hea]) fun y h' tk hy ho st' hT hsz hk => ?_
    have ey : y = u := by
      rw [show its.toArray[i]? = some u from by simpa using hu] at hy
      exact (Option.some.inj hy).symm
    subst ey
    refine ⟨_, rfl, wpAny_letOwnedTupleGo_enum (s := { s with heap := h', toks := tk + 1 }) ho fun h'' he' sb => ?_⟩
    have hT2 : h''.get? s.heap.objs.size = some { cls := .type "tuple", data := .seq #[.int i tk, y] } := (sb.2 _ (Nat.ne_of_gt hel)).trans hT
    have new : ObjOk X.prog X.w (upd H s.heap.objs.size (.tup [.int (i : Nat), x])) h'' s.heap.objs.size (.tup [.int (i : Nat), x]) :=
      ⟨by show 2 ≤ sizeLine; decide, [.int i tk, y], .cons ⟨_, rfl⟩ (.cons ru .nil), ⟨_, hT2, rfl, _, rfl⟩⟩
    have I1 : Inv X pins σ (upd H s.heap.objs.size (.tup [.int (i : Nat), x])) { s with heap := h'', toks := tk + 1 } :=
      I.turnedNew (ch := [e, it]) (fun b ob hb q => (sb.2 b (fun z => hb (by simp [z]))).trans (hk b ob (fun z => hb (by simp [z])) (fun z => hb (by simp [z])) q)) hf (Nat.le_refl _) new
    refine ⟨.ref s.heap.objs.size, _, I1, rfl, ⟨_, x, rfl, I.hok.fresh (Nat.le_refl _), rfl, fun ys hy => by rw [Inv.tup_inj I hy hq]; exact hx⟩, ⟨⟨y, ?_⟩, st'.1.at fun o q => (sb.2 it (Ne.symm hne)).trans q, hne⟩, fun b hb => ?_⟩
    · have e1 : ((i + 1 : Nat) : Int) = (i : Int) + 1 := by omega
      rw [e1]; exact he'
    · have hb' : b < s.heap.objs.size := by
        have e' : b = e ∨ b = it := by simpa using hb
        rcases e' with z | z
        · rw [z]; exact hel
        · rw [z]; exact hil
      rw [upd_ne (Nat.ne_of_lt hb')]
      exact (hf b hb).1
  done := by
    intro X hP hw hK hc i pins s σ H E I hf st hg
    subst hP hw hK
    obtain ⟨⟨old, he⟩, hit, hne⟩ := st
    obtain ⟨xs, hq, hx⟩ := hg
    obtain ⟨its, rv, p, hz⟩ := I.tuple hq
    obtain ⟨f0, f1, f2, f3, f4, f5⟩ := hf it (by simp)
    have hl := rv.length
    exact enum_tup_end (I.ok.hd hc) he hit p (by simp; omega) fun h' eb => ⟨rfl, I.turned (t' := s.toks) (fun b o hb q => eb b o hb q) f0 f1 f3 f4 f5⟩
  self := fun A i s Q E st h => let ⟨⟨_, he⟩, _⟩ := st; wpAny_pyIter_enum he h
def iEnumT (K : PySem.W.Frag) (ta : TA) : TI := fun σ H R => ta σ H fun vs H1 => ∃ a xs, vs = [.ref a] ∧ SqT K H1 a xs ∧ R (IteT K a) H1
theorem pi_enumT {X : Cx} {e : Expr} {ta : TA} {p pos tpos : Pos} {elts : List Expr} {kk : Nat} (hg : Gl X "enumerate") (hm : X.mg "enumerate" = none) (ha : PA X [e] ta) (hs : starEach [e] X.env = [(false, eval e X.env)] := by rfl) :
    PI X (.Tuple elts kk tpos) (.Call (.Name "enumerate" p) [e] [] pos) (iEnumT X.K ta) := by
  refine ⟨fun pins s σ H R I h => ?_⟩
  refine Call_ (ld_blt I hg hm boot_enumerate (PyProof.Rows.callWith_type1 (thn (ha.run pos pins s σ H _ I h) fun us s1 ⟨vs, H1, I1, r1, q1⟩ => ?_) hs rfl))
  obtain ⟨a, xs, ex, hq, q⟩ := q1
  subst ex
  cases r1 with
  | cons r rr =>
    cases rr
    cases r
    obtain ⟨its, rv, p', hz⟩ := I1.tuple hq
    have hal : a < s1.heap.objs.size := p'.lt
    refine call_enum_tup p' fun h' he hit hsz hk => wpAny_pyIter_enum he ?_
    have I2 : Inv X pins σ H1 { s1 with heap := h' } := I1.kept (t' := s1.toks) hk
    refine ⟨s1.heap.objs.size + 1, [s1.heap.objs.size + 1, s1.heap.objs.size], _, _, H1, rfl, I2, turn_enumT a (s1.heap.objs.size + 1) s1.heap.objs.size (Nat.ne_of_lt hal) (Nat.ne_of_gt (Nat.lt_succ_of_lt hal)), ⟨⟨.none, he⟩, hit, Nat.succ_ne_self _⟩, fun b hb => ?_, q⟩
    have hle : s1.heap.objs.size ≤ b := by
      have e' : b = s1.heap.objs.size + 1 ∨ b = s1.heap.objs.size := by simpa using hb
      rcases e' with z | z
      · rw [z]; exact Nat.le_add_right _ _
      · rw [z]; exact Nat.le_refl _
    exact I1.fpOk hle (I1.hok.fresh hle)
/-- what is told of tuples is told once -/
def One (K : PySem.W.Frag) : Prop := ∀ (H : Hp) (a : Addr) (xs ys : List V), SqT K H a xs → SqT K H a ys → xs = ys
theorem walk_enumT {K : PySem.W.Frag} {a : Addr} {xs : List V} : Walk (IteT K a) xs.length (fun H => SqT K H a xs) (YPair (fun i => some (.int (i : Nat))) (fun i => xs[i]?)) where
  goes := fun i H hi h => ⟨xs, xs[i], h, List.getElem?_eq_getElem hi⟩
  stops := fun H h => ⟨xs, h, Nat.le_refl _⟩
  yields := fun i H x H' hi h ⟨T, y, e1, e2, e3, e4⟩ => ⟨T, .int (i : Nat), y, e1, e2, e3, rfl, e4 xs h⟩
open RZ in
theorem walk_zipT {K : PySem.W.Frag} {a b : Addr} {xs ys : List V} {n : Nat} (hn : n = min xs.length ys.length) : Walk (ItzT K a b) n (fun H => SqT K H a xs ∧ SqT K H b ys) (YPair (fun i => xs[i]?) (fun i => ys[i]?)) where
  goes := fun i H hi h => by
    have h1 : i < xs.length := by omega
    have h2 : i < ys.length := by omega
    exact ⟨xs, ys, xs[i], ys[i], h.1, h.2, List.getElem?_eq_getElem h1, List.getElem?_eq_getElem h2⟩
  stops := fun H h => ⟨xs, ys, h.1, h.2, by omega⟩
  yields := fun i H x H' hi h ⟨T, y, z, e1, e2, e3, e4, e5⟩ => ⟨T, y, z, e1, e2, e3, e4 xs h.1, e5 ys h.2⟩
/-! ### ==, in, remove, repr, list(reversed(l)) -/
end R59
namespace L2
open PySem PySem.Spec PyProof.Rows R59
mutual
theorem Dp.plain' {K : PySem.W.Frag} {H : Hp} : ∀ (d : PyData) (v : V), Dp K H v d → d.plain = true
  | .none, _, _ => rfl
  | .bool _, _, _ => rfl
  | .int _, _, _ => rfl
  | .str _, _, _ => rfl
  | .list ds, _, h => by
    cases h with
    | lst _ ha => rw [PyData.plain]; exact DpAll.plain' ds _ ha
  | .tuple ds, _, h => by
    cases h with
    | tup _ ha => rw [PyData.plain]; exact DpAll.plain' ds _ ha
  | .dict _, _, h => by cases h
theorem DpAll.plain' {K : PySem.W.Frag} {H : Hp} : ∀ (ds : List PyData) (vs : List V), DpAll K H vs ds → PyData.plainAll ds = true
  | [], _, _ => rfl
  | d :: ds, _, h => by
    cases h with
    | cons a b => rw [PyData.plainAll, Dp.plain' d _ a, DpAll.plain' ds _ b]; rfl
end
theorem Dp.plain {K : PySem.W.Frag} {H : Hp} {v : V} {d : PyData} (h : Dp K H v d) : d.plain = true := Dp.plain' d v h
theorem DpAll.plain {K : PySem.W.Frag} {H : Hp} {vs : List V} {ds : List PyData} (h : DpAll K H vs ds) : PyData.plainAll ds = true := DpAll.plain' ds vs h
end L2
namespace R59
open PySem PySem.Spec PyProof.Rows L2
mutual
theorem hasDict_plain : ∀ d : PyData, d.plain = true → d.hasDict = false
  | .none, _ => rfl
  | .bool _, _ => rfl
  | .int _, _ => rfl
  | .str _, _ => rfl
  | .list ds, h => by rw [PyData.plain] at h; rw [PyData.hasDict]; exact hasDict_plainAll ds h
  | .tuple ds, h => by rw [PyData.plain] at h; rw [PyData.hasDict]; exact hasDict_plainAll ds h
  | .dict _, h => by rw [PyData.plain] at h; cases h
theorem hasDict_plainAll : ∀ ds : List PyData, PyData.plainAll ds = true → PyData.hasDictAll ds = false
  | [], _ => rfl
  | d :: ds, h => by
    rw [PyData.plainAll, Bool.and_eq_true] at h
    rw [PyData.hasDictAll, hasDict_plain d h.1, hasDict_plainAll ds h.2]; rfl
end
def rEqP (K : PySem.W.Frag) : R2 := fun x y H Q => ∃ d e, Dp K H x d ∧ Dp K H y e ∧ min d.depth e.depth ≤ 180 ∧ Q (.bl (PyData.eqv d e)) H
def rNeP (K : PySem.W.Frag) : R2 := fun x y H Q => ∃ d e, Dp K H x d ∧ Dp K H y e ∧ min d.depth e.depth ≤ 180 ∧ Q (.bl (!PyData.eqv d e)) H
def rInP (K : PySem.W.Frag) : R2 := fun x y H Q => ∃ d ds, Dp K H x d ∧ (Dp K H y (.tuple ds) ∨ Dp K H y (.list ds)) ∧ min (PyData.depthAll ds) d.depth ≤ 180 ∧ Q (.bl (ds.any fun z => PyData.eqv z d)) H
def rNotInP (K : PySem.W.Frag) : R2 := fun x y H Q => ∃ d ds, Dp K H x d ∧ (Dp K H y (.tuple ds) ∨ Dp K H y (.list ds)) ∧ min (PyData.depthAll ds) d.depth ≤ 180 ∧ Q (.bl (!ds.any fun z => PyData.eqv z d)) H
def rRemD (K : PySem.W.Frag) : V → List V → Hp → VK → Prop := fun x xs H Q => ∃ (l : Addr) (vs : List V) (ds : List PyData) (y : V) (d : PyData) (j : Nat), x = .ref l ∧ xs = [y] ∧ H l = some (.lst vs) ∧ DpAll K H vs ds ∧ Dp K H y d ∧ SeqAt.dataPlace ds d = some j ∧ min (PyData.depthAll ds) d.depth ≤ 180 ∧ Q .non (upd H l (.lst (vs.eraseIdx j)))
def rReprD (K : PySem.W.Frag) : List V → Hp → VK → Prop := fun xs H Q => ∃ (a : Addr) (d : PyData), xs = [.ref a] ∧ Dp K H (.ref a) d ∧ d.showable = true ∧ d.depth ≤ 100 ∧ d.shown.length ≤ sizeLine ∧ Q (.str d.shown) H
section
variable {X : Cx}
theorem op_eqP (hu : X.A.units + 190 < cLine) : OpR X (compareOp .Eq) (rEqP X.K) := by
  intro pins s σ H x y v u Q I rx ry h
  obtain ⟨d, e, hd, he, dp, q⟩ := h
  obtain ⟨as, r1⟩ := Dp.reads I d x v hd rx
  obtain ⟨bs, r2⟩ := Dp.reads I e y u he ry
  exact SeqAt.eq_plain r1 r2 hd.plain he.plain (by omega) ⟨.bl _, H, I, rfl, q⟩
theorem op_neP (hu : X.A.units + 190 < cLine) : OpR X (compareOp .NotEq) (rNeP X.K) := by
  intro pins s σ H x y v u Q I rx ry h
  obtain ⟨d, e, hd, he, dp, q⟩ := h
  obtain ⟨as, r1⟩ := Dp.reads I d x v hd rx
  obtain ⟨bs, r2⟩ := Dp.reads I e y u he ry
  exact SeqAt.ne_plain r1 r2 hd.plain he.plain (by omega) ⟨.bl _, H, I, rfl, q⟩
theorem op_inP (hu : X.A.units + 190 < cLine) : OpR X (compareOp .In) (rInP X.K) := by
  intro pins s σ H x y v u Q I rx ry h
  obtain ⟨d, ds, hd, he, dp, q⟩ := h
  obtain ⟨as, r1⟩ := Dp.reads I d x v hd rx
  rcases he with he | he
  · obtain ⟨bs, r2⟩ := Dp.reads I (.tuple ds) y u he ry
    exact SeqAt.in_tuple_data r2 r1 (by have := he.plain; rw [PyData.plain] at this; exact this) hd.plain (by omega) ⟨.bl _, H, I, rfl, q⟩
  · obtain ⟨bs, r2⟩ := Dp.reads I (.list ds) y u he ry
    exact SeqAt.in_list_data r2 r1 (by have := he.plain; rw [PyData.plain] at this; exact this) hd.plain (by omega) ⟨.bl _, H, I, rfl, q⟩
theorem op_notInP (hu : X.A.units + 190 < cLine) : OpR X (compareOp .NotIn) (rNotInP X.K) := by
  intro pins s σ H x y v u Q I rx ry h
  obtain ⟨d, ds, hd, he, dp, q⟩ := h
  obtain ⟨as, r1⟩ := Dp.reads I d x v hd rx
  rcases he with he | he
  · obtain ⟨bs, r2⟩ := Dp.reads I (.tuple ds) y u he ry
    exact SeqAt.notIn_tuple_data r2 r1 (by have := he.plain; rw [PyData.plain] at this; exact this) hd.plain (by omega) ⟨.bl _, H, I, rfl, q⟩
  · obtain ⟨bs, r2⟩ := Dp.reads I (.list ds) y u he ry
    exact SeqAt.notIn_list_data r2 r1 (by have := he.plain; rw [PyData.plain] at this; exact this) hd.plain (by omega) ⟨.bl _, H, I, rfl, q⟩
theorem mt_removeD (hu : X.A.units + 190 < cLine) : MtM X "list.remove" (rRemD X.K) := by
  intro pins s σ H x xs v us Q I rx rv h
  obtain ⟨l, vs, ds, y, d, j, rfl, rfl, hl, hd, hy, hp, dp, q⟩ := h
  cases rx
  obtain ⟨u, rfl, ru⟩ := rv.one
  obtain ⟨z, its, n, r, hln, e0⟩ := I.lstM hl
  obtain ⟨as, hr⟩ := Dp.readsAll I ds vs its hd r
  obtain ⟨bs, hx⟩ := Dp.reads I d y u hy ru
  refine SeqAt.remove_list_data (vs := its.toArray) ⟨_, e0, rfl, _, rfl⟩ (by simpa using hr) hx hd.plain hy.plain (by omega) hp (by rw [List.size_toArray, ← hln]; exact z) ?_
  refine ⟨.non, _, I.lset (its' := its.eraseIdx j) hl e0 ?_ (r.eraseIdx j) ?_, rfl, q⟩
  · show its.toArray.eraseIdxIfInBounds j = (its.eraseIdx j).toArray
    rw [List.eraseIdxIfInBounds_toArray]
  · have := List.length_eraseIdx_le (l := vs) (i := j)
    omega
theorem cr_repr (hg : X.A.guards = some []) (hu : X.A.units + 190 < cLine) : CallR X (.builtin "repr") (rReprD X.K) := by
  intro pins s σ H xs us Q I r h
  obtain ⟨a, d, rfl, hd, hs, dp, hz, q⟩ := h
  rw [Vals.ref1 r]
  obtain ⟨as, hr⟩ := Dp.reads I d _ (.ref a) hd rfl
  have nd : d.hasDict = false := by
    cases hh : d.hasDict with
    | false => rfl
    | true => exact absurd (hasDict_plain d hd.plain) (by rw [hh]; simp)
  exact repr_of_reads' hr hs (fun e => by rw [nd] at e; cases e) hg (by omega) (fun _ _ e => e) (fun h' u tk hk => ⟨.str _, H, I.kept hk, ⟨_, rfl⟩, q⟩) hz
end
end R59
/-! KR7 -/
set_option maxHeartbeats 1000000
namespace R59
open PySem PySem.Spec PyProof.Rows L2
/-! ### t * k, k = 1 and k ≤ 0 -/
set_option maxHeartbeats 2000000 in
theorem tup_mul_one (l : Addr) (items : Array Value) (n : Nat) (dd : Option Addr) (sl : Array (Option Value)) (u : Tok) :
    Meets (Builtin.«tuple.__mul__» ⟨[.ref l, .int 1 u], []⟩) (fun _ R s => s.heap.get? l = some { cls := .type "tuple", dict := dd, data := .seq items n, slots := sl } ∧ R (.ok (.ret (.ref l))) s) :=
  .of_wp fun prog w A R s h => by
    obtain ⟨hp, g, d, tk, os⟩ := s
    obtain ⟨hl, h⟩ := h
    have f1 := AutoSeq1.idx_int
    have c0 : (decide ((1 : Int) < -(2 ^ 63)) || decide ((1 : Int) ≥ 2 ^ 63)) = false := by decide
    have c1 : (items.isEmpty || (1 : Int) == 1) = true := by simp
    wp_walk using wpAny_loadPart' hl
    repeat (first
      | (refine wpAny_ite_false (decide_eq_false (by rw [c0]; exact Bool.false_ne_true)) ?_; wp_walk using wpAny_loadPart' hl)
      | (refine wpAny_ite_true (decide_eq_true c1) ?_; wp_walk using wpAny_loadPart' hl))
    all_goals exact ⟨_, rfl, h⟩
set_option maxHeartbeats 2000000 in
theorem tup_mul_none (l : Addr) (items : Array Value) (n : Nat) (dd : Option Addr) (sl : Array (Option Value)) (hne : items.isEmpty = false) (u : Tok) :
    Meets (Builtin.«tuple.__mul__» ⟨[.ref l, .int 0 u], []⟩) (fun _ R s => s.heap.get? l = some { cls := .type "tuple", dict := dd, data := .seq items n, slots := sl } ∧
      R (.ok (.ret (.ref s.heap.objs.size))) { s with heap := s.heap.push { cls := Value.type "tuple", data := Data.seq #[] } }) :=
  .of_wp fun prog w A R s h => by
    obtain ⟨hp, g, d, tk, os⟩ := s
    obtain ⟨hl, h⟩ := h
    have f1 := AutoSeq1.idx_int
    have c0 : (decide ((0 : Int) < -(2 ^ 63)) || decide ((0 : Int) ≥ 2 ^ 63)) = false := by decide
    have c1 : (items.isEmpty || (0 : Int) == 1) = false := by rw [hne]; rfl
    have c2 : (decide ((0 : Int) ≤ 0) || items.isEmpty) = true := by simp
    wp_walk using wpAny_loadPart' hl
    repeat (first
      | (refine wpAny_ite_false (decide_eq_false (by rw [c0]; exact Bool.false_ne_true)) ?_; wp_walk using wpAny_loadPart' hl)
      | (refine wpAny_ite_false (decide_eq_false (by rw [c1]; exact Bool.false_ne_true)) ?_; wp_walk using wpAny_loadPart' hl)
      | (refine wpAny_ite_true (decide_eq_true c2) ?_; wp_walk using wpAny_loadPart' hl))
    all_goals exact ⟨_, rfl, h⟩
def rRep3 (K : PySem.W.Frag) : R2 := fun x y H Q => ∃ l k xs, x = .ref l ∧ y = .int k ∧ SqT K H l xs ∧ xs ≠ [] ∧ 0 ≤ k ∧ k ≤ 1000 ∧ xs.length ≤ 1000 ∧ (k = 1 → Q (.ref l) H) ∧ (k ≠ 1 → ∀ p, H p = none → Q (.ref p) (upd H p (.tup (List.replicate k.toNat xs).flatten)))
section
variable {X : Cx}
theorem op_rep3 : OpR X (binaryOp .Mult) (rRep3 X.K) := by
  intro pins s σ H x y v u Q I rx ry h
  obtain ⟨l, k, xs, rfl, rfl, hT, hne, h1, h2, hz, q1, q2⟩ := h
  by_cases hk2 : 2 ≤ k
  · exact op_repT pins s σ H (.ref l) (.int k) v u Q I rx ry ⟨l, k, xs, rfl, rfl, hT, hne, hk2, h2, hz, q2 (by omega)⟩
  cases rx
  obtain ⟨t, rfl⟩ := ry
  obtain ⟨its, r, ⟨⟨cls, dd, data, sl⟩, ho, hc, n, hd⟩, hs⟩ := I.tuple hT
  simp only at hc hd
  subst hc hd
  have hi : its.toArray.isEmpty = false := by
    cases its with
    | nil =>
      cases r
      exact absurd rfl hne
    | cons a b => rfl
  by_cases e1 : k = 1
  · subst e1
    refine wpAny_binaryOp_repeat_ref (T := "tuple") (U := "int") (by decide) ⟨_, ho, rfl⟩ (fun s' => typeIs_int s' 1 t) noFill_tuple_mul F.fills_int_mul F.slot_int_rmul repeat_tuple F.slot_int_index.lookup ?_
    refine call_meets F.slot_int_rmul (typeIs_int s 1 t) F.entry_int_rmul (F.args_int_rmul_2 _ _) (int_rmul_tuple 1 t l its.toArray n dd sl) ⟨ho, rfl, ⟨_, ho, rfl⟩, ?_⟩
    exact call_meets F.slot_tuple_mul ⟨_, ho, rfl⟩ F.entry_tuple_mul (F.args_tuple_mul_2 _ _) (tup_mul_one l its.toArray n dd sl t) ⟨ho, ⟨.ref l, H, I, rfl, q1 rfl⟩⟩
  · obtain rfl : k = 0 := by omega
    refine wpAny_binaryOp_repeat_ref (T := "tuple") (U := "int") (by decide) ⟨_, ho, rfl⟩ (fun s' => typeIs_int s' 0 t) noFill_tuple_mul F.fills_int_mul F.slot_int_rmul repeat_tuple F.slot_int_index.lookup ?_
    refine call_meets F.slot_int_rmul (typeIs_int s 0 t) F.entry_int_rmul (F.args_int_rmul_2 _ _) (int_rmul_tuple 0 t l its.toArray n dd sl) ⟨ho, rfl, ⟨_, ho, rfl⟩, ?_⟩
    refine call_meets F.slot_tuple_mul ⟨_, ho, rfl⟩ F.entry_tuple_mul (F.args_tuple_mul_2 _ _) (tup_mul_none l its.toArray n dd sl hi t) ⟨ho, ?_⟩
    have q3 := q2 (by decide) s.heap.objs.size (I.hok.fresh (Nat.le_refl _))
    have e0 : (List.replicate (0 : Int).toNat xs).flatten = [] := rfl
    rw [e0] at q3
    refine ⟨.ref s.heap.objs.size, _, I.laid (t' := s.toks) (o := .tup []) (fun b ob q => Heap.get?_push_of_some _ q) (Nat.le_refl _) ?_, rfl, q3⟩
    exact ⟨Nat.zero_le _, [], .nil, IsTup.new _ _⟩
/-! ### t.index(k), ints -/
theorem mt_tup_indexI : MtR X "tuple.index" (fun x xs H Q => ∃ p, ∃ ys : List Int, ∃ z j, x = .ref p ∧ xs = [.int z] ∧ SqT X.K H p (ys.map V.int) ∧ ys[j]? = some z ∧ (∀ m, m < j → ys[m]? ≠ some z) ∧ Q (.int (j : Nat)) H) := by
  intro pins s σ H x xs v us Q I rx rs h
  obtain ⟨p, ys, z, j, rfl, rfl, hq, hy, hno, q⟩ := h
  cases rx
  obtain ⟨u, rfl, t, rfl⟩ := vals1 rs
  obtain ⟨its, r, ⟨⟨cls, dd, dt, sl⟩, ho, hc, n, hd⟩, hz⟩ := I.tuple hq
  simp only at hc hd
  subst hc hd
  have hl : its.toArray.size = ys.length := by
    have := r.length
    rw [List.length_map] at this
    rw [List.size_toArray, this]
  have hj : j < its.toArray.size := hl ▸ (List.getElem?_eq_some_iff.mp hy).1
  have at' : ∀ (m : Nat) (hm : m < its.toArray.size), ∃ y t', ys[m]? = some y ∧ its.toArray[m] = Value.int y t' := by
    intro m hm
    have hm' : m < ys.length := hl ▸ hm
    obtain ⟨w, hw, t', hw'⟩ := r.get (i := m) (x := .int ys[m]) (by simp [hm'])
    have e := (List.getElem?_eq_some_iff.mp hw).2
    exact ⟨ys[m], t', List.getElem?_eq_getElem hm', by rw [← hw', ← e]; simp⟩
  have flat : (ys.map V.int).all flatV = true := by
    rw [List.all_map]
    exact List.all_eq_true.mpr fun _ _ => rfl
  refine call_meets PySem.F.slot_tuple_index ⟨_, ho, rfl⟩ PySem.F.entry_tuple_index (PySem.F.args_tuple_index_2 _ _) (TI.tuple_indexAt p its.toArray n dd sl (.int z t) (eqU (.int z)) j hj ?_ ?_)
    ⟨ho, fun w hw => mem_eqAt (x := .int z) ⟨t, rfl⟩ rfl r flat w (by simpa using hw), ⟨.int (j : Nat), H, I.tok _, ⟨_, rfl⟩, q⟩⟩
  · obtain ⟨y, t', h1, h2⟩ := at' j hj
    rw [hy] at h1
    cases h1
    rw [h2]
    show (z == z) = true
    exact beq_self_eq_true z
  · intro m hm hmj
    obtain ⟨y, t', h1, h2⟩ := at' m hm
    rw [h2]
    show (y == z) = false
    exact beq_eq_false_iff_ne.mpr fun e => hno m hmj (e ▸ h1)
/-! ### set(t), a tuple of few ints -/
def rSetT (K : PySem.W.Frag) (w : World) : List V → Hp → VK → Prop := fun xs H Q => ∃ (a : Addr) (ns : List Int), xs = [.ref a] ∧ SqT K H a (ns.map V.int) ∧ ns.length < 60 ∧
  ∀ p c, H p = none → c ≤ ns.length → Q (.ref p) (upd H p (SetO w p (fun j => decide (j ∈ ns)) c))
theorem cr_setT (hc : X.calm = true) : CallR X (.type "set") (rSetT X.K X.w) := by
  intro pins s σ H xs us Q I r h
  obtain ⟨a, ns, rfl, hT, hl, q⟩ := h
  rw [Vals.ref1 r]
  obtain ⟨its, rv, pl, hz⟩ := I.tuple hT
  have hsc : ns.length + 1 < scanBound := Nat.lt_of_lt_of_le (Nat.succ_lt_succ hl) (by decide)
  refine call_set_tupI ns (I.ok.hd hc) pl (by simpa using ints_of_vals rv) hsc fun h' tk c R hcl k => ?_
  exact ⟨.ref _, _, I.laid (t' := tk) k (Nat.le_refl _) (setO_new R), rfl, q _ c (I.hok.fresh (Nat.le_refl _)) hcl⟩
end
/-! ### list(reversed(l)) -/
section
variable {prog : Program} {w : World} {A : Around} {E : Value → Shared → Prop} {s : Shared}
/-- a list's making anew out of a list's reversed iterator -/
theorem list_rev_init {it l S : Addr} {items : Array Value} {R : Result → Shared → Prop} (hh : A.handled = none) (hit : s.heap.IsRevIter it l ((items.size : Int) - 1)) (hl : s.heap.IsList l items) (hne : l ≠ it) (hn : items.size ≤ sizeLine) (hSi : S ≠ it) (hSl : S ≠ l)
    (hS : s.heap.get? S = some { cls := .type "list", data := .seq #[] })
    (hR : ∀ (h' : Heap) (tk : Nat) (acc : Array Value) (c : Nat), (∀ b o, b ≠ it → b ≠ S → s.heap.get? b = some o → h'.get? b = some o) → h'.get? S = some { cls := .type "list", dict := none, data := .seq acc c, slots := #[] } →
      ItemsOf (fun i v => items[items.size - 1 - i]? = some v) acc items.size → R (.ok (.ret .none)) { s with heap := h', toks := tk }) :
    wpAny (model prog w) A.in1 (Builtin.«list.__init__» ⟨[.ref S, .ref it], []⟩)
      (fun fin s' => match fin with | .done f => R (.ok f) s' | .again c' => c'.quiet = true ∧ codeAny (model prog w) A c' R s') (fun e s' => R (.error e) s') s := by
  have W := (Walks.listRev (prog := prog) (w := w) (A := A.in1) hh it l hne items).toS
  have hSf : S ∉ [it, l] := by
    simp only [List.mem_cons, List.not_mem_nil, or_false, not_or]
    exact ⟨hSi, hSl⟩
  show wpAny _ _ (do let old ← Builtin.List.listItems (.ref S); Builtin.List.listUpdate (.ref S) (fun _ => #[]); letGo old.toList.reverse; Builtin.List.listExtendWith (.ref S) (.ref it) .none) _ _ s
  apply wpAny_bind
  unfold Builtin.List.listItems
  apply wpAny_bind
  apply wpAny_seqItems hS rfl
  apply wpAny_pure
  show wpAny _ _ (updateSeq S (fun _ => #[]) >>= fun _ => letGo (#[] : Array Value).toList.reverse >>= fun _ => Builtin.List.listExtendWith (.ref S) (.ref it) .none) _ _ s
  apply wpAny_bind
  apply wpAny_updateSeq hS rfl
  have hS1 := Heap.get?_update_self (Obj.mapSeq (fun _ => (#[] : Array Value))) hS rfl
  generalize hg1 : s.heap.update S (Obj.mapSeq (fun _ => (#[] : Array Value))) = h1 at *
  have oth : ∀ b o, b ≠ S → s.heap.get? b = some o → h1.get? b = some o := fun b o hb e => by
    rw [← hg1]
    exact (Heap.get?_update_other _ _ (Ne.symm hb)).trans e
  apply wpAny_bind
  apply wpAny_letGo
  have hit1 : h1.IsRevIter it l ((items.size : Int) - 1) := hit.at fun o e => oth it o hSi.symm e
  have hl1 : h1.IsList l items := hl.at fun o e => oth l o hSl.symm e
  have hT : ({ s with heap := h1 } : Shared).TypeIs (.ref it) "list_reverseiterator" := Heap.IsRevIter.typeIs (s := { s with heap := h1 }) hit1
  have same : Builtin.List.listSameRef (.ref S) (.ref it) = false := by simp [Builtin.List.listSameRef, hSi]
  unfold Builtin.List.listExtendWith
  apply wpAny_bind
  apply wpAny_typeOf hT
  rw [if_neg (by rw [same]; decide)]
  apply wpAny_bind
  apply wpAny_pyIter_revIter (s := { s with heap := h1 }) hit1
  apply wpAny_bind
  apply wpAny_holding
  unfold Builtin.List.listLengthHint
  apply wpAny_bind
  apply wpAny_specialOf hT RT.nolen_lri
  show wpAny _ A.in1 (specialOf (Value.ref it) (Str.ofString "__length_hint__") >>= _) _ _ _
  apply wpAny_bind
  apply wpAny_specialOf hT RT.hint_lri
  generalize hid : ("list_reverseiterator.__length_hint__" : String) = id0
  wp_delta
  rw [show splitId id0 = some ("list_reverseiterator", "__length_hint__") from by subst hid; decide +kernel]
  subst hid
  apply wpAny_bind
  apply wpAny_isInstance (b := true) hT (by rw [isSubtype_type]; kernel_rfl)
  apply wpAny_pure
  rw [if_neg (by decide)]
  have e0 : ((items.size : Nat) : Int) - 1 - ((0 : Nat) : Int) = (items.size : Int) - 1 := by omega
  apply wpAny_pure
  refine ⟨plainId_quiet F.plain_extend_loop _, ?_⟩
  refine codeAny_extend_loopS W hn _ hSf _ items.size 0 _ _ _ rfl (Nat.zero_le _) ⟨Nat.zero_le _, by rw [e0]; exact hit1, hl1⟩ hS1 (ItemsOf.nil _) fun s' acc' c' hm hS' hacc => ?_
  rw [Moved.eq_with hm]
  refine hR s'.heap s'.toks acc' c' (fun b o hb hb2 e => hm.heap b o (fun hmem => ?_) (oth b o hb2 e)) hS' hacc
  rcases List.mem_cons.mp hmem with e' | hmem
  · exact hb2 e'
  · exact hb (List.mem_singleton.mp hmem)
theorem call_list_rev {it l : Addr} {items : Array Value} {Q : Value → Shared → Prop} (hh : A.handled = none) (hit : s.heap.IsRevIter it l ((items.size : Int) - 1)) (hl : s.heap.IsList l items) (hne : l ≠ it) (hn : items.size ≤ sizeLine)
    (hQ : ∀ (h' : Heap) (tk : Nat) (acc : Array Value) (c : Nat), (∀ b o, b ≠ it → s.heap.get? b = some o → h'.get? b = some o) → h'.get? s.heap.objs.size = some { cls := .type "list", dict := none, data := .seq acc c, slots := #[] } →
      ItemsOf (fun i v => items[items.size - 1 - i]? = some v) acc items.size → Q (.ref s.heap.objs.size) { s with heap := h', toks := tk }) :
    wpAny (model prog w) A (call (.type "list") [.ref it]) Q E s := by
  obtain ⟨oi, hoi, _⟩ := id hit
  obtain ⟨ol, hol, _⟩ := id hl
  apply callType_codes (Q₁ := fun obj s₁ => obj = .ref s.heap.objs.size ∧ s₁ = { s with heap := s.heap.push { cls := .type "list", data := .seq #[] } }) PySem.F.called_list (PySem.F.typeCall_list_1 _) PySem.F.entry_list_init (code_list_new _ ⟨rfl, rfl⟩)
  rintro obj s₁ ⟨rfl, rfl⟩
  have hS : (s.heap.push { cls := .type "list", data := .seq #[] }).get? s.heap.objs.size = some { cls := .type "list", data := .seq #[] } := Heap.get?_push_size _ rfl
  have up : ∀ b o, s.heap.get? b = some o → (s.heap.push { cls := .type "list", data := .seq #[] }).get? b = some o := fun b o e => Heap.get?_push_of_some _ e
  refine ⟨⟨_, hS, rfl⟩, PySem.F.args_list_init_2 _ _, ?_⟩
  refine list_rev_init (A := A.in1) (s := { s with heap := s.heap.push { cls := .type "list", data := .seq #[] } }) hh (hit.at fun o e => up _ o e) (hl.at fun o e => up _ o e) hne hn (Nat.ne_of_gt (Heap.lt_size hoi)) (Nat.ne_of_gt (Heap.lt_size hol)) hS fun h' tk acc c hk hS' hacc => ?_
  exact ⟨rfl, hQ h' tk acc c (fun b o hb e => hk b o hb (Nat.ne_of_lt (Heap.lt_size e)) (up b o e)) hS' hacc⟩
end
/-- list(reversed(x)), x a list -/
def tLstRev (K : PySem.W.Frag) (te : TE) : TE := fun σ H Q => te σ H fun v H1 => ∃ (a : Addr) (xs : List V), v = .ref a ∧ SqL K H1 a xs ∧ ∀ q, H1 q = none → Q (.ref q) (upd H1 q (.lst xs.reverse))
theorem pe_lstRev {X : Cx} {e : Expr} {te : TE} {p p2 pos pos2 : Pos} (hc : X.calm = true) (hg : Gl X "list") (hm : X.mg "list" = none) (hg2 : Gl X "reversed") (hm2 : X.mg "reversed" = none) (he : PE X e te)
    (hs : starEach [e] X.env = (false, eval e X.env) :: starEach [] X.env := by rfl)
    (hs2 : starEach [.Call (.Name "reversed" p2) [e] [] pos2] X.env = (false, eval (.Call (.Name "reversed" p2) [e] [] pos2) X.env) :: starEach [] X.env := by rfl) :
    PE X (.Call (.Name "list" p) [.Call (.Name "reversed" p2) [e] [] pos2] [] pos) (tLstRev X.K te) := by
  constructor
  intro pins s σ H Q I h
  have inner : wpAny (model X.prog X.w) X.A (eval e X.env) (fun u s1 => wpAny (model X.prog X.w) X.A (call (.type "reversed") [u]) (fun v s2 => wpAny (model X.prog X.w) X.A (call (.type "list") [v]) (EP X pins σ Q) X.xe s2) X.xe s1) X.xe s := by
    refine thn (he.run pins s σ H _ I h) ?_
    rintro u s1 ⟨v, H1, I1, r1, a, xs, ev, hq, q⟩
    subst ev
    obtain rfl : u = Value.ref a := r1
    obtain ⟨its, rv, p', hz⟩ := I1.list hq
    refine call_reversed_list p'.isList ?_
    have I2 : Inv X pins σ H1 { s1 with heap := s1.heap.push (revObj a ((its.toArray.size : Int) - 1)) } := I1.kept (t' := s1.toks) fun b o e => Heap.get?_push_of_some _ e
    obtain ⟨f0, f1, f2, f3, f4, f5⟩ := I1.fpOk (H' := H1) (b := s1.heap.objs.size) (Nat.le_refl _) (I1.hok.fresh (Nat.le_refl _))
    have hl := p'.isList
    obtain ⟨ol, hol, _⟩ := id hl
    have hn : its.toArray.size ≤ sizeLine := by
      rw [List.size_toArray, ← rv.length]
      exact hz
    refine call_list_rev (s := { s1 with heap := s1.heap.push (revObj a ((its.toArray.size : Int) - 1)) }) (I1.ok.hd hc) ⟨_, Heap.get?_push_size _ rfl, rfl, rfl⟩ (hl.push _) (Nat.ne_of_lt (Heap.lt_size hol)) hn fun h' tk acc c hk hS hi => ?_
    have hq2 : s1.heap.objs.size ≤ (s1.heap.push (revObj a ((its.toArray.size : Int) - 1))).objs.size := by
      rw [Heap.size_push]
      exact Nat.le_succ _
    have up : ∀ b o, s1.heap.get? b = some o → h'.get? b = some o := fun b o e => hk b o (Nat.ne_of_lt (Heap.lt_size e)) (Heap.get?_push_of_some _ e)
    have ok : ObjOk X.prog X.w (upd H1 (s1.heap.push (revObj a ((its.toArray.size : Int) - 1))).objs.size (.lst xs.reverse)) h' (s1.heap.push (revObj a ((its.toArray.size : Int) - 1))).objs.size (.lst xs.reverse) := by
      refine ⟨by rw [List.length_reverse]; exact hz, acc.toList, c, RT.vals_rev rv hi, ?_⟩
      rw [Array.toArray_toList]
      exact hS
    exact ⟨.ref _, _, I1.laid (t' := tk) up hq2 ok, rfl, q _ (I1.hok.fresh hq2)⟩
  refine Call_ (ld_blt I hg hm boot_list (PyProof.Rows.callWith_type1 (args_cons (Call_ (ld_blt I hg2 hm2 PyProof.Rows.boot_reversed (PyProof.Rows.callWith_type1 (args_cons (thn inner fun u s1 h1 => args_nil (thn h1 fun v s2 h2 => args_nil h2)) hs) hs rfl))) hs2) hs2 rfl))
end R59
/-! KX1 -/
set_option maxHeartbeats 1000000
/-! an own exception whose own making says super().__init__(limit), then self.limit = limit -/
namespace R59
open PySem PySem.Spec PyProof.Rows L2
/-- what its making asks, what it leaves -/
def spLim (C : Addr) (fld : Str) : Sp := fun vs H Q E => ∃ (a : Addr) (y : V), vs = [.ref a, y] ∧ H a = some (exo a C none) ∧
  ∀ dx, H dx = none → dx ≠ a → Q .non (upd (upd H dx (exd dx [(fld, y)])) a (exo a C (some dx)))
structure LimScope (sc : Scope) (s1 a1 : Str) : Prop where
  sup : sc.names.lookup ("super" : Str) = some .globalImplicit
  cls : sc.names.lookup ("__class__" : Str) = some .free
  slf : sc.names.lookup s1 = some .local
  arg : sc.names.lookup a1 = some .local
  kind : sc.kind = .function
  co : sc.isCoroutine = false
  gen : sc.isGenerator = false
  nocell : ∀ x ∈ sc.names, x.2 ≠ .cell
abbrev limBody (p0 p1 p2 p3 p4 p5 p6 p7 p8 p9 : Pos) : List Stmt :=
  [.Expr (.Call (.Attribute (.Call (.Name "super" p0) [] [] p1) "__init__" p2) [.Name "limit" p3] [] p4) p5, .Assign [.Attribute (.Name "self" p6) "limit" p7] (.Name "limit" p8) p9]
abbrev limPs : List Str := ["self", "limit"]
section
variable {P : Program} {w : World} {K : PySem.W.Frag} {mg : Str → Option Value} {base : Heap} {CX : CXT} {k : Nat}
variable {f cc cda C : Addr} {name qual : Str} {params : Arguments} {scope : Scope} {dV kV doc pm ct oc ccl cl : Value} {an od cdd cld : Option Addr} {osl ccs csl : Array (Option Value)} {vs : Array Value} {file : Str} {tf : Tok} {ar : Arg} {p0 p1 p2 p3 p4 p5 p6 p7 p8 p9 : Pos} {cdC : ClassData} {bmB : List Value} {pl : Addr → Sem Bool}
theorem fnok_lim (hfull : ExcBaseFacts "ValueError" "ValueError.__new__" "ValueError.__init__" bmB)
    (lk : K.lookup f = some ⟨oc, od, .func (PySem.W.ksFn name qual params (limBody p0 p1 p2 p3 p4 p5 p6 p7 p8 p9) scope dV kV doc pm an (.ref cda) ct cc), osl⟩)
    (hcd : PySem.W.codeIn K (.ref cda) qual = true) (hcode : K.lookup cda = some ⟨ccl, cdd, .fields vs, ccs⟩) (hvs : vs[2]? = some (.str file tf)) (hfile : ((P.main.file : Str) == file) = true)
    (hcell : K.lookup cc = some ⟨cl, cld, .cell (some (.ref C)), csl⟩) (hhead : (params.posonlyargs ++ params.args).head? = some ar) (har : ar.arg = "self") (S : LimScope scope "self" "limit")
    (hC : PySem.W.clsIn K C = some cdC) (hsub : PySem.W.mroIn K C (.ref C) = some true) (hsuper : mg "super" = none) (htop : (P.main.scope.names.lookup ("super" : Str)).isSome = false) (hst : PySem.W.nsIn K cStatics "thirdparty.any" = some none)
    (hm : PySem.W.ks_superIn K C C "__init__" = some (some (.builtin "ValueError.__init__"))) (hB : PySem.W.subIn K (.ref C) (.type "ValueError") = some true) (hq : PySem.W.excInitIn K C bmB "ValueError.__new__" = true)
    (T : OexC K C) (hno : PySem.W.findIn K (.ref C) "limit" = some none)
    (hc : ∀ L : Addr, eval (.Call (.Attribute (.Call (.Name "super" p0) [] [] p1) "__init__" p2) [.Name "limit" p3] [] p4) (PySem.W.ksEnv qual scope L f (.ref cda) cc) = (do
      let ov ← attributeBase (.Call (.Name "super" p0) [] [] p1) "__init__" (PySem.W.ksEnv qual scope L f (.ref cda) cc) (eval (.Call (.Name "super" p0) [] [] p1) (PySem.W.ksEnv qual scope L f (.ref cda) cc))
      standAt p2.atName
      let (g, first) ← holding [ov] (getMethod ov "__init__" (pl L))
      callWith p4 g first (backTo p4 (starEach [.Name "limit" p3] (PySem.W.ksEnv qual scope L f (.ref cda) cc))) []))
    (hi : ∀ L : Addr, interactive (PySem.W.ksEnv qual scope L f (.ref cda) cc) = false)
    (hw1 : ∀ L : Addr, swapsWith (.Call (.Attribute (.Call (.Name "super" p0) [] [] p1) "__init__" p2) [.Name "limit" p3] [] p4) none p5.line (PySem.W.ksEnv qual scope L f (.ref cda) cc) = pure false)
    (hw2 : ∀ L : Addr, swapsWith (.Name "limit" p8) (some (.Attribute (.Name "self" p6) "limit" p7)) p9.line (PySem.W.ksEnv qual scope L f (.ref cda) cc) = pure false) :
    FnOk P w K mg base CX k f (PySem.W.ksFn name qual params (limBody p0 p1 p2 p3 p4 p5 p6 p7 p8 p9) scope dV kV doc pm an (.ref cda) ct cc) limPs (spLim C "limit") := by
  refine ⟨fun vs' H Q E ⟨_, _, e, _⟩ => by rw [e]; rfl, fun A outer s H args us vs' Q E hr e0 hb r hsp => ?_⟩
  obtain ⟨a, y, rfl, ea, hQ⟩ := hsp
  have KX : K.In s.heap := e0.mod.kin.keeps fun b o e => (e0.bs b o e).1
  have lim : s.heap.NoLimit := e0.mod.nolimit.keeps fun b o e => (e0.bs b o e).1
  cases r with
  | @cons _ u0 _ ur ra rw' =>
  cases rw' with
  | @cons _ u1 _ ur1 rb rn =>
  cases rn
  obtain rfl : u0 = Value.ref a := ra
  obtain ⟨t1, hae⟩ := exo_at e0.hok ea
  have hal := Heap.lt_size hae
  have aL : a ≠ s.heap.objs.size := Nat.ne_of_lt hal
  refine PySem.ks_codeAny_call_defAt hr.depth (KX _ _ lk) rfl lim (PySem.W.codeRec_of KX hcd) rfl hb S.nocell (fun x hx => ?_) (fun h₁ hns hk₁ => ?_) S.co S.gen S.kind
  · simp only [List.zip_cons_cons, List.zip_nil_right, List.mem_cons, List.not_mem_nil, or_false] at hx
    rcases hx with rfl | rfl
    · exact S.slf
    · exact S.arg
  have F1 : Fr (PySem.W.hideAll s.heap [a]) s.heap.objs.size h₁ (fun x => (limPs.zip [Value.ref a, u1]).reverse.lookup x) :=
    ⟨hns, fun b o e => hk₁ b o (PySem.W.of_hideAll _ e), Nat.le_of_eq (PySem.W.hideAll_size _ _)⟩
  have N1 : News (PySem.W.hideAll s.heap [a]) s.heap.objs.size h₁ [(a, PySem.W.excObj C t1 none .none)] := fun p hp => by
    obtain rfl : p = _ := by simpa using hp
    exact ⟨hk₁ _ _ hae, aL, PySem.W.hideAll_none _ (by simp)⟩
  have X0 : K.In (PySem.W.hideAll s.heap [a]) := fun b o e => by
    have z := e0.bs b o (e0.mod.kin b o e)
    refine PySem.W.hideAll_get _ z.1 (fun hm' => ?_)
    obtain rfl : b = a := by simpa using hm'
    rw [ea] at z
    cases z.2
  have g1 : (limPs.zip [Value.ref a, u1]).reverse.lookup ("self" : Str) = some (Value.ref a) := by
    have z : (("self" : Str) == ("limit" : Str)) = false := by decide
    simp [List.lookup, z]
  have g2 : (limPs.zip [Value.ref a, u1]).reverse.lookup ("limit" : Str) = some u1 := by simp [List.lookup]
  refine PySem.ks_wpAt_execs_cons (PySem.ks_wpAt_Expr_any (PySem.ks_wpAt_MethodCall ?_ (hc _)) (hi _) (hw1 _))
  have X1 : K.In h₁ := X0.keeps F1.keep
  refine PySem.ks_wpAt_super_base (file := file) (tf := tf) (vs := vs) S.sup S.cls rfl rfl (X1 _ _ lk) rfl hhead rfl (X1 _ _ hcode) rfl hvs hfile htop ?_
  obtain ⟨mb, hmb1, hmb2⟩ := e0.mod.blt
  have bk : ∀ b o, base.get? b = some o → h₁.get? b = some o := fun b o e => hk₁ b o (e0.bs b o e).1
  refine PySem.W.ks_loadName_global S.kind S.sup (Calls.loadGlobal_builtin (e0.mod.glob.keeps bk) hsuper (hmb1.keeps bk) ((hmb2 _ (by decide)).trans rfl) ⟨rfl, ?_⟩)
  refine wpAny_loadName_free S.kind S.cls rfl ⟨_, X1 _ _ hcell, rfl⟩ ?_
  rw [har]
  refine wpAny_loadName_local S.kind S.slf hns g1 ?_
  obtain ⟨oD, hD1, hD2⟩ : ∃ oD, h₁.get? C = some oD ∧ oD.data = .cls cdC := by
    unfold PySem.W.clsIn at hC
    split at hC
    · rename_i c d cd' s2 ho
      cases hC
      exact ⟨_, X1 _ _ ho, rfl⟩
    · cases hC
  refine PySem.ks_wpAny_isType_cls hD1 hD2 ⟨rfl, ?_⟩
  refine PySem.ks_wpAny_call_super hD1 hD2 (hk₁ _ _ hae) rfl (fun c e => by cases e) (PySem.W.looks_mroIn X1 hsub) (fun h2 e2 k2 => ?_)
  obtain ⟨F2, N2, l2⟩ := PySem.W.ks_newsPush (s := ⟨h₁, s.gens, s.drawn, s.toks, s.os⟩) F1 N1 rfl e2 k2
  have I2 : PySem.W.InstAt h2 a (PySem.W.excObj C t1 none .none) C none := ⟨k2 _ _ (hk₁ _ _ hae), rfl, rfl, trivial⟩
  refine PySem.W.kxs_method PySem.W.kxs_ValueError F2 X0 N2 (List.mem_cons_self ..) I2 hst hm hB rfl (fun q h3 F3 N3 l3 => ?_)
  refine PySem.W.kxs_callWith1 N3 (List.mem_cons_self ..) ?_
  refine spliced_more ?_
  refine wpAny_Name (wpAny_loadName_local S.kind S.arg F3.ns g2 ?_) rfl
  refine spliced_none ⟨PySem.W.kxs_at N3 (List.mem_cons_self ..), ?_⟩
  have aq : q ≠ a := fun z => by
    have := l3 (a, PySem.W.excObj C t1 none .none) (by simp)
    exact absurd this (by rw [z]; exact Nat.lt_irrefl _)
  have asu : h₁.objs.size ≠ a := fun z => by
    have := Heap.lt_size (hk₁ _ _ hae)
    rw [z] at this
    exact Nat.lt_irrefl _ this
  refine PySem.W.kxs_call F3 X0 N3 hfull hq (List.mem_cons_self ..) (.tail aq (.tail asu (.head (fun p hp => by cases hp)))) (by rw [sizeLine_eq]; show (1 : Nat) ≤ _; decide) (fun t' h4 F4 N4 l4 => ?_)
  -- the second statement
  have hae4 : h4.get? a = some (PySem.W.excObj C t' none .none) := N4.get (by simp)
  show PySem.wpAt _ _ _ (execs _ _) _ _ _
  refine PySem.ks_wpAt_execs_cons (PySem.ks_wpAt_Assign_Attr ?_ (hw2 s.heap.objs.size))
  refine wpAt_of_wpAny ?_
  refine wpAny_Name (wpAny_loadName_local S.kind S.arg F4.ns g2 ?_) rfl
  refine wpAny_Name (wpAny_loadName_local S.kind S.slf F4.ns g1 ?_) rfl
  obtain ⟨nm, q2, N, bs, bm, sn, sub, ab, col, dd, k0, k1, k2', k3, k5, hCl, hbm⟩ := T.cls
  have hcl : PySem.W.clsIn K C = some { name := nm, bases := bs, mro := .ref C :: bm, ns := N, qualname := q2, hasDict := true, slotNames := sn, subclasses := sub, abstract := ab, collection := col, hasDel := false } := by unfold PySem.W.clsIn; rw [hCl] <;> rfl
  have X4 : K.In h4 := X0.keeps F4.keep
  refine PySem.W.set_plain (s := ⟨h4, s.gens, s.drawn, _, s.os⟩) X4 (ox := PySem.W.excObj C t' none .none) (od := none) ⟨hae4, rfl, rfl, trivial⟩ T.sa ?_
  refine PySem.HandSPX.exc_osa X4 hae4 hcl (show PySem.HandSPX.refsVE (.ref C :: bm) = true from hbm) rfl hno (fun h5 tk' dx k dn dne hx hn => ?_)
  -- what is there at the end
  have up : ∀ b o, b ≠ a → s.heap.get? b = some o → h4.get? b = some o := fun b o hb e => F4.keep b o (PySem.W.hideAll_get _ e (by simpa using hb))
  have up5 : ∀ b o, b ≠ a → s.heap.get? b = some o → h5.get? b = some o := fun b o hb e => k b o hb (up b o hb e)
  have hsz : s.heap.objs.size ≤ dx := by
    have hle := F4.above
    obtain ⟨oL, _, _, eL, _⟩ := F4.ns
    have z : s.heap.objs.size < h4.objs.size := Heap.lt_size eL
    have z2 : h4.objs.size ≤ dx := dn
    exact Nat.le_trans (Nat.le_of_lt z) z2
  have hnd : H dx = none := e0.hok.fresh hsz
  have nd : ∀ {b : Addr} {o : Obj}, s.heap.get? b = some o → b ≠ dx := fun {b o} z => Nat.ne_of_lt (Nat.lt_of_lt_of_le (Heap.lt_size z) hsz)
  have na : ∀ {b : Addr}, H b = none → b ≠ a := fun {b} n z => by
    rw [z, ea] at n
    cases n
  have Un1 : Un (frs outer) [] H (upd (upd H dx (exd dx [("limit", y)])) a (exo a C (some dx))) s.heap h5 := {
    keep := fun b o z n _ _ => up5 b o (na n) z
    slot := fun b o z n _ _ => ⟨o.slots, up5 b o (na n) z⟩
    free := fun b o z n _ => by rw [upd_ne (na n), upd_ne (nd z)]; exact n
    there := fun b o z _ => by
      by_cases hb : b = a
      · exact ⟨_, by rw [hb]; exact hx⟩
      · exact ⟨o, up5 b o hb z⟩
    tups := fun b xs z => by rw [upd_ne (at_ne ea z exo_tup), upd_ne (ne_of_none z hnd)]; exact z
    frzs := fun b o v z => by rw [upd_ne (at_ne ea z exo_frz), upd_ne (ne_of_none z hnd)]; exact z
    tbls := fun b ps z => ⟨#[], by rw [upd_ne (at_ne ea z exo_tbl), upd_ne (ne_of_none z hnd), z]; simp⟩ }
  have Hok1 : HOk P w (upd (upd H dx (exd dx [("limit", y)])) a (exo a C (some dx))) h5 := fun b o z => by
    by_cases hb : b = a
    · subst hb
      rw [upd_same] at z
      cases z
      exact exo_ok hx
    · rw [upd_ne hb] at z
      by_cases hd : b = dx
      · subst hd
        rw [upd_same] at z
        cases z
        exact exd_ok hn (relO_put (fs := []) rb fun g => True.intro)
      · rw [upd_ne hd] at z
        exact (e0.hok b o z).stay (fun c v hc z' => up5 c v (by
            rcases hc with hc | hc
            · rw [hc]
              exact hb
            · exact at_ne ea hc exo_own) z')
          (fun c hc => by rw [upd_ne (at_ne ea hc exo_own), upd_ne (ne_of_none hc hnd)]; exact hc) (fun c xs hc => by rw [upd_ne (at_ne ea hc exo_tup), upd_ne (ne_of_none hc hnd)]; exact hc)
  show PySem.wpAt _ _ _ (execs [] _) _ _ _
  refine wpAt_of_wpAny (wpAny_execs_nil ?_)
  exact ⟨.non, _, rfl, e0.bare, Un1, Hok1, rfl, hQ dx hnd dne⟩
end
end R59
/-! KX2 -/
set_option maxHeartbeats 1000000
namespace R59
open PySem PySem.Spec PyProof.Rows L2
/-! ### isinstance of a caught exception that has a dict -/
structure ExcD (K : PySem.W.Frag) (D : Addr) : Prop where
  cl : (PySem.W.clsIn K D).isSome = true
  c : L2.ExcC K D
/-- p is pinned: an exception of the class D with the dict dd -/
structure ExPin (X : Cx) (p : Addr × Obj) (D dd : Addr) : Prop where
  mem : p ∈ X.pn
  z : Zc (.ref D) (some dd) p.2
  data : ∃ vs, p.2.data = .fields vs
section
variable {X : Cx} {p : Addr × Obj} {D dd : Addr} {pins : List (Addr × Obj)} {σ : L2.St} {H : Hp} {s : Shared}
theorem exPin_inst (I : Inv X pins σ H s) (hp : ExPin X p D dd) {fs : List (Str × V)} (hd : H dd = some (.xd fs)) : ∃ od, PySem.W.InstAt s.heap p.1 p.2 D (some od) := by
  have hg := (I.pin p (List.mem_append_left _ hp.mem)).1
  have hx : ObjOk X.prog X.w H s.heap dd (.xd fs) := I.hok dd _ hd
  obtain ⟨mA, hns, _⟩ := hx
  obtain ⟨od, ho, _⟩ := lookIn_ns hns
  obtain ⟨vs, hv⟩ := hp.data
  refine ⟨od, hg, hp.z.1, ?_, ?_⟩
  · unfold PySem.W.notCls
    rw [hv] <;> rfl
  · rw [hp.z.2]
    exact ho
/-- isinstance(e, c) and isinstance(e, (c1, ..)) -/
def rIsX (K : PySem.W.Frag) (a D dd : Addr) : List V → Hp → VK → Prop := fun xs H Q => ∃ (c : V) (b : Bool) (fs : List (Str × V)), xs = [.ref a, c] ∧ H dd = some (.xd fs) ∧ Q (.bl b) H ∧
  ((∃ u, ClsV c u ∧ PySem.W.kitOne K (.ref D) u = some b) ∨ ∃ (tp : Addr) (cs : List V) (us : List Value), c = .ref tp ∧ H tp = some (.tup cs) ∧ Paired ClsV cs us ∧ PySem.W.kitAny K (.ref D) us = some b)
theorem call_isX (C : ExcD X.K D) (hp : ExPin X p D dd) : CallR X (.builtin "isinstance") (rIsX X.K p.1 D dd) := by
  intro pins s σ H xs us Q I r h
  obtain ⟨c, b, fs, rfl, hd, q, h⟩ := h
  obtain ⟨u1, u2, rfl, r1, r2⟩ := vals2 r
  cases (show u1 = Value.ref p.1 from r1)
  obtain ⟨od, J⟩ := exPin_inst I hp hd
  have Z : PySem.W.KitX X.K (.ref p.1) (.ref D) (fun h => PySem.W.InstAt h p.1 p.2 D (some od)) := PySem.W.kitx_exc C.cl C.c.hg C.c.hk C.c.hs C.c.ha C.c.hn C.c.ht C.c.hm
  have fin : ∀ tk, EP X pins σ Q (.bool b) { s with toks := tk } := fun tk => ⟨.bl b, H, I.tok tk, rfl, q⟩
  rcases h with ⟨u, k, e⟩ | ⟨tp, cs, ws, rfl, hT, k, e⟩
  · have e2 := k.eq r2
    subst e2
    exact PySem.W.kia_one Z I.kIn J e (fun z => nomatch z) fin
  · cases (show u2 = Value.ref tp from r2)
    have hok : ObjOk X.prog X.w H s.heap tp (.tup cs) := I.hok tp _ hT
    obtain ⟨_, its, rv, o, h1, h2, n, h3⟩ := hok
    have e3 := ClsV.all k rv
    subst e3
    obtain ⟨oc, od', dt, sl⟩ := o
    simp only at h2 h3
    subst h2 h3
    exact PySem.W.kia_tup Z I.kIn J h1 e (fun z => nomatch z) fin
end
/-! ### a def that is called while an exception is handled -/
/-- what it promises: its handled exception's object is like Z says -/
structure FnZ (P : Program) (w : World) (K : PySem.W.Frag) (mg : Str → Option Value) (base : Heap) (CX : CXT) (k : Nat) (f : Addr) (fd : FuncData) (ps : List Str) (Z : Addr × Obj → Prop) (sp : Addr × Obj → Sp) : Prop where
  len : ∀ p vs H Q E, sp p vs H Q E → vs.length = ps.length
  run : ∀ (A : Around) (outer : List Env) (s : Shared) (H : Hp) (args : Args) (us : List Value) (vs : List V) (Q : VK) (E : XK) (p : Addr × Obj), L2H.RoomH k A → Z p → L2H.PinOk outer H s p → Env0 P w K mg base A outer s H →
    BindsTo s fd args (ps.zip us) → Vals vs us → sp p vs H Q E → codeAny (model P w) A (.call (.ref f) args) (CR CX outer P w H s Q E) s
section
variable {CX : CXT} {P : Program} {w : World} {K : PySem.W.Frag} {mg : Str → Option Value} {base : Heap} {k : Nat} {f : Addr} {name qual : Str} {params : Arguments} {body : List Stmt} {scope : Scope} {dV kV doc pm cdv ct oc : Value} {an od : Option Addr}
variable {osl : Array (Option Value)} {N ps : List Str} {sp : Addr × Obj → Sp} {Z : Addr × Obj → Prop}
theorem fnz_of (lk : K.lookup f = some ⟨oc, od, .func (PySem.W.fnOf name qual params body scope dV kV doc pm an cdv ct), osl⟩) (hcd : PySem.W.codeIn K cdv qual = true) (S : FnScope N ps scope)
    (len : ∀ p vs H Q E, sp p vs H Q E → vs.length = ps.length)
    (hbody : ∀ (A : Around) (outer : List Env) (s : Shared) (H : Hp) (vs : List V) (Q : VK) (E : XK) (p : Addr × Obj), Z p → L2H.RoomH k (A.deeper (envOfC qual scope s.heap.objs.size f cdv)) → sp p vs H Q E →
      ∃ t, PSs (L2H.cxH CX P w K mg base N qual scope f cdv A outer s H E p) body t ∧ t { nx := fun _ H' => Q .non H', rt := Q } (L2.start N vs) H) :
    FnZ P w K mg base CX (k + 1) f (PySem.W.fnOf name qual params body scope dV kV doc pm an cdv ct) ps Z sp := by
  constructor
  · exact len
  intro A outer s H args us vs Q E p hr hz hpin e0 hb r hsp
  have up : ∀ b o, base.get? b = some o → s.heap.get? b = some o := fun b o e => (e0.bs b o e).1
  have KX := e0.mod.kin.keeps up
  have hl := len p vs H Q E hsp
  have hkind : ∀ y ∈ ps.zip us, scope.names.lookup y.1 = some .local ∨ (scope.names.lookup y.1 = some .cell ∧ ((cellsFrom (s.heap.objs.size + 1) scope.names []).lookup y.1).isSome = true) := by
    intro y hy
    obtain ⟨n, v⟩ := y
    have hn : n ∈ ps := (List.of_mem_zip hy).1
    exact (S.par n hn).imp id fun q => ⟨q, PySem.W.cellsFrom_some _ _ _ (.inl q)⟩
  apply codeAny_call_function hr.depth (KX _ _ lk) rfl S.co S.gen rfl (PySem.W.codeRec_of KX hcd)
  apply hb
  apply wpAny_newFunctionEnv_cells S.kind hkind
  intro env he s1 x
  subst he
  have nl := (e0.mod.nolimit.keeps up).keeps x.toInCall.keep
  refine ⟨nl, codeAny_func ?_⟩
  obtain ⟨t, ht, hq⟩ := hbody A outer s H vs Q E p hz (hr.deeper _) hsp
  have I0 := L2H.inv_startH (CX := CX) (E := E) S hpin e0 hl r x
  apply wpAny_mono (ht.run [] s1 (L2.start N vs) H _ I0 hq)
  · intro fl s' hs
    cases fl with
    | ret u =>
      obtain ⟨v, σ', H', J, rv, q⟩ := hs
      exact ⟨v, H', J.os, J.bare, J.base, J.hok, rv, q⟩
    | next =>
      obtain ⟨σ', H', J, q⟩ := hs
      exact ⟨V.non, H', J.os, J.bare, J.base, J.hok, rfl, q⟩
    | brk => exact hs.elim fun _ h => h.elim fun _ h => h.2.elim
    | cont => exact hs.elim fun _ h => h.elim fun _ h => h.2.elim
  · intro e s' hs
    exact hs
end
section
variable {X : Cx} {CX : CXT} {k : Nat} {f : Addr} {fd : FuncData} {ps : List Str} {Z : Addr × Obj → Prop} {sp : Addr × Obj → Sp} {E : L2.St → XK} {x : Str} {q pos : Pos} {e : Expr} {es : List Expr} {t : TA} {p : Addr × Obj}
theorem pe_callZ (F : FnZ X.prog X.w X.K X.mg X.base CX k f fd ps Z sp) (hr : L2H.RoomH k X.A) (hp : p ∈ X.pn) (hz : Z p) (hg : Gl X x) (hm : X.mg x = some (.ref f)) (hk : PySem.W.keepIn X.K (.ref f) = true) (hb : Binds X.K fd ps []) (hx : ∀ σ, PassesAt CX X σ (E σ))
    (ha : PA X (e :: es) t) (hdb : (x == ("__debug__" : Str)) = false := by decide) (he : starEach (e :: es) X.env = (false, eval e X.env) :: starEach es X.env := by rfl) (hpl : (backTo pos (starEach es X.env)).any (·.1) = false := by rfl) :
    PE X (.Call (.Name x q) (e :: es) [] pos) (tCallS (sp p) E t) := by
  constructor
  intro pins s σ H Q I h
  apply wpAny_Call_Name_kw
  apply ld_glob I hg hm _ hdb
  apply PySem.W.callWith_K (h₀ := X.base) I.ok.mod.kin hk _ he hpl
  apply thn (ha.run pos pins s σ H _ I h)
  rintro us s1 ⟨vs, H1, I1, r, hsp⟩
  refine ⟨I1.kIn, ?_⟩
  have hl : us.length = ps.length := r.length.symm.trans (F.len _ _ _ _ _ hsp)
  have b := hb s1 us I1.kIn (by simpa using hl)
  rw [List.append_nil] at b
  have P1 := I1.pin p (List.mem_append_left _ hp)
  have nst : p.1 ∉ frs X.stack := fun hm => by
    cases List.mem_cons.mp (I1.stkSub p.1 hm) with
    | inl z => exact P1.2.2.1 z
    | inr z => exact P1.2.2.2.1 z
  refine wpAny_call (codeAny_mono (F.run X.A X.stack s1 H1 ⟨us, []⟩ us vs Q (E σ) p hr hz ⟨P1.1, P1.2.1, nst, P1.2.2.2.2⟩ I1.env0 b r hsp) ?_)
  intro rr s' hq
  match rr, hq with
  | .error e, hq => exact hx σ pins H1 s1 e s' I1 hq
  | .ok (.ret u), hq => exact I1.after hq
end
/-! ### try .. except x as n: .., further clauses behind it; whatever flies is the first one's -/
def wFirst (K : PySem.W.Frag) (c : Value) (i : Nat) (ts : Addr → Value → Option Addr → TS) (D : Ends) : WX := fun cls d σ H =>
  PySem.W.exmOne K cls c = some true ∧ ∀ a, H a = none → ts a cls d { nx := fun σ' H' => D.nx (σ'.set i none) H', rt := D.rt, bk := fun σ' H' => D.bk (σ'.set i none) H', ct := fun σ' H' => D.ct (σ'.set i none) H' } (σ.set i (some (.ref a))) H
section
variable {X : Cx} {x n : Str} {c : Value} {i : Nat} {body suite : List Stmt} {b₀ : Stmt} {np pos pos' : Pos} {more : List ExceptHandler} {tb : WX → TS} {ts : Addr → Value → Option Addr → TS}
theorem ps_try_first (hs : X.stack = X.env :: X.outer) (hf : X.env.frame = some X.env.locals) (hN : X.N.Nodup) (hi : X.N[i]? = some n) (hln : X.env.kindOf n = some .local) (hc : Names X x c)
    (hb : ∀ (W : WX) (pn : List (Addr × Obj)) (xe : Value → Shared → Prop), Takes (X.tr pn xe) W → PassesOwn (model X.prog X.w) X.A X.env xe → PSs (X.tr pn xe) body (tb W))
    (hsu : ∀ (a : Addr) (oe : Obj) (cls : Value) (d : Option Addr) (pn : List (Addr × Obj)), Zc cls d oe → (∃ vs, oe.data = .fields vs) → PSs (X.suite a ((a, oe) :: pn)) (b₀ :: suite) (ts a cls d)) :
    PS X (.Try body (.ExceptHandler (some (.Name x np)) (some n) (b₀ :: suite) pos' :: more) [] [] pos) (fun D σ H => tb (wFirst X.K c i ts D) D σ H) := by
  constructor
  intro pins s σ H D I h
  have ok := I.ok
  have hfr : X.A.frames = some (X.env :: X.outer) := ok.frames.trans (congrArg some hs)
  apply wpAny_Try_except
  let back : Value → Shared → Prop := fun e s₁ => wpAny (model X.prog X.w) X.A (noteFrame e X.env) (fun _ s₂ => wpAny (model X.prog X.w) X.A (setFlight e none) (fun _ s₃ =>
    wpAny (model X.prog X.w) X.A (handleBy e X.env (.ExceptHandler (some (.Name x np)) (some n) (b₀ :: suite) pos' :: more)) (SP X pins D) X.xe s₃) X.xe s₂) X.xe s₁
  -- what is thrown comes to the first clause
  have catch_ : Takes (X.tr (X.pn ++ pins) back) (wFirst X.K c i ts D) := by
    rintro u s' ⟨a, B, sI, pins', σ', H', cls, d, hu, J', nb, up, sky, na, os, ag, hyes, hrun⟩
    subst hu
    have J := J'.ofTry ok
    have sk : Sky B (X.env :: X.outer) a (Zc cls d) X.env.locals s'.heap := hs ▸ sky
    show wpAny (model X.prog X.w) X.A (noteFrame (.ref a) X.env) _ _ _
    apply Sky.land Zc.steady hfr hf sk
    intro h3 fl3 up3
    -- the state at a heap where it is held
    have at_ : ∀ h5, HandSPX.FlyingZ B (X.env :: X.outer) a (Zc cls d) h5 → s'.heap.UpToSlots h5 → ∃ oe, Zc cls d oe ∧ (∃ vs, oe.data = .fields vs) ∧ h5.get? a = some oe ∧ Inv (X.suite a ((a, oe) :: (X.pn ++ pins))) [] σ' H' { s' with heap := h5 } := by
      intro h5 fl5 up5
      obtain ⟨oe, vs, he, hz, hd⟩ := fl5.there
      have nfr : a ∉ frs (X.env :: X.outer) := fun hm => by
        obtain ⟨_, o', e', hnf⟩ := fl5.2.2.1.mem hm
        rw [he] at e'
        cases e'
        exact hnf _ hd
      have toF : ∀ e ∈ X.env :: X.outer, e.frame = some a → False := fun e hm hq => nfr (List.mem_filterMap.mpr ⟨e, hm, hq⟩)
      have nL : a ≠ X.env.locals := fun z => toF X.env List.mem_cons_self (by rw [hf, z])
      have nF : a ∉ X.fs := fun hm => by
        obtain ⟨e, hm2, hq⟩ := List.mem_filterMap.mp hm
        exact toF e (List.mem_cons_of_mem _ hm2) hq
      have J5 : Inv X pins σ' H' { s' with heap := h5 } := J.landed nb fl5.1 (up.trans up5) os ag
      exact ⟨oe, hz, ⟨vs, hd⟩, he, J5.suite he hd na nL nF⟩
    obtain ⟨oe3, hz3, hd3, he3, S3⟩ := at_ h3 fl3 up3
    refine wpAny_handleBy_cons (codeAny_handlers_test ?_) (by intro q; cases q)
    have tells : PySem.W.Looks (model X.prog X.w) h3 (typeOf (.ref a)) cls := fun A Q E s k q => wpAny_typeOf_ref (k _ _ he3) (hz3.1.symm ▸ q)
    have LM := PySem.W.exm_one (M := model X.prog X.w) S3.kIn tells hyes
    obtain ⟨hg, hdbg, hm⟩ := hc
    have name : ∀ {Q : Value → Shared → Prop} {E : Value → Shared → Prop}, Q c { s' with heap := h3 } → wpAny (model X.prog X.w) (X.A.mark (some (.ref a))) (eval (.Name x np) X.env) Q E { s' with heap := h3 } := by
      intro Q E q
      cases hm with
      | inl hm => exact ld_glob (X := X.suite a ((a, oe3) :: (X.pn ++ pins))) S3 hg hm q hdbg
      | inr hm => exact ld_blt (X := X.suite a ((a, oe3) :: (X.pn ++ pins))) S3 hg hm.1 hm.2.1 q hm.2.2 hdbg
    apply name
    apply LM.here
    apply codeAny_handlers_suite_as
    apply HandSPX.lands_againZ fl3
    intro h4 fl4 up4
    obtain ⟨oe4, hz4, hd4, he4, S4⟩ := at_ h4 fl4 (up3.trans up4)
    refine store_ok (X := X.suite a ((a, oe4) :: (X.pn ++ pins))) (v := .ref a) S4 hN hi (.inl hln) rfl (fun s5 S5 => ?_) (.inr hln)
    apply wpAny_mono ((hsu a oe4 cls d (X.pn ++ pins) hz4 hd4).run [] s5 _ H' _ S5 (hrun a na))
    · intro f s6 hsp
      have gone : ∀ {σ6 : L2.St} {H6 : Hp} {Q : Shared → Prop}, Inv (X.suite a ((a, oe4) :: (X.pn ++ pins))) [] σ6 H6 s6 → (∀ s7, Inv X pins (σ6.set i none) H6 s7 → Q s7) →
          wpAny (model X.prog X.w) X.A (do bindName X.env n .none; unbindBehindTheSuite X.env n pos') (fun _ s7 => Q s7) X.xe s6 := fun S6 hq => gone_ok (S6.unsuite ok) hN hi hln hq
      match f, hsp with
      | .next, ⟨σ6, H6, S6, q6⟩ => exact gone S6 fun s7 J7 => ⟨_, _, J7, q6⟩
      | .brk, ⟨σ6, H6, S6, q6⟩ => exact gone S6 fun s7 J7 => ⟨_, _, J7, q6⟩
      | .cont, ⟨σ6, H6, S6, q6⟩ => exact gone S6 fun s7 J7 => ⟨_, _, J7, q6⟩
      | .ret u, ⟨v6, σ6, H6, S6, r6, q6⟩ => exact gone S6 fun s7 J7 => ⟨_, _, _, J7, r6, q6⟩
    · intro _ _ z
      exact False.elim z
  apply wpAny_mono ((hb (wFirst X.K c i ts D) (X.pn ++ pins) back catch_ PassesOwn.looking).run [] s σ H D (I.toTry _) h)
  · intro f s1 hsp
    match f, hsp with
    | .next, ⟨σ', H', J', q⟩ => exact wpAny_execs_nil ⟨σ', H', J'.ofTry ok, q⟩
    | .brk, ⟨σ', H', J', q⟩ => exact ⟨σ', H', J'.ofTry ok, q⟩
    | .cont, ⟨σ', H', J', q⟩ => exact ⟨σ', H', J'.ofTry ok, q⟩
    | .ret u, ⟨v, σ', H', J', r, q⟩ => exact ⟨v, σ', H', J'.ofTry ok, r, q⟩
  · intro e s1 he
    exact he
end
end R59
/-! KR9 -/
set_option maxHeartbeats 1000000
namespace R59
open PySem PySem.Spec PyProof.Rows L2
/-! ### tuple(list): a tuple without a dict, its methods -/
section
variable {X : Cx}
theorem cr_tupleF : CallR X (.type "tuple") (fun xs H Q => ∃ p ys, xs = [.ref p] ∧ SqL X.K H p ys ∧ ∀ l o, H l = none → o.cls = .type "tuple" → o.dict = none → Q (.ref l) (upd H l (.frz o (.tup ys)))) := by
  intro pins s σ H xs us Q I r h
  obtain ⟨p, ys, rfl, hq, q⟩ := h
  obtain ⟨u, rfl, rx⟩ := vals1 r
  cases rx
  obtain ⟨its, r', pl, hz⟩ := I.list hq
  have hlen : its.toArray.size ≤ sizeLine := by
    rw [List.size_toArray, ← r'.length]
    exact hz
  refine call_tuple_list pl.isList (fun h' kp => ?_) hlen
  have I1 : Inv X pins σ H { s with heap := h' } := I.kept (t' := s.toks) kp
  have ok : ObjOk X.prog X.w (upd H h'.objs.size (.frz { cls := .type "tuple", data := .seq its.toArray } (.tup ys))) (h'.push { cls := .type "tuple", data := .seq its.toArray }) h'.objs.size (.frz { cls := .type "tuple", data := .seq its.toArray } (.tup ys)) :=
    ⟨Heap.get?_push_size _ rfl, hz, its, r', IsTup.new _ _⟩
  exact ⟨.ref h'.objs.size, _, I1.laid (t' := s.toks) (fun b o e => Heap.get?_push_of_some _ e) (Nat.le_refl _) ok, rfl, q _ _ (I1.hok.fresh (Nat.le_refl _)) rfl rfl⟩
def tBF (r : V → List V → Hp → VK → Prop) (to : TE) (t : TA) : TE := fun σ H Q => to σ H fun x H1 => (∃ p ob xs, x = .ref p ∧ H1 p = some (.frz ob (.tup xs)) ∧ ob.cls = .type "tuple" ∧ ob.dict = none) ∧ t σ H1 fun vs H2 => r x vs H2 Q
theorem pe_bmF {o e : Expr} {es : List Expr} {to : TE} {t : TA} {name : Str} {apos cpos : Pos} {id : String} {r : V → List V → Hp → VK → Prop} (slot : Slot "tuple" name id) (hty : typeOf (.builtin id) = pure (.type "method_descriptor")) (hm : MtR X id r) (ho : PE X o to) (ha : PA X (e :: es) t)
    (hbase : attributeBase o name X.env (eval o X.env) = eval o X.env := by rfl)
    (hfew : ((backTo cpos (starEach (e :: es) X.env)).all (fun x => !x.1) && (backToKw cpos (keywordEach [] X.env)).all (fun x => x.1.isSome)
      && decide ((e :: es).length + ([] : List Keyword).length + (if ([] : List Keyword).isEmpty then 0 else 1) < 30)) = true := by rfl)
    (hline : (apos.endLine == cpos.line) = true := by rfl) (hs : starEach (e :: es) X.env = (false, eval e X.env) :: starEach es X.env := by rfl) (hplain : (backTo cpos (starEach es X.env)).any (·.1) = false := by rfl) :
    PE X (.Call (.Attribute o name apos) (e :: es) [] cpos) (tBF r to t) := by
  constructor
  intro pins s σ H Q I h
  apply wpAny_Call_method_late hbase hfew hline rfl
  apply thn (ho.run pins s σ H _ I h)
  rintro v s1 ⟨x, H1, I1, r1, ⟨p, ob, xs, ex, hp, hc, hd⟩, q1⟩
  subst ex
  obtain rfl : v = Value.ref p := r1
  obtain ⟨hget, _⟩ : ObjOk X.prog X.w H1 s1.heap p (.frz ob (.tup xs)) := I1.hok p _ hp
  refine ⟨"tuple", id, PySem.F.plainAttrs_tuple, slot, hty, ⟨ob, hget, hc⟩, fun a ea => ?_, ?_⟩
  · cases ea
    exact ⟨ob, hget, hd⟩
  have hA := ha.run cpos pins s1 σ H1 _ I1 q1
  rw [hs] at hA ⊢
  have plain : (backTo cpos ((false, eval e X.env) :: starEach es X.env)).any (·.1) = false := by
    show (false || (backTo cpos (starEach es X.env)).any (·.1)) = false
    rw [hplain] <;> rfl
  apply Calls.callWith_builtin plain
  apply Calls.evalArgs_plain
  exact thn hA fun us s2 ⟨vs, H2, I2, r2, q2⟩ => hm pins s2 σ H2 (.ref p) vs (.ref p) us Q I2 rfl r2 q2
end
/-! ### operators on several kinds -/
section
variable {X : Cx}
def rAddU (K : PySem.W.Frag) : R2 := fun x y H Q => (rI0 (fun i j => .int (i + j))) x y H Q ∨ rCat x y H Q ∨ rCatA K x y H Q
theorem op_addU : OpR X (binaryOp .Add) (rAddU X.K) := op_add.or (op_cat.or op_catA)
def rMulU (K : PySem.W.Frag) : R2 := fun x y H Q => (rI CMul (fun i j => .int (i * j))) x y H Q ∨ rRep x y H Q ∨ rRep3 K x y H Q
theorem op_mulU : OpR X (binaryOp .Mult) (rMulU X.K) := op_mul.or (op_rep.or op_rep3)
def rEqU (K : PySem.W.Frag) : R2 := fun x y H Q => rEq x y H Q ∨ rEqP K x y H Q
theorem op_eqU (hu : X.A.units + 190 < cLine) : OpR X (compareOp .Eq) (rEqU X.K) := op_eq.or (op_eqP hu)
def rNeU (K : PySem.W.Frag) : R2 := fun x y H Q => rNe x y H Q ∨ rNeP K x y H Q
theorem op_neU (hu : X.A.units + 190 < cLine) : OpR X (compareOp .NotEq) (rNeU X.K) := op_ne.or (op_neP hu)
def rLtU (K : PySem.W.Frag) : R2 := fun x y H Q => (rI0 (fun i j => .bl (decide (i < j)))) x y H Q ∨ rLtD K x y H Q
theorem op_ltU (hu : X.A.units + 190 < cLine) : OpR X (compareOp .Lt) (rLtU X.K) := op_lt.or (op_ltD hu)
end
theorem hq_of {A : Around} {k : Nat} (hr : Room k A) : A.units + 190 < cLine := by
  have := hr.un
  omega
/-! ### the defs of the module by name -/
structure Has (P : Program) (w : World) (K : PySem.W.Frag) (mg : Str → Option Value) (base : Heap) (CX : CXT) (x : Str) (ps : List Str) (k : Nat) (sp : Sp) : Prop where
  ex : ∃ f fd, mg x = some (.ref f) ∧ PySem.W.keepIn K (.ref f) = true ∧ Binds K fd ps [] ∧ FnOk P w K mg base CX k f fd ps sp
section
variable {X : Cx} {x : Str} {ps : List Str} {k j : Nat} {sp : Sp} {e : Expr} {es : List Expr} {t : TA} {p pos : Pos}
theorem pe_f (h : Has X.prog X.w X.K X.mg X.base CX0 x ps k sp) (hr : Room k X.A) (hg : Gl X x) (ha : PA X (e :: es) t) (hdb : (x == ("__debug__" : Str)) = false := by decide)
    (he : starEach (e :: es) X.env = (false, eval e X.env) :: starEach es X.env := by rfl) (hpl : (backTo pos (starEach es X.env)).any (·.1) = false := by rfl) : PE X (.Call (.Name x p) (e :: es) [] pos) (tCall sp [] E0 t) := by
  obtain ⟨f, fd, hm, hk, hb, F⟩ := h.ex
  exact pe_call F hr hg hm hk hb .nil pass0 ha hdb he hpl
end
theorem tCall_nil {sp : Sp} {E : XK} {t : TA} {σ : L2.St} {H : Hp} {Q : VK} (h : t σ H fun vs H1 => sp vs H1 Q E) (mono : ∀ (Q Q' : List V → Hp → Prop), (∀ vs H1, Q vs H1 → Q' vs H1) → t σ H Q → t σ H Q') : tCall sp [] E t σ H Q :=
  mono _ _ (fun vs H1 q => by rw [List.append_nil]; exact q) h
/-! ### frames: all but what stands at M is as it was -/
def Fr (M : List Addr) (H H' : Hp) : Prop := ∀ a o, H a = some o → a ∉ M → H' a = some o
theorem Fr.refl (M : List Addr) (H : Hp) : Fr M H H := fun _ _ h _ => h
theorem Fr.trans {M : List Addr} {H H1 H2 : Hp} (a : Fr M H H1) (b : Fr M H1 H2) : Fr M H H2 := fun x o h n => b x o (a x o h n) n
theorem Fr.new {M : List Addr} {H : Hp} {p : Addr} {o : HO} (h : H p = none) : Fr M H (upd H p o) := fun a u e _ => by
  rw [upd_ne (ne_of_none e h)]
  exact e
/-- what H doesn't know may change, what stands at M too -/
theorem Fr.put {M : List Addr} {H H' : Hp} {p : Addr} {o : HO} (e : Fr M H H') (h : H p = none ∨ p ∈ M) : Fr M H (upd H' p o) := fun a u ha n => by
  have : a ≠ p := by
    rintro rfl
    rcases h with h | h
    · rw [h] at ha
      cases ha
    · exact n h
  rw [upd_ne this]
  exact e a u ha n
theorem Fr.less {M M' : List Addr} {H H' : Hp} (e : Fr M H H') (h : ∀ a ∈ M, a ∈ M') : Fr M' H H' := fun a o q n => e a o q fun m => n (h a m)
theorem Fr.same {H H' : Hp} (e : Fr [] H H') : Same H H' := fun a o q => e a o q (by simp)
theorem Fr.of_same {M : List Addr} {H H' : Hp} (e : Same H H') : Fr M H H' := fun a o q _ => e a o q
theorem Fr.free {M : List Addr} {H H' : Hp} {p : Addr} (e : Fr M H H') (h : H' p = none) (hM : p ∉ M) : H p = none := by
  cases q : H p with
  | none => rfl
  | some o =>
    rw [e p o q hM] at h
    cases h
/-- fresh, where all of M is known -/
theorem Fr.fresh {M : List Addr} {H H' : Hp} {p : Addr} (e : Fr M H H') (h : H' p = none) (hM : ∀ a ∈ M, ∃ o, H' a = some o) : H p = none := e.free h fun m => by
  obtain ⟨o, q⟩ := hM p m
  rw [h] at q
  cases q
theorem Fr.tps {K : PySem.W.Frag} {M : List Addr} {H H' : Hp} (e : Fr M H H') (hM : ∀ a ∈ M, ∃ o, H a = some o ∧ Mut (some o)) : Tps K H H' := .of
  (fun b xs q => e b _ q fun m => by
    obtain ⟨o, h1, h2⟩ := hM b m
    rw [q] at h1
    cases h1
    exact h2) (fun b o u q => e b _ q fun m => by
    obtain ⟨o', h1, h2⟩ := hM b m
    rw [q] at h1
    cases h1
    exact h2)
theorem ne_of' {H : Hp} {a b : Addr} {o u : HO} (ha : H a = some o) (hb : H b = some u) (h : o ≠ u) : a ≠ b := fun e => by
  rw [e, hb] at ha
  exact h (Option.some.inj ha).symm
end R59
/-! KK -/
set_option maxHeartbeats 1000000
/-! the rules with the written part by its name -/
namespace R59
open PySem PySem.Spec PyProof.Rows L2
section
variable (K : PySem.W.Frag) {X : Cx}
theorem op_addK (hK : X.K = K := by rfl) : OpR X (binaryOp .Add) (rAddU K) := by subst hK; exact op_addU
theorem op_mulK (hK : X.K = K := by rfl) : OpR X (binaryOp .Mult) (rMulU K) := by subst hK; exact op_mulU
theorem op_eqK (hu : X.A.units + 190 < cLine) (hK : X.K = K := by rfl) : OpR X (compareOp .Eq) (rEqU K) := by subst hK; exact op_eqU hu
theorem op_neK (hu : X.A.units + 190 < cLine) (hK : X.K = K := by rfl) : OpR X (compareOp .NotEq) (rNeU K) := by subst hK; exact op_neU hu
theorem op_ltK (hu : X.A.units + 190 < cLine) (hK : X.K = K := by rfl) : OpR X (compareOp .Lt) (rLtU K) := by subst hK; exact op_ltU hu
theorem op_inK (hu : X.A.units + 190 < cLine) (hK : X.K = K := by rfl) : OpR X (compareOp .In) (rInP K) := by subst hK; exact op_inP hu
theorem op_notInK (hu : X.A.units + 190 < cLine) (hK : X.K = K := by rfl) : OpR X (compareOp .NotIn) (rNotInP K) := by subst hK; exact op_notInP hu
/-- a list or a tuple by a place -/
def rIxU (K : PySem.W.Frag) : R2 := fun x y H Q => ∃ p xs i v, x = .ref p ∧ y = .int i ∧ (SqL K H p xs ∨ SqT K H p xs) ∧ atI xs i = some v ∧ Q v H
theorem ix_K (hK : X.K = K := by rfl) : IxR X (rIxU K) := by
  subst hK
  intro value slice pins s σ H x y v u Q I rx ry h hs
  obtain ⟨p, xs, i, z, rfl, rfl, hq, he, q⟩ := h
  rcases hq with hq | hq
  · exact ix_list value slice pins s σ H _ _ v u Q I rx ry ⟨p, xs, i, z, rfl, rfl, hq, he, q⟩ hs
  · exact ix_tup value slice pins s σ H _ _ v u Q I rx ry ⟨p, xs, i, z, rfl, rfl, hq, he, q⟩ hs
def rLenU (K : PySem.W.Frag) : List V → Hp → VK → Prop := fun xs H Q => ∃ p ys, xs = [.ref p] ∧ (SqL K H p ys ∨ SqT K H p ys) ∧ Q (.int ys.length) H
theorem cr_lenK (hK : X.K = K := by rfl) : CallR X (.builtin "len") (rLenU K) := by subst hK; exact call_len_seq
theorem cr_maxK (hc : X.calm = true) (hK : X.K = K := by rfl) : CallR X (.builtin "max") (rMax K) := by subst hK; exact cr_max hc
theorem cr_minK (hc : X.calm = true) (hK : X.K = K := by rfl) : CallR X (.builtin "min") (rMin K) := by subst hK; exact cr_min hc
theorem cr_sumK (hc : X.calm = true) (hK : X.K = K := by rfl) : CallR X (.builtin "sum") (rSum K) := by subst hK; exact cr_sum hc
theorem cr_allK (hc : X.calm = true) (hK : X.K = K := by rfl) : CallR X (.builtin "all") (rAll K) := by subst hK; exact cr_all hc
def rListOf (K : PySem.W.Frag) : List V → Hp → VK → Prop := fun xs H Q => ∃ p ys, xs = [.ref p] ∧ (SqL K H p ys ∨ SqT K H p ys) ∧ ∀ l, H l = none → Q (.ref l) (upd H l (.lst ys))
theorem cr_listK (hK : X.K = K := by rfl) : CallR X (.type "list") (rListOf K) := by subst hK; exact call_list_of
def rTupOf (K : PySem.W.Frag) : List V → Hp → VK → Prop := fun xs H Q => ∃ p ys, xs = [.ref p] ∧ ((SqL K H p ys ∧ ∀ l, H l = none → Q (.ref l) (upd H l (.tup ys))) ∨ (SqT K H p ys ∧ Q (.ref p) H))
theorem cr_tupleK (hK : X.K = K := by rfl) : CallR X (.type "tuple") (rTupOf K) := by subst hK; exact call_tuple_of
def rTupF (K : PySem.W.Frag) : List V → Hp → VK → Prop := fun xs H Q => ∃ p ys, xs = [.ref p] ∧ SqL K H p ys ∧ ∀ l o, H l = none → o.cls = .type "tuple" → o.dict = none → Q (.ref l) (upd H l (.frz o (.tup ys)))
theorem cr_tupleFK (hK : X.K = K := by rfl) : CallR X (.type "tuple") (rTupF K) := by subst hK; exact cr_tupleF
theorem cr_sortedK (hu : X.A.units + 190 < cLine) (hK : X.K = K := by rfl) : CallR X (.builtin "sorted") (rSortedD K) := by subst hK; exact cr_sortedD hu
theorem cr_minDK (hc : X.calm = true) (hu : X.A.units + 190 < cLine) (hK : X.K = K := by rfl) : CallR X (.builtin "min") (rMinD K) := by subst hK; exact cr_minD hc hu
theorem sl_listK (hK : X.K = K := by rfl) : SlR X (rSlL K) := by subst hK; exact sl_list
theorem sl_tupK (hK : X.K = K := by rfl) : SlR X (rSlA K) := by subst hK; exact sl_tupA
theorem pe_fldK {e : Expr} {ta : TE} {f : Str} {pos : Pos} (he : PE X e ta) (hb : attributeBase e f X.env (eval e X.env) = eval e X.env := by rfl) (hK : X.K = K := by rfl) : PE X (.Attribute e f pos) (tFld K ta f) := by subst hK; exact pe_fld he hb
theorem pg_tupK {es : List Expr} {k : Nat} {t : TGs} {n : Nat} {pos : Pos} (hc : X.calm = true) (h : PGs X es t) (hn : (assignEach es X.env).length = n := by rfl) (hst : (assignEach es X.env).findIdx? (·.1) = none := by rfl) (hK : X.K = K := by rfl) : PG X (.Tuple es k pos) (gTup K n t) := by
  subst hK; exact pg_tup hc h hn hst
theorem pi_listK {tg l : Expr} {tl : TE} (hl : PE X l tl) (hK : X.K = K := by rfl) : PI X tg l (iList K tl) := by subst hK; exact pi_list hl
theorem pi_tupK {tg l : Expr} {tl : TE} (hl : PE X l tl) (hK : X.K = K := by rfl) : PI X tg l (iTup K tl) := by subst hK; exact pi_tup hl
theorem pe_appK {o e : Expr} {to te : TE} {apos cpos : Pos} (ho : PE X o to) (he : PE X e te)
    (hbase : attributeBase o "append" X.env (eval o X.env) = eval o X.env := by rfl)
    (hfew : ((backTo cpos (starEach [e] X.env)).all (fun x => !x.1) && (backToKw cpos (keywordEach [] X.env)).all (fun x => x.1.isSome)
      && decide ([e].length + ([] : List Keyword).length + (if ([] : List Keyword).isEmpty then 0 else 1) < 30)) = true := by rfl)
    (hline : (apos.endLine == cpos.line) = true := by rfl) (hs : starEach [e] X.env = (false, eval e X.env) :: starEach [] X.env := by rfl) (hplain : (backTo cpos (starEach [] X.env)).any (·.1) = false := by rfl) (hK : X.K = K := by rfl) :
    PE X (.Call (.Attribute o "append" apos) [e] [] cpos) (tBM K "list" rAppend to (tCons te tNil)) := by
  subst hK
  exact pe_bm PySem.F.plainAttrs_list PySem.F.slot_list_append PySem.F.type_list_append mt_append ho (pa_cons he pa_nil hs) hbase hfew hline hs hplain
end
end R59
/-! KL -/
set_option autoImplicit false
/-! the least members: what the law's own table leaves out, plain -/
namespace KB
/-- the rows all of whose classes are among S -/
def alive (R : List Row) (S : List Nat) : List Row := R.filter fun r => decide (r.c ∈ S) && r.is.all fun i => decide (i ∈ S)
theorem mem_alive {R : List Row} {S : List Nat} {r : Row} : r ∈ alive R S ↔ r ∈ R ∧ r.c ∈ S ∧ ∀ i ∈ r.is, i ∈ S := by
  unfold alive
  simp [List.mem_filter, List.all_eq_true]
mutual
theorem Mem.sub {T T' : List Row} (h : ∀ r ∈ T, r ∈ T') : ∀ (t : Tm) (c : Nat), Mem T t c → Mem T' t c
  | .node s ts, c, .mk hr hts => .mk (h _ hr) (MemL.sub h _ _ hts)
theorem MemL.sub {T T' : List Row} (h : ∀ r ∈ T, r ∈ T') : ∀ (ts : List Tm) (is : List Nat), MemL T ts is → MemL T' ts is
  | [], _, .nil => .nil
  | t :: ts, _, .cons h1 h2 => .cons (Mem.sub h _ _ h1) (MemL.sub h _ _ h2)
end
abbrev Bsts := Nat → Option Tm
/-- the children that a row finds -/
def kidsB (B : Bsts) : List Nat → Option (List Tm)
  | [] => some []
  | i :: is => match B i, kidsB B is with
    | some t, some ts => some (t :: ts)
    | _, _ => none
theorem kidsB_some {B : Bsts} : ∀ {is : List Nat}, (∀ i ∈ is, (B i).isSome = true) → ∃ ts, kidsB B is = some ts
  | [], _ => ⟨[], rfl⟩
  | i :: is, h => by
    obtain ⟨ts, e⟩ := kidsB_some fun j hj => h j (List.mem_cons_of_mem _ hj)
    have h1 := h i List.mem_cons_self
    cases e1 : B i with
    | none =>
      rw [e1] at h1
      cases h1
    | some t => exact ⟨t :: ts, by rw [kidsB, e1, e]⟩
theorem kidsB_all {B : Bsts} : ∀ {is : List Nat} {ts : List Tm}, kidsB B is = some ts → All2 (fun t i => B i = some t) ts is
  | [], ts, h => by
    cases h
    exact .nil
  | i :: is, ts, h => by
    rw [kidsB] at h
    cases e1 : B i with
    | none =>
      rw [e1] at h
      cases h
    | some t =>
      cases e2 : kidsB B is with
      | none =>
        rw [e1, e2] at h
        cases h
      | some us =>
        rw [e1, e2] at h
        cases h
        exact .cons e1 (kidsB_all e2)
structure BOk (R : List Row) (ks : List Nat) (B : Bsts) : Prop where
  dom : ∀ c, (B c).isSome = true ↔ c ∈ ks
  nd : ks.Nodup
  cl : ∀ c ∈ ks, ∃ r ∈ R, r.c = c
  sz : ∀ c t, B c = some t → t.size ≤ 40
  mem : ∀ c t, B c = some t → Mem (alive R ks) t c
def putB (B : Bsts) (c : Nat) (t : Tm) : Bsts := fun x => if x = c then some t else B x
def putS (ks : List Nat) (c : Nat) : List Nat := if c ∈ ks then ks else ks ++ [c]
theorem mem_putS {ks : List Nat} {c x : Nat} : x ∈ putS ks c ↔ x ∈ ks ∨ x = c := by
  unfold putS
  by_cases h : c ∈ ks
  · rw [if_pos h]
    exact ⟨.inl, fun q => q.elim id fun e => e ▸ h⟩
  · rw [if_neg h]
    simp
theorem BOk.nil {R : List Row} : BOk R [] (fun _ => none) := ⟨fun c => by simp, List.nodup_nil, (fun c h => by cases h), (fun c t h => by cases h), fun c t h => by cases h⟩
theorem BOk.put {R : List Row} {ks : List Nat} {B : Bsts} (O : BOk R ks B) {r : Row} (hr : r ∈ R) {ts : List Tm} (hk : kidsB B r.is = some ts) (hs : 1 + sizes ts ≤ 40) : BOk R (putS ks r.c) (putB B r.c (.node r.s ts)) := by
  have ka := kidsB_all hk
  have inS : ∀ i ∈ r.is, i ∈ ks := fun i hi => by
    obtain ⟨k, hk1, hk2⟩ := List.mem_iff_getElem.mp hi
    have hl := ka.len
    have e1 : ts[k]? = some (ts[k]'(by omega)) := List.getElem?_eq_getElem _
    have e2 : r.is[k]? = some i := by rw [List.getElem?_eq_getElem hk1, hk2]
    have q := ka.get k _ _ e1 e2
    exact (O.dom i).mp (by rw [q]; rfl)
  have sub : ∀ r' ∈ alive R ks, r' ∈ alive R (putS ks r.c) := fun r' h => by
    obtain ⟨h1, h2, h3⟩ := mem_alive.mp h
    exact mem_alive.mpr ⟨h1, mem_putS.mpr (.inl h2), fun i hi => mem_putS.mpr (.inl (h3 i hi))⟩
  refine ⟨fun c => ?_, ?_, fun c hc => ?_, fun c t h => ?_, fun c t h => ?_⟩
  · unfold putB
    rw [mem_putS]
    by_cases e : c = r.c
    · simp [e]
    · simp [e, O.dom c]
  · unfold putS
    by_cases h : r.c ∈ ks
    · rw [if_pos h]
      exact O.nd
    · rw [if_neg h]
      exact List.nodup_append.mpr ⟨O.nd, by simp, fun a ha b hb => by
        rw [List.mem_singleton.mp hb]
        exact fun e => h (e ▸ ha)⟩
  · rcases mem_putS.mp hc with h | h
    · exact O.cl c h
    · exact ⟨r, hr, h.symm⟩
  · unfold putB at h
    by_cases e : c = r.c
    · rw [if_pos e] at h
      cases h
      rw [Tm.size]
      exact hs
    · rw [if_neg e] at h
      exact O.sz c t h
  · unfold putB at h
    by_cases e : c = r.c
    · rw [if_pos e] at h
      cases h
      subst e
      refine .mk (is := r.is) (mem_alive.mpr ⟨hr, mem_putS.mpr (.inr rfl), fun i hi => mem_putS.mpr (.inl (inS i hi))⟩) ?_
      exact memL_of (ka.imp fun t i q => Mem.sub sub _ _ (O.mem i t q))
    · rw [if_neg e] at h
      exact Mem.sub sub _ _ (O.mem c t h)
/-! ### the measure -/
def code (l : List Int) : Nat := l.foldl (fun a x => a * 7 + x.toNat) 0
theorem code_from (l : List Int) : ∀ a : Nat, l.foldl (fun a x => a * 7 + x.toNat) a = a * 7 ^ l.length + code l := by
  induction l with
  | nil => intro a; simp [code]
  | cons x l ih =>
    intro a
    have e1 : code (x :: l) = (0 * 7 + x.toNat) * 7 ^ l.length + code l := ih _
    rw [List.foldl_cons, ih, e1, List.length_cons, Nat.pow_succ, Nat.add_mul, Nat.zero_mul, Nat.zero_add, Nat.mul_assoc, Nat.mul_comm 7]
    omega
theorem code_cons (x : Int) (l : List Int) : code (x :: l) = x.toNat * 7 ^ l.length + code l := by
  have := code_from l (0 * 7 + x.toNat)
  rw [Nat.zero_mul, Nat.zero_add] at this
  unfold code
  rw [List.foldl_cons, Nat.zero_mul, Nat.zero_add]
  exact this
theorem code_lt : ∀ {l : List Int}, (∀ x ∈ l, 0 ≤ x ∧ x ≤ 5) → code l < 7 ^ l.length
  | [], _ => by decide
  | x :: l, h => by
    rw [code_cons, List.length_cons, Nat.pow_succ]
    have h1 := h x List.mem_cons_self
    have h2 := code_lt fun y hy => h y (List.mem_cons_of_mem _ hy)
    have h3 : x.toNat ≤ 5 := by omega
    have h4 : x.toNat * 7 ^ l.length ≤ 5 * 7 ^ l.length := Nat.mul_le_mul_right _ h3
    omega
theorem code_mono : ∀ {a b : List Int}, a.length = b.length → (∀ x ∈ a, 0 ≤ x ∧ x ≤ 5) → (∀ x ∈ b, 0 ≤ x ∧ x ≤ 5) → a < b → code a < code b
  | [], [], _, _, _, h => absurd h (rlt_irrefl [])
  | [], _ :: _, hl, _, _, _ => by simp at hl
  | _ :: _, [], hl, _, _, _ => by simp at hl
  | x :: a, y :: b, hl, ha, hb, h => by
    have hl' : a.length = b.length := by simpa using hl
    rw [code_cons, code_cons, hl']
    have c1 := code_lt fun z hz => ha z (List.mem_cons_of_mem _ hz)
    rw [hl'] at c1
    have h1 := ha x List.mem_cons_self
    have h2 := hb y List.mem_cons_self
    rcases List.cons_lt_cons_iff.mp h with q | ⟨q, q2⟩
    · have h3 : x.toNat + 1 ≤ y.toNat := by omega
      have h4 : (x.toNat + 1) * 7 ^ b.length ≤ y.toNat * 7 ^ b.length := Nat.mul_le_mul_right _ h3
      rw [Nat.add_mul, Nat.one_mul] at h4
      omega
    · subst q
      have := code_mono hl' (fun z hz => ha z (List.mem_cons_of_mem _ hz)) (fun z hz => hb z (List.mem_cons_of_mem _ hz)) q2
      omega
mutual
theorem Mem.syms5 {T : List Row} (h : ∀ r ∈ T, r.s ≤ 5) : ∀ (t : Tm) (c : Nat), Mem T t c → ∀ x ∈ t.syms, 0 ≤ x ∧ x ≤ 5
  | .node s ts, c, .mk hr hts => fun x hx => by
    rw [Tm.syms] at hx
    rcases List.mem_cons.mp hx with e | e
    · have := h _ hr
      simp at this
      omega
    · exact MemL.syms5 h _ _ hts x e
theorem MemL.syms5 {T : List Row} (h : ∀ r ∈ T, r.s ≤ 5) : ∀ (ts : List Tm) (is : List Nat), MemL T ts is → ∀ x ∈ symsL ts, 0 ≤ x ∧ x ≤ 5
  | [], _, .nil => fun x hx => by cases hx
  | t :: ts, _, .cons h1 h2 => fun x hx => by
    rw [symsL] at hx
    rcases List.mem_append.mp hx with e | e
    · exact Mem.syms5 h _ _ h1 x e
    · exact MemL.syms5 h _ _ h2 x e
end
def rk (t : Tm) : Nat := t.size * 7 ^ 40 + code t.syms
def big : Nat := 42 * 7 ^ 40
def rkO : Option Tm → Nat
  | none => big
  | some t => rk t
/-- (size, signs) of the one less -/
def lessB (t u : Tm) : Prop := t.size < u.size ∨ (t.size = u.size ∧ t.syms < u.syms)
theorem rk_less {t u : Tm} (h : lessB t u) (ht : ∀ x ∈ t.syms, 0 ≤ x ∧ x ≤ 5) (hu : ∀ x ∈ u.syms, 0 ≤ x ∧ x ≤ 5) (h40 : t.size ≤ 40) : rk t < rk u := by
  unfold rk
  rcases h with h | ⟨h1, h2⟩
  · have c := code_lt ht
    rw [syms_len] at c
    have p : 7 ^ t.size ≤ 7 ^ 40 := Nat.pow_le_pow_right (by decide) h40
    have q : (t.size + 1) * 7 ^ 40 ≤ u.size * 7 ^ 40 := Nat.mul_le_mul_right _ h
    rw [Nat.add_mul, Nat.one_mul] at q
    omega
  · rw [h1]
    have := code_mono (by rw [syms_len, syms_len, h1]) ht hu h2
    omega
theorem rk_big {t : Tm} (ht : ∀ x ∈ t.syms, 0 ≤ x ∧ x ≤ 5) (h40 : t.size ≤ 40) : rk t < big := by
  unfold rk big
  have c := code_lt ht
  rw [syms_len] at c
  have p : 7 ^ t.size ≤ 7 ^ 40 := Nat.pow_le_pow_right (by decide) h40
  have q : t.size * 7 ^ 40 ≤ 40 * 7 ^ 40 := Nat.mul_le_mul_right _ h40
  omega
def mu (R : List Row) (B : Bsts) : Nat := (R.map fun r => rkO (B r.c)).sum
theorem sum_lt' {α : Type} (g h : α → Nat) : ∀ (l : List α), (∀ x ∈ l, g x ≤ h x) → (∃ x ∈ l, g x < h x) → (l.map g).sum < (l.map h).sum
  | [], _, ⟨_, hx, _⟩ => by cases hx
  | x :: l, hle, ⟨y, hy, hlt⟩ => by
    rw [List.map_cons, List.map_cons, List.sum_cons, List.sum_cons]
    have h1 := hle x List.mem_cons_self
    have hle' : ∀ z ∈ l, g z ≤ h z := fun z hz => hle z (List.mem_cons_of_mem _ hz)
    have all : ∀ (l : List α), (∀ z ∈ l, g z ≤ h z) → (l.map g).sum ≤ (l.map h).sum := fun l => by
      induction l with
      | nil => intro _; exact Nat.le_refl _
      | cons z l ih =>
        intro q
        rw [List.map_cons, List.map_cons, List.sum_cons, List.sum_cons]
        have := q z List.mem_cons_self
        have := ih fun w hw => q w (List.mem_cons_of_mem _ hw)
        omega
    rcases List.mem_cons.mp hy with e | e
    · subst e
      have := all l hle'
      omega
    · have := sum_lt' g h l hle' ⟨y, e, hlt⟩
      omega
theorem mu_put {R : List Row} {B : Bsts} {r : Row} (hr : r ∈ R) {t : Tm} (h : rk t < rkO (B r.c)) : mu R (putB B r.c t) < mu R B := by
  refine sum_lt' _ _ R (fun x _ => ?_) ⟨r, hr, ?_⟩
  · unfold putB
    by_cases e : x.c = r.c
    · rw [if_pos e, e]
      exact Nat.le_of_lt h
    · rw [if_neg e]
      exact Nat.le_refl _
  · unfold putB
    rw [if_pos rfl]
    exact h
/-- nothing is left to be made better -/
def Done (B : Bsts) (r : Row) : Prop := ∀ ts, kidsB B r.is = some ts → 1 + sizes ts ≤ 40 → ∃ u, B r.c = some u ∧ u.size ≤ 1 + sizes ts
end KB
/-! W0 -/
set_option maxHeartbeats 1000000
namespace R59
open PySem PySem.Spec PyProof.Rows L2
def top (i : Nat) : Stmt := PySem.Challenge.pw_toldterms_k59_whole_cheapest_members.main.body.getD i (.Pass ⟨0, 0, 0, 0⟩)
abbrev FnP (K : PySem.W.Frag) (x q : Str) (st : Stmt) (f : Addr) (fd : FuncData) : Prop := FunD K x q (defArgs st) (defBody st) (defScope st) [] [] f fd
/-- names that stay the built-in ones -/
structure Nm (mg : Str → Option Value) : Prop where
  len : mg "len" = none
  sorted : mg "sorted" = none
  max : mg "max" = none
  min : mg "min" = none
  sum : mg "sum" = none
  all : mg "all" = none
  abs : mg "abs" = none
  repr : mg "repr" = none
  isinstance : mg "isinstance" = none
  list : mg "list" = none
  tuple : mg "tuple" = none
  set : mg "set" = none
  int : mg "int" = none
  bool : mg "bool" = none
  str : mg "str" = none
  range : mg "range" = none
  enumerate : mg "enumerate" = none
  zip : mg "zip" = none
  reversed : mg "reversed" = none
  super : mg "super" = none
  ValueError : mg "ValueError" = none
theorem bt_len : bootBuiltins "len" = some (.builtin "len") := by decide +kernel
theorem bt_sorted : bootBuiltins "sorted" = some (.builtin "sorted") := by decide +kernel
theorem bt_max : bootBuiltins "max" = some (.builtin "max") := by decide +kernel
theorem bt_min : bootBuiltins "min" = some (.builtin "min") := by decide +kernel
theorem bt_sum : bootBuiltins "sum" = some (.builtin "sum") := by decide +kernel
theorem bt_all : bootBuiltins "all" = some (.builtin "all") := by decide +kernel
theorem bt_abs : bootBuiltins "abs" = some (.builtin "abs") := by decide +kernel
theorem bt_repr : bootBuiltins "repr" = some (.builtin "repr") := by decide +kernel
theorem bt_isinstance : bootBuiltins "isinstance" = some (.builtin "isinstance") := by decide +kernel
theorem bt_list : bootBuiltins "list" = some (.type "list") := by decide +kernel
theorem bt_tuple : bootBuiltins "tuple" = some (.type "tuple") := by decide +kernel
theorem bt_set : bootBuiltins "set" = some (.type "set") := by decide +kernel
theorem bt_int : bootBuiltins "int" = some (.type "int") := by decide +kernel
theorem bt_bool : bootBuiltins "bool" = some (.type "bool") := by decide +kernel
theorem bt_str : bootBuiltins "str" = some (.type "str") := by decide +kernel
theorem bt_VE : bootBuiltins "ValueError" = some (.type "ValueError") := by decide +kernel
/-! ### readings cut in two -/
theorem seq_cut {t u : TS} {D : Ends} {σ : L2.St} {H : Hp} (Mid : L2.St → Hp → Prop) (h1 : ∀ Z : L2.St → Hp → Prop, (∀ σ H, Mid σ H → Z σ H) → t { D with nx := Z } σ H) (h2 : ∀ σ H, Mid σ H → u D σ H) : tSeq t u D σ H := h1 (u D) h2
theorem nx_cut {t : TS} {D : Ends} {σ : L2.St} {H : Hp} (Mid : L2.St → Hp → Prop) (h1 : ∀ Z : L2.St → Hp → Prop, (∀ σ H, Mid σ H → Z σ H) → t { D with nx := Z } σ H) (h2 : ∀ σ H, Mid σ H → D.nx σ H) : t D σ H := h1 D.nx h2
theorem e_cut {te : TE} {σ : L2.St} {H : Hp} {Q : VK} (Mid : V → Hp → Prop) (h1 : ∀ Z : VK, (∀ v H, Mid v H → Z v H) → te σ H Z) (h2 : ∀ v H, Mid v H → Q v H) : te σ H Q := h1 Q h2
/-- a while by a word with its measure -/
theorem while_d {c : TT} {tb : TS} {D : Ends} {σ : L2.St} {H : Hp} (Pv : Nat → L2.St → Hp → Prop) (h0 : ∃ m, Pv m σ H)
    (hs : ∀ m σ H, Pv m σ H → c σ H fun b H1 => if b = true then ∃ N : L2.St → Hp → Prop, (∀ σ' H', N σ' H' → ∃ m', m' < m ∧ Pv m' σ' H') ∧ tb { D with nx := N, ct := N, bk := D.nx } σ H1 else D.nx σ H1) : tWhile c tb D σ H := ⟨Pv, h0, hs⟩
theorem dec_b {p : Prop} [Decidable p] {A B : Prop} (h1 : p → A) (h2 : ¬ p → B) : if decide p = true then A else B := by
  by_cases h : p
  · rw [if_pos (decide_eq_true h)]
    exact h1 h
  · rw [if_neg (by rw [decide_eq_false h]; decide)]
    exact h2 h
theorem ndec_b {p : Prop} [Decidable p] {A B : Prop} (h1 : ¬ p → A) (h2 : p → B) : if (!decide p) = true then A else B := by
  by_cases h : p
  · rw [if_neg (by rw [decide_eq_true h]; decide)]
    exact h2 h
  · rw [if_pos (by rw [decide_eq_false h]; rfl)]
    exact h1 h
theorem vint_inj {i j : Int} (h : V.int i = V.int j) : i = j := V.int.inj h
/-! ### the bag -/
structure BagX (H : Hp) (b cl : Addr) (cs : List Int) (t z : Int) : Prop where
  hb : H b = some (.lst [.ref cl, .int t, .int z])
  hc : H cl = some (.lst (cs.map V.int))
  pos : ∀ c ∈ cs, 0 ≤ c
  t0 : 0 ≤ t
  z0 : 0 ≤ z
  z1 : z < 2147483647
  len : cs.length ≤ 63
structure Bag (H : Hp) (b cl : Addr) : Prop where
  ex : ∃ (cs : List Int) (t z : Int), BagX H b cl cs t z
theorem BagX.bag {H : Hp} {b cl : Addr} {cs : List Int} {t z : Int} (h : BagX H b cl cs t z) : Bag H b cl := ⟨cs, t, z, h⟩
theorem BagX.same {H H' : Hp} {b cl : Addr} {cs : List Int} {t z : Int} (h : BagX H b cl cs t z) (s : Same H H') : BagX H' b cl cs t z := ⟨s _ _ h.hb, s _ _ h.hc, h.pos, h.t0, h.z0, h.z1, h.len⟩
theorem BagX.new {H : Hp} {b cl p : Addr} {o : HO} {cs : List Int} {t z : Int} (h : BagX H b cl cs t z) (hp : H p = none) : BagX (L2.upd H p o) b cl cs t z := h.same fun a u e => by
  rw [upd_ne (ne_of_none e hp)]
  exact e
theorem Bag.ne {H : Hp} {b cl : Addr} (h : Bag H b cl) : b ≠ cl := fun e => by
  obtain ⟨cs, t, z, X⟩ := h.ex
  have h1 := X.hb
  have h2 := X.hc
  rw [e, h2] at h1
  have h3 := HO.lst.inj (Option.some.inj h1)
  cases cs with
  | nil => cases h3
  | cons c cs => cases h3
theorem Bag.known {H : Hp} {b cl : Addr} (h : Bag H b cl) : ∀ a ∈ [b, cl], ∃ o, H a = some o := fun a ha => by
  obtain ⟨cs, t, z, X⟩ := h.ex
  have h1 := X.hb
  have h2 := X.hc
  simp only [List.mem_cons, List.not_mem_nil, or_false] at ha
  rcases ha with rfl | rfl
  · exact ⟨_, h1⟩
  · exact ⟨_, h2⟩
theorem Bag.mut {H : Hp} {b cl : Addr} (h : Bag H b cl) : ∀ a ∈ [b, cl], ∃ o, H a = some o ∧ Mut (some o) := fun a ha => by
  obtain ⟨cs, t, z, X⟩ := h.ex
  have h1 := X.hb
  have h2 := X.hc
  simp only [List.mem_cons, List.not_mem_nil, or_false] at ha
  rcases ha with rfl | rfl
  · exact ⟨_, h1, trivial⟩
  · exact ⟨_, h2, trivial⟩
theorem Bag.same {H H' : Hp} {b cl : Addr} (h : Bag H b cl) (s : Same H H') : Bag H' b cl := by
  obtain ⟨cs, t, z, X⟩ := h.ex
  exact ⟨cs, t, z, X.same s⟩
/-- what stands elsewhere may change -/
theorem Bag.upd {H : Hp} {b cl p : Addr} {o : HO} (h : Bag H b cl) (h1 : p ≠ b) (h2 : p ≠ cl) : Bag (L2.upd H p o) b cl := by
  obtain ⟨cs, t, z, X⟩ := h.ex
  exact ⟨cs, t, z, by rw [upd_ne (Ne.symm h1)]; exact X.hb, by rw [upd_ne (Ne.symm h2)]; exact X.hc, X.pos, X.t0, X.z0, X.z1, X.len⟩
theorem Bag.new {H : Hp} {b cl p : Addr} {o : HO} (h : Bag H b cl) (hp : H p = none) : Bag (L2.upd H p o) b cl := h.same fun a u e => by
  rw [upd_ne (ne_of_none e hp)]
  exact e
theorem last_int {cs : List Int} (h : cs ≠ []) : ∃ c, c ∈ cs ∧ (cs.map V.int)[(cs.map V.int).length - 1]? = some (.int c) ∧ (cs.map V.int).dropLast = cs.dropLast.map V.int ∧ cs.dropLast.length < cs.length := by
  refine ⟨cs.getLast h, List.getLast_mem h, ?_, by simp, ?_⟩
  · rw [List.length_map, List.getElem?_map, ← List.getLast?_eq_getElem?, List.getLast?_eq_some_getLast h]
    rfl
  · have := List.length_pos_iff.mpr h
    simp
    omega
theorem depth_ints (cs : List Int) : PyData.depthAll (cs.map .int) = 0 := ints_depth cs
theorem eqv_nil (cs : List Int) : PyData.eqv (.list (cs.map .int)) (.list []) = decide (cs = []) := by
  cases cs with
  | nil => decide
  | cons c cs => rfl
theorem cutV_mem {xs : List V} {lo hi : Option Int} {y : V} (h : y ∈ cutV xs lo hi) : y ∈ xs := List.mem_of_mem_drop (List.mem_of_mem_take h)
theorem cutV_to (xs : List V) (k : Nat) : cutV xs none (some (k : Int)) = xs.take k := by
  unfold cutV
  rw [HT.sIx_nat, HT.sIx_none, List.drop_zero, Nat.sub_zero]
  by_cases h : k ≤ xs.length
  · rw [Nat.min_eq_left h]
  · rw [Nat.min_eq_right (by omega), List.take_of_length_le (Nat.le_refl _), List.take_of_length_le (by omega)]
/-! ### comprehensions, fors: all but M is as it was -/
theorem lcM {J : It} {n : Nat} {G : Hp → Prop} {Y : Nat → Hp → V → Hp → Prop} (w : Walk J n G Y) {g : TG} {tt : TT} {te : TE} {vs : List Nat} {σ : L2.St} {H1 : Hp} {D : Addr} {Qd : Hp → Prop} (M : List Addr) (hD : H1 D = none) (A : Nat → List V → Hp → Prop) (h0 : A 0 [] (upd H1 D (.lst [])))
    (hG : ∀ i acc H, Fr M H1 H → A i acc H → G H)
    (hs : ∀ i x acc H H' (Nx : Hp → Prop), (∀ acc' H'', H'' D = some (.lst acc') → Fr M H1 H'' → A (i + 1) acc' H'' → Nx H'') → i < n → Fr M H1 H → H D = some (.lst acc) → A i acc H → Y i H x H' → g x (wipe σ vs) H' fun σ2 H2 => wipe σ2 vs = wipe σ vs ∧ tt σ2 H2 fun b H3 =>
      if b = true then te σ2 H3 fun y H4 => ∃ acc, H4 D = some (.lst acc) ∧ acc.length < sizeLine ∧ Nx (upd H4 D (.lst (acc ++ [y]))) else Nx H3)
    (hd : ∀ acc H, Fr M H1 H → H D = some (.lst acc) → A n acc H → Qd H) :
    ∃ W : Nat → Nat → Hp → Prop, (∃ m, W 0 m (upd H1 D (.lst []))) ∧ ∀ i m H, W i m H →
      (J.stop i H ∧ Qd H) ∨ (J.go i H ∧ ∃ Nx : Hp → Prop, (∀ H', Nx H' → ∃ m', m' < m ∧ W (i + 1) m' H') ∧ ∀ x H', J.yld i H x H' → g x (wipe σ vs) H' fun σ2 H2 => wipe σ2 vs = wipe σ vs ∧ tt σ2 H2 fun b H3 =>
        if b = true then te σ2 H3 fun y H4 => ∃ acc, H4 D = some (.lst acc) ∧ acc.length < sizeLine ∧ Nx (upd H4 D (.lst (acc ++ [y]))) else Nx H3) :=
  lc_it w (fun i H => Fr M H1 H ∧ ∃ acc, H D = some (.lst acc) ∧ A i acc H) ⟨Fr.new hD, [], upd_same, h0⟩ (fun i H _ ⟨f, acc, _, a⟩ => hG i acc H f a)
    (fun i x H H' hi ⟨f, acc, e, a⟩ y => hs i x acc H H' _ (fun acc' H'' e' f' a' => ⟨f', acc', e', a'⟩) hi f e a y) (fun H ⟨f, acc, e, a⟩ => hd acc H f e a)
end R59
/-! D0 -/
set_option maxHeartbeats 1000000
/-! terms and rows as data -/
namespace R59
open PySem PyProof.Rows L2 KB PySem.W
mutual
def tmD : Tm → PyData
  | .node s ts => .tuple (.int (s : Int) :: tmDs ts)
def tmDs : List Tm → List PyData
  | [] => []
  | t :: ts => tmD t :: tmDs ts
end
theorem tmDs_map : ∀ ts : List Tm, tmDs ts = ts.map tmD
  | [] => rfl
  | t :: ts => by rw [tmDs, tmDs_map ts]; rfl
mutual
theorem tmD_flat : ∀ t : Tm, flatD (tmD t) = true
  | .node s ts => by rw [tmD, flatD, flatDs, tmDs_flat ts]; rfl
theorem tmDs_flat : ∀ ts : List Tm, flatDs (tmDs ts) = true
  | [] => rfl
  | t :: ts => by rw [tmDs, flatDs, tmD_flat t, tmDs_flat ts]; rfl
end
mutual
theorem tmD_depth : ∀ t : Tm, (tmD t).depth = t.depth
  | .node s ts => by
    rw [tmD, PyData.depth, PyData.depthAll, tmDs_depth ts, PyData.depth, Tm.depth]
    omega
theorem tmDs_depth : ∀ ts : List Tm, PyData.depthAll (tmDs ts) = depths ts
  | [] => rfl
  | t :: ts => by rw [tmDs, PyData.depthAll, tmD_depth t, tmDs_depth ts, depths]
end
mutual
theorem tmD_alike : ∀ t u : Tm, alike (tmD t) (tmD u) = true
  | .node s ts, .node s' ts' => by
    rw [tmD, tmD, alike, alikeAll, tmDs_alike ts ts', alike]
    rfl
theorem tmDs_alike : ∀ ts us : List Tm, alikeAll (tmDs ts) (tmDs us) = true
  | [], us => by rw [tmDs]; cases us <;> (try rw [tmDs]) <;> rw [alikeAll]
  | t :: ts, [] => by rw [tmDs, tmDs, alikeAll]
  | t :: ts, u :: us => by rw [tmDs, tmDs, alikeAll, tmD_alike t u, tmDs_alike ts us]; rfl
end
theorem nci {a b : Nat} : ((a : Int) = (b : Int)) ↔ a = b := by omega
mutual
theorem tmD_eqv : ∀ t u : Tm, PyData.eqv (tmD t) (tmD u) = decide (t = u)
  | .node s ts, .node s' ts' => by
    rw [tmD, tmD, PyData.eqv, PyData.eqvAll, tmDs_eqv ts ts', PyData.eqv]
    by_cases h : s = s'
    · by_cases h2 : ts = ts'
      · simp [h, h2]
      · simp [h, h2]
    · simp [h, nci]
theorem tmDs_eqv : ∀ ts us : List Tm, PyData.eqvAll (tmDs ts) (tmDs us) = decide (ts = us)
  | [], [] => by rw [tmDs, PyData.eqvAll]; simp
  | [], u :: us => by rw [tmDs, tmDs, PyData.eqvAll]; simp
  | t :: ts, [] => by rw [tmDs, tmDs, PyData.eqvAll]; simp
  | t :: ts, u :: us => by
    rw [tmDs, tmDs, PyData.eqvAll, tmD_eqv t u, tmDs_eqv ts us]
    by_cases h : t = u
    · by_cases h2 : ts = us
      · simp [h, h2]
      · simp [h, h2]
    · simp [h]
end
def isD (is : List Nat) : PyData := .tuple (is.map fun i : Nat => .int (i : Int))
def rowD (r : Row) : PyData := .tuple [.int (r.s : Int), isD r.is, .int (r.c : Int)]
def tabD (T : List Row) : PyData := .tuple (T.map rowD)
theorem isD_ints (is : List Nat) : isD is = .tuple ((is.map fun i : Nat => (i : Int)).map .int) := by
  unfold isD
  rw [List.map_map]
  rfl
theorem flat_nats (is : List Nat) : flatD (isD is) = true := by
  rw [isD_ints, flatD]
  exact flat_ints _
theorem rowD_flat (r : Row) : flatD (rowD r) = true := by
  unfold rowD
  rw [flatD, flatDs, flatDs, flatDs, flatDs, flat_nats]
  rfl
theorem flatDs_all : ∀ {α : Type} (f : α → PyData) (l : List α), (∀ x, flatD (f x) = true) → flatDs (l.map f) = true
  | _, f, [], _ => rfl
  | _, f, x :: l, h => by rw [List.map_cons, flatDs, h x, flatDs_all f l h]; rfl
theorem tabD_flat (T : List Row) : flatD (tabD T) = true := by
  unfold tabD
  rw [flatD]
  exact flatDs_all rowD T rowD_flat
theorem depthAll_le {n : Nat} : ∀ {ds : List PyData}, (∀ d ∈ ds, d.depth ≤ n) → PyData.depthAll ds ≤ n
  | [], _ => Nat.zero_le _
  | d :: ds, h => by
    rw [PyData.depthAll]
    have h1 := h d List.mem_cons_self
    have h2 := depthAll_le fun e he => h e (List.mem_cons_of_mem _ he)
    omega
theorem depth_isD (is : List Nat) : (isD is).depth = 1 := by
  rw [isD_ints, PyData.depth, ints_depth]
theorem depth_rowD (r : Row) : (rowD r).depth = 2 := by
  unfold rowD
  simp only [PyData.depth, PyData.depthAll, depth_isD]
  decide
theorem depth_tabD (T : List Row) : (tabD T).depth ≤ 3 := by
  unfold tabD
  rw [PyData.depth]
  have := depthAll_le (n := 2) (ds := T.map rowD) fun d hd => by
    obtain ⟨r, _, rfl⟩ := List.mem_map.mp hd
    exact Nat.le_of_eq (depth_rowD r)
  omega
theorem isD_eqv (a b : List Nat) : PyData.eqv (isD a) (isD b) = decide (a = b) := by
  rw [isD_ints, isD_ints, PyData.eqv, ints_eqv]
  by_cases h : a = b
  · simp [h]
  · have : ¬ (a.map (fun i : Nat => (i : Int))) = b.map fun i : Nat => (i : Int) := fun e => h ((List.map_inj_right (fun x y q => by exact_mod_cast q)).mp e)
    simp [h, this]
theorem rowD_eqv (a b : Row) : PyData.eqv (rowD a) (rowD b) = decide (a = b) := by
  unfold rowD
  simp only [PyData.eqv, PyData.eqvAll, isD_eqv]
  obtain ⟨s, is, c⟩ := a
  obtain ⟨s', is', c'⟩ := b
  simp only [Row.mk.injEq]
  by_cases h1 : s = s' <;> by_cases h2 : is = is' <;> by_cases h3 : c = c' <;> simp [h1, h2, h3, nci]
theorem rowD_alike (a b : Row) : alike (rowD a) (rowD b) = true := by
  have : ∀ x y : List Int, alikeAll (x.map .int) (y.map .int) = true := by
    intro x
    induction x with
    | nil => intro y; cases y <;> simp [alikeAll]
    | cons i x ih =>
      intro y
      cases y with
      | nil => simp [alikeAll]
      | cons j y => simp [alikeAll, alike, ih]
  unfold rowD
  simp only [alike, alikeAll, isD_ints, this]
  decide
/-- tuples of ints by order -/
theorem ints_alike : ∀ x y : List Int, alikeAll (x.map .int) (y.map .int) = true
  | [], y => by cases y <;> simp [alikeAll]
  | i :: x, [] => by simp [alikeAll]
  | i :: x, j :: y => by simp [alikeAll, alike, ints_alike x y]
theorem ints_lt : ∀ a b : List Int, dataLt (.tuple (a.map .int)) (.tuple (b.map .int)) = decide (a < b)
  | [], [] => by rw [dataLt_tuple]; decide
  | [], j :: b => by
    rw [dataLt_tuple, List.map_cons, toks_all_cons]
    have e : PyProof.Rows.lexLt itemOrd (keyToksAll ([].map PyData.int)) (Sum.inl 1 :: (keyToks (.int j) ++ keyToksAll (b.map .int))) = true := by
      show PyProof.Rows.lexLt itemOrd [Sum.inl 0] (Sum.inl 1 :: (keyToks (.int j) ++ keyToksAll (b.map .int))) = true
      rw [lex_atom (by decide)]
      decide
    rw [e]
    simp
  | i :: a, [] => by
    rw [dataLt_tuple, List.map_cons, toks_all_cons]
    have e : PyProof.Rows.lexLt itemOrd (Sum.inl 1 :: (keyToks (.int i) ++ keyToksAll (a.map .int))) (keyToksAll ([].map PyData.int)) = false := by
      show PyProof.Rows.lexLt itemOrd (Sum.inl 1 :: (keyToks (.int i) ++ keyToksAll (a.map .int))) [Sum.inl 0] = false
      rw [lex_atom (by decide)]
      decide
    rw [e]
    simp
  | i :: a, j :: b => by
    rw [dataLt_tuple, List.map_cons, List.map_cons]
    by_cases h : i = j
    · subst h
      rw [dataLt_all_yes (by simp [alike]) (by simp [PyData.eqv]), ← dataLt_tuple, ints_lt a b]
      simp [List.cons_lt_cons_iff, Int.lt_irrefl]
    · rw [dataLt_all_no (by simp [alike]) (by simp [PyData.eqv, h]), dataLt_int]
      simp [List.cons_lt_cons_iff, h]
theorem lt_int_cons (i j : Int) (xs ys : List PyData) : dataLt (.tuple (.int i :: xs)) (.tuple (.int j :: ys)) = (decide (i < j) || (decide (i = j) && dataLt (.tuple xs) (.tuple ys))) := by
  by_cases h : i = j
  · subst h
    rw [dataLt_tuple, dataLt_all_yes (by simp [alike]) (by simp [PyData.eqv]), ← dataLt_tuple]
    simp [Int.lt_irrefl]
  · rw [dataLt_tuple, dataLt_all_no (by simp [alike]) (by simp [PyData.eqv, h]), dataLt_int]
    simp [h]
theorem lt_ints_cons (a b : List Int) (xs ys : List PyData) : dataLt (.tuple (.tuple (a.map .int) :: xs)) (.tuple (.tuple (b.map .int) :: ys)) = (decide (a < b) || (decide (a = b) && dataLt (.tuple xs) (.tuple ys))) := by
  have al : alike (.tuple (a.map .int)) (.tuple (b.map .int)) = true := by
    rw [alike]
    exact ints_alike a b
  by_cases h : a = b
  · subst h
    rw [dataLt_tuple, dataLt_all_yes al (by rw [PyData.eqv, ints_eqv]; simp), ← dataLt_tuple]
    have : ¬ a < a := rlt_irrefl a
    simp [this]
  · rw [dataLt_tuple, dataLt_all_no al (by rw [PyData.eqv, ints_eqv]; simp [h]), ints_lt]
    simp [h]
theorem lt_nil : dataLt (.tuple []) (.tuple []) = false := by rw [dataLt_tuple]; decide
/-- (size, signs, term) -/
def bstD (t : Tm) : PyData := .tuple [.int (t.size : Int), .tuple (t.syms.map .int), tmD t]
theorem bstD_flat (t : Tm) : flatD (bstD t) = true := by
  unfold bstD
  simp only [flatD, flatDs, flat_ints, tmD_flat]
  decide
/-- (cost, size, signs, class, term) -/
def lbD (co : Nat → Nat) (e : Nat × Tm) : PyData := .tuple [.int (e.2.cost co : Int), .int (e.2.size : Int), .tuple (e.2.syms.map .int), .int (e.1 : Int), tmD e.2]
theorem lbD_flat (co : Nat → Nat) (e : Nat × Tm) : flatD (lbD co e) = true := by
  unfold lbD
  simp only [flatD, flatDs, flat_ints, tmD_flat]
  decide
theorem lbD_alike (co : Nat → Nat) (a b : Nat × Tm) : alike (lbD co a) (lbD co b) = true := by
  unfold lbD
  simp only [alike, alikeAll, ints_alike, tmD_alike]
  decide
theorem lbD_eqv (co : Nat → Nat) (a b : Nat × Tm) : PyData.eqv (lbD co a) (lbD co b) = decide (a = b) := by
  obtain ⟨c, t⟩ := a
  obtain ⟨c', t'⟩ := b
  unfold lbD
  simp only [PyData.eqv, PyData.eqvAll, ints_eqv, tmD_eqv]
  by_cases h : c = c'
  · by_cases h2 : t = t'
    · simp [h, h2]
    · simp [h, h2]
  · simp [h, nci]
/-- what isn't less stands behind -/
theorem lbD_le {co : Nat → Nat} {a b : Nat × Tm} (h : dataLt (lbD co b) (lbD co a) = false) : Le (fun _ => False) co a.2 b.2 := by
  unfold lbD at h
  rw [lt_int_cons, lt_int_cons, lt_ints_cons] at h
  simp only [Bool.or_eq_false_iff, Bool.and_eq_false_iff, decide_eq_false_iff_not] at h
  unfold Le KLe
  obtain ⟨h1, h2⟩ := h
  rcases Nat.lt_trichotomy (a.2.cost co) (b.2.cost co) with q | q | q
  · exact .inl q
  · refine .inr ⟨q, ?_⟩
    rcases h2 with h2 | h2
    · exact absurd (by exact_mod_cast q.symm) h2
    · obtain ⟨h3, h4⟩ := h2
      rcases Nat.lt_trichotomy a.2.size b.2.size with q2 | q2 | q2
      · exact .inl q2
      · refine .inr ⟨q2, .inr ?_⟩
        rcases h4 with h4 | h4
        · exact absurd (by exact_mod_cast q2.symm) h4
        · rcases lt_tri a.2.syms b.2.syms with q3 | q3 | q3
          · exact .inl q3
          · exact .inr q3
          · exact absurd q3 h4.1
      · exact absurd (by exact_mod_cast q2) h3
  · exact absurd (by exact_mod_cast q) h1
end R59
/-! W1 -/
set_option maxHeartbeats 1000000
namespace R59
open PySem PySem.Spec PyProof.Rows L2
section
variable {P : Program} {w : World} {K : PySem.W.Frag} {mg : Str → Option Value} {base : Heap} {f : Addr} {fd : FuncData}
/-! ### _law_draw -/
abbrev s_law_draw : Stmt := top 20
abbrev N_law_draw : List Str := ["bag", "below", "cell", "found"]
theorem sc_law_draw : FnScope N_law_draw ["bag", "below"] (defScope s_law_draw) := ⟨rfl, rfl, rfl, by decide +kernel, rfl, by decide +kernel, by decide +kernel⟩
def spDraw : Sp := fun vs H Q _ => ∃ (b cl : Addr) (n : Int), vs = [.ref b, .int n] ∧ Bag H b cl ∧ 0 < n ∧ n ≤ 1000 ∧ ∀ r H', 0 ≤ r → r < n → Bag H' b cl → Fr [b, cl] H H' → Q (.int r) H'
theorem ok_draw (F : FnP K "_law_draw" "_law_draw" s_law_draw f fd) (T : Nm mg) : FnOk P w K mg base CX0 1 f fd ["bag", "below"] spDraw := by
  refine F.ok sc_law_draw (fun vs H Q E h => ?_) (fun cdv A outer s H vs Q E hr h => ?_)
  · obtain ⟨b, cl, n, rfl, _⟩ := h
    rfl
  obtain ⟨b, cl, n, rfl, B, n1, n2, k⟩ := h
  have hq := hq_of hr
  refine ⟨_, PSs.nox
  (pss_cons (ps_while PassesOwn.never (PW.pt (pw_and (pt_cmpR (op_eqK K hq) (pe_ix (ix_K K) (pv 0) pe_int (fun _ _ => rfl)) pe_int (nomark _)) (pw_and1 (pt_cmpR (op_neK K hq) (pe_ix (ix_K K) (pv 0) pe_int (fun _ _ => rfl)) (pe_lst pa_nil) (nomark _))))) (pss_cons (ps_set (i := 2) sc_law_draw.nd rfl (Or.inl rfl) (pe_bm0 PySem.F.plainAttrs_list PySem.F.slot_list_pop PySem.F.type_list_pop mt_pop (pe_ix (ix_K K) (pv 0) pe_int (fun _ _ => rfl))))
      (pss_one (ps_asg (pe_ifExp (pt_cmpR op_gt (pv 2) (pe_op op_pow pe_int pe_int) (nomark _)) (pv 2) pe_int) (pg_sub (pv 0) pe_int set_list)))))
      (pss_cons (ps_if (pt_cmpR op_gt (pe_ix (ix_K K) (pv 0) pe_int (fun _ _ => rfl)) pe_int (nomark _)) (pss_cons (ps_set (i := 3) sc_law_draw.nd rfl (Or.inl rfl) (pe_op op_mod (pe_callTy call_int1 (by rfl) T.int bt_int (pa_cons (pe_ix (ix_K K) (pv 0) pe_int (fun _ _ => rfl)) pa_nil)) (pv 1)))
      (pss_cons (ps_asg (pe_op op_fdiv (pe_ix (ix_K K) (pv 0) pe_int (fun _ _ => rfl)) (pv 1)) (pg_sub (pv 0) pe_int set_list))
      (pss_one (ps_ret (pv 3))))) pss_nil)
      (pss_cons (ps_asg (pe_op op_mod (pe_op (op_addK K) (pe_op (op_mulK K) (pe_callTy call_int1 (by rfl) T.int bt_int (pa_cons (pe_ix (ix_K K) (pv 0) pe_int (fun _ _ => rfl)) pa_nil)) pe_int) pe_int) pe_int) (pg_sub (pv 0) pe_int set_list))
      (pss_one (ps_ret (pe_op op_mod (pe_op op_fdiv (pe_op op_mod (pe_callTy call_int1 (by rfl) T.int bt_int (pa_cons (pe_op (op_mulK K) (pe_ix (ix_K K) (pv 0) pe_int (fun _ _ => rfl)) (pe_ix (ix_K K) (pv 0) pe_int (fun _ _ => rfl))) pa_nil)) pe_int) pe_int) (pv 1))))))), ?_⟩
  refine seq_cut (fun σ H' => ∃ v, σ = [some (.ref b), some (.int n), v, none] ∧ Fr [b, cl] H H' ∧ Bag H' b cl) (fun Z hZ => ?_) ?_
  · refine while_d (fun m σ H' => ∃ v cs t z, σ = [some (.ref b), some (.int n), v, none] ∧ Fr [b, cl] H H' ∧ BagX H' b cl cs t z ∧ cs.length = m) ?_ ?_
    · obtain ⟨cs, t, z, X⟩ := B.ex
      exact ⟨_, _, cs, t, z, rfl, Fr.refl _ _, X, rfl⟩
    rintro m σ H1 ⟨v, cs, t, z, rfl, fr, X, hm⟩
    refine ⟨_, rfl, ⟨b, _, _, _, rfl, rfl, .inl (SqL.of X.hb), rfl, Or.inl ⟨rfl, _, rfl, ?_⟩⟩⟩
    refine dec_b (fun ht => ?_) (fun ht => hZ _ _ ⟨v, rfl, fr, X.bag⟩)
    refine ⟨_, rfl, ⟨b, _, _, _, rfl, rfl, .inl (SqL.of X.hb), rfl, Nat.zero_le _, fun p hp => Or.inr ⟨.list (cs.map .int), .list [], .lst (SqL.of (Fr.new (M := []) hp _ _ X.hc (by simp))) (DpAll.ints cs), .lst (SqL.of upd_same) .nil, ?_, _, rfl, ?_⟩⟩⟩
    · simp [PyData.depth, PyData.depthAll]
    rw [eqv_nil]
    have fr2 : Fr [b, cl] H (upd H1 p (.lst [])) := fr.trans (Fr.new hp)
    have X2 := X.new (o := .lst []) hp
    refine ndec_b (fun hne => ?_) (fun _ => hZ _ _ ⟨v, rfl, fr2, X2.bag⟩)
    obtain ⟨c, hc, e1, e2, e3⟩ := last_int hne
    have ne := X2.bag.ne
    refine ⟨_, fun σ' H' h => h, ?_⟩
    -- cell = bag[0].pop()
    refine ⟨_, rfl, ⟨b, _, _, _, rfl, rfl, .inl (SqL.of X2.hb), rfl, Or.inl ⟨rfl, _, SqL.of X2.hc⟩, cl, _, _, rfl, rfl, X2.hc, e1, ?_⟩⟩
    rw [e2]
    have hb3 : ∀ o, upd (upd H1 p (.lst [])) cl o b = some (.lst [.ref cl, .int t, .int z]) := fun o => by rw [upd_ne ne]; exact X2.hb
    have hb3 : upd (upd H1 p (.lst [])) cl (.lst (cs.dropLast.map V.int)) b = some (.lst [.ref cl, .int t, .int z]) := by rw [upd_ne ne]; exact X2.hb
    have fin : ∀ y : Int, 0 ≤ y → Fr [b, cl] H (upd (upd (upd H1 p (.lst [])) cl (.lst (cs.dropLast.map V.int))) b (.lst [.ref cl, .int y, .int z])) ∧ BagX (upd (upd (upd H1 p (.lst [])) cl (.lst (cs.dropLast.map V.int))) b (.lst [.ref cl, .int y, .int z])) b cl cs.dropLast y z := fun y hy =>
      ⟨(fr2.put (.inr (by simp))).put (.inr (by simp)), upd_same, by rw [upd_ne ne.symm, upd_same], fun c hc => X.pos c (List.dropLast_subset _ hc), hy, X.z0, X.z1, Nat.le_trans (Nat.le_of_lt e3) X.len⟩
    -- bag[1] = cell if cell > 10 ** 9 else 0
    refine ⟨_, rfl, _, _, rfl, rfl, ⟨by decide, by decide, by decide⟩, _, _, rfl, rfl, _, rfl, ?_⟩
    refine dec_b (fun _ => ?_) (fun _ => ?_)
    · refine ⟨_, rfl, _, rfl, b, _, _, 1, rfl, rfl, hb3, rfl, ?_⟩
      exact ⟨_, by rw [← hm]; exact e3, _, _, _, _, rfl, (fin c (X.pos c hc)).1, (fin c (X.pos c hc)).2, rfl⟩
    · refine ⟨_, rfl, b, _, _, 1, rfl, rfl, hb3, rfl, ?_⟩
      exact ⟨_, by rw [← hm]; exact e3, _, _, _, _, rfl, (fin 0 (by decide)).1, (fin 0 (by decide)).2, rfl⟩
  · rintro _ H1 ⟨v, rfl, fr, B1⟩
    obtain ⟨cs, t, z, X⟩ := B1.ex
    have ne := B1.ne
    refine ⟨_, rfl, ⟨b, _, _, _, rfl, rfl, .inl (SqL.of X.hb), rfl, _, _, rfl, rfl, _, rfl, ?_⟩⟩
    refine dec_b (fun ht => ?_) (fun ht => ?_)
    · -- found = int(bag[1]) % below; bag[1] = bag[1] // below; return found
      refine ⟨_, rfl, ⟨b, _, _, _, rfl, rfl, .inl (SqL.of X.hb), rfl, Or.inl ⟨_, rfl, _, rfl, _, _, rfl, rfl, n1, ?_⟩⟩⟩
      refine ⟨_, rfl, ⟨b, _, _, _, rfl, rfl, .inl (SqL.of X.hb), rfl, _, rfl, _, _, rfl, rfl, ⟨n1, by omega⟩, ?_⟩⟩
      refine ⟨_, rfl, b, _, _, 1, rfl, rfl, X.hb, rfl, _, rfl, ?_⟩
      refine k _ _ (Int.emod_nonneg _ (by omega)) (Int.emod_lt_of_pos _ n1) ?_ (fr.put (.inr (by simp)))
      exact ⟨cs, t / n, z, upd_same, by rw [upd_ne ne.symm]; exact X.hc, X.pos, Int.ediv_nonneg X.t0 (by omega), X.z0, X.z1, X.len⟩
    · refine ⟨_, rfl, ⟨b, _, _, _, rfl, rfl, .inl (SqL.of X.hb), rfl, Or.inl ⟨_, rfl, Or.inl ⟨_, _, rfl, rfl, .inr ⟨by decide, by decide⟩, Or.inl ⟨_, _, rfl, rfl, _, _, rfl, rfl, (by show (0 : Int) < 2147483647; decide), ?_⟩⟩⟩⟩⟩
      refine ⟨_, rfl, b, _, _, 2, rfl, rfl, X.hb, rfl, ?_⟩
      have hz0 : 0 ≤ (z * 48271 + 11) % 2147483647 := Int.emod_nonneg _ (by decide)
      have hz1 : (z * 48271 + 11) % 2147483647 < 2147483647 := Int.emod_lt_of_pos _ (by decide)
      have fr2 : Fr [b, cl] H (upd H1 b (.lst [.ref cl, .int t, .int ((z * 48271 + 11) % 2147483647)])) := fr.put (.inr (by simp))
      have X2 : BagX (upd H1 b (.lst [.ref cl, .int t, .int ((z * 48271 + 11) % 2147483647)])) b cl cs t ((z * 48271 + 11) % 2147483647) :=
        ⟨upd_same, by rw [upd_ne ne.symm]; exact X.hc, X.pos, X.t0, hz0, hz1, X.len⟩
      refine ⟨_, rfl, ⟨b, _, _, _, rfl, rfl, .inl (SqL.of X2.hb), rfl, _, rfl, ⟨b, _, _, _, rfl, rfl, .inl (SqL.of X2.hb), rfl, Or.inl ⟨_, _, rfl, rfl, .inr ⟨by omega, by omega⟩, Or.inl ⟨_, rfl, _, _, rfl, rfl, (by show (0 : Int) < 2147483629; decide), _, _, rfl, rfl, ⟨by decide, by decide⟩, _, rfl, _, _, rfl, rfl, n1, ?_⟩⟩⟩⟩⟩
      exact k _ _ (Int.emod_nonneg _ (by omega)) (Int.emod_lt_of_pos _ n1) X2.bag fr2
end
end R59
/-! W2 -/
set_option maxHeartbeats 1000000
namespace R59
open PySem PySem.Spec PyProof.Rows L2
section
variable {P : Program} {w : World} {K : PySem.W.Frag} {mg : Str → Option Value} {base : Heap} {f : Addr} {fd : FuncData}
/-! ### _law_pick -/
abbrev s_law_pick : Stmt := top 21
abbrev N_law_pick : List Str := ["bag", "some"]
theorem sc_law_pick : FnScope N_law_pick ["bag", "some"] (defScope s_law_pick) := ⟨rfl, rfl, rfl, by decide +kernel, rfl, by decide +kernel, by decide +kernel⟩
def spPick : Sp := fun vs H Q _ => ∃ (b cl l : Addr) (xs : List V), vs = [.ref b, .ref l] ∧ Bag H b cl ∧ H l = some (.lst xs) ∧ l ∉ [b, cl] ∧ 0 < xs.length ∧ xs.length ≤ 1000 ∧ ∀ y H', y ∈ xs → Bag H' b cl → Fr [b, cl] H H' → Q y H'
theorem atI_mem {xs : List V} {r : Int} (h0 : 0 ≤ r) (h1 : r < xs.length) : ∃ y, atI xs r = some y ∧ y ∈ xs := by
  obtain ⟨i, rfl⟩ := Int.eq_ofNat_of_zero_le h0
  have hi : i < xs.length := by omega
  exact ⟨xs[i], atI_nat (List.getElem?_eq_getElem hi), List.getElem_mem hi⟩
theorem ok_pick (F : FnP K "_law_pick" "_law_pick" s_law_pick f fd) (T : Nm mg) (h_law_draw : Has P w K mg base CX0 "_law_draw" ["bag", "below"] 1 spDraw) : FnOk P w K mg base CX0 2 f fd ["bag", "some"] spPick := by
  refine F.ok sc_law_pick (fun vs H Q E h => ?_) (fun cdv A outer s H vs Q E hr h => ?_)
  · obtain ⟨b, cl, l, xs, rfl, _⟩ := h
    rfl
  obtain ⟨b, cl, l, xs, rfl, B, hl, nl, n1, n2, k⟩ := h
  refine ⟨_, PSs.nox
  (pss_one (ps_ret (pe_ix (ix_K K) (pv 1) (pe_f h_law_draw (hr.mono (by decide)) (by rfl) (pa_cons (pv 0) (pa_cons (pe_callB (cr_lenK K) (by rfl) T.len bt_len (pa_cons (pv 1) pa_nil)) pa_nil))) (fun _ _ => rfl)))), ?_⟩
  refine ⟨_, rfl, _, rfl, _, rfl, l, xs, rfl, .inl (SqL.of hl), b, cl, xs.length, rfl, B, by omega, by omega, fun r H' r0 r1 B' fr => ?_⟩
  obtain ⟨y, e, hy⟩ := atI_mem r0 r1
  exact ⟨l, xs, r, y, rfl, rfl, .inl (SqL.of (fr l _ hl nl)), e, k y H' hy B' fr⟩
/-! ### _law_own_bag -/
abbrev s_law_own_bag : Stmt := top 19
abbrev N_law_own_bag : List Str := ["script", "cells", "mixed", "cell"]
theorem sc_law_own_bag : FnScope N_law_own_bag ["script"] (defScope s_law_own_bag) := ⟨rfl, rfl, rfl, by decide +kernel, rfl, by decide +kernel, by decide +kernel⟩
def spOwnBag (K : PySem.W.Frag) : Sp := fun vs H Q _ => ∃ (a : Addr) (ns : List Int), vs = [.ref a] ∧ SqL K H a (ns.map V.int) ∧ ∀ b cl H', Bag H' b cl → Same H H' → Q (.ref b) H'
theorem ok_own_bag (F : FnP K "_law_own_bag" "_law_own_bag" s_law_own_bag f fd) (T : Nm mg) : FnOk P w K mg base CX0 1 f fd ["script"] (spOwnBag K) := by
  refine F.ok sc_law_own_bag (fun vs H Q E h => ?_) (fun cdv A outer s H vs Q E hr h => ?_)
  · obtain ⟨a, ns, rfl, _⟩ := h
    rfl
  obtain ⟨a, ns, rfl, hS, k⟩ := h
  refine ⟨_, PSs.nox
  (pss_cons (ps_setLc (i := 1) (own := [("cell", 3)]) rfl sc_law_own_bag.nd rfl rfl (sw_true rfl rfl rfl (by decide +kernel)) (pi_listK K (pe_slice (sl_listK K) (pv 0) po_none (po_some pe_int))) (blkOk_by (N := N_law_own_bag) (sc := defScope s_law_own_bag) (by decide +kernel)) (fun _ _ _ _ _ => (pg_name (i := 3) sc_law_own_bag.nd rfl (Or.inl rfl))) (fun _ _ _ _ _ => pts_nil) (fun _ _ _ _ _ => (pe_callB call_abs (by rfl) T.abs bt_abs (pa_cons (pe_callTy call_int1 (by rfl) T.int bt_int (pa_cons (pv 3) pa_nil)) pa_nil))))
      (pss_cons (ps_set (i := 2) sc_law_own_bag.nd rfl (Or.inl rfl) (pe_op (op_addK K) pe_int (pe_callB (cr_lenK K) (by rfl) T.len bt_len (pa_cons (pv 1) pa_nil))))
      (pss_cons (ps_for PassesOwn.never rfl (pi_listK K (pv 1)) (pg_name (i := 3) sc_law_own_bag.nd rfl (Or.inl rfl)) (pss_one (ps_set (i := 2) sc_law_own_bag.nd rfl (Or.inl rfl) (pe_op op_mod (pe_op (op_addK K) (pe_op (op_addK K) (pe_op (op_mulK K) (pv 2) pe_int) (pe_op op_mod (pe_callTy call_int1 (by rfl) T.int bt_int (pa_cons (pv 3) pa_nil)) pe_int)) pe_int) pe_int))))
      (pss_one (ps_ret (pe_lst (pa_cons (pe_lstRev rfl (by rfl) T.list (by rfl) T.reversed (pv 1)) (pa_cons pe_int (pa_cons (pv 2) pa_nil))))))))), ?_⟩
  refine seq_cut (fun σ H' => ∃ (c : Addr) (cs : List Int), σ = [some (.ref a), some (.ref c), none, none] ∧ Same H H' ∧ H' c = some (.lst (cs.map V.int)) ∧ (∀ x ∈ cs, 0 ≤ x) ∧ cs.length ≤ 63) (fun Z hZ => ?_) ?_
  · refine ⟨_, rfl, _, rfl, a, _, rfl, hS, fun p hp => ?_⟩
    rw [show (cutV (ns.map V.int) none (some 63)) = (ns.map V.int).take 63 from cutV_to _ 63]
    have hl63 : ((ns.map V.int).take 63).length ≤ 63 := by
      rw [List.length_take]
      omega
    refine ⟨p, rfl, ⟨_, SqL.of upd_same⟩, fun D hD => ?_⟩
    refine lcM walk_list [] hD (fun i acc H' => ∃ cs : List Int, acc = cs.map V.int ∧ (∀ x ∈ cs, 0 ≤ x) ∧ cs.length = i) ⟨[], rfl, (fun x hx => by cases hx), rfl⟩ (fun i acc H' fr _ => SqL.of (fr _ _ upd_same (by simp))) ?_ ?_
    · rintro i x acc H2 H3 Nx hN hi fr e ⟨cs, rfl, c1, c2⟩ ⟨rfl, hx⟩
      have hm2 := List.mem_of_mem_take (List.mem_of_getElem? hx)
      obtain ⟨y, _, rfl⟩ := List.mem_map.mp hm2
      refine ⟨rfl, ?_⟩
      refine ⟨_, rfl, Or.inl ⟨_, rfl, _, rfl, _, e, ?_, hN _ _ upd_same (fr.put (.inl hD)) ⟨cs ++ [if y < 0 then -y else y], by simp, fun x hx => ?_, by simp [c2]⟩⟩⟩
      · rw [List.length_map, c2]
        exact Nat.lt_of_lt_of_le hi (Nat.le_trans hl63 (by decide))
      · rcases List.mem_append.mp hx with h | h
        · exact c1 x h
        · rw [List.mem_singleton.mp h]
          split <;> omega
    · rintro acc H2 fr e ⟨cs, rfl, c1, c2⟩
      exact hZ _ _ ⟨D, cs, rfl, (Fr.new (M := []) hp).same.trans fr.same, e, c1, by omega⟩
  · rintro _ H1 ⟨c, cs, rfl, s1, hc, c1, c2⟩
    refine ⟨_, rfl, c, cs.map V.int, rfl, .inl (SqL.of hc), Or.inl ⟨_, _, rfl, rfl, ?_⟩⟩
    dsimp only [gName]
    refine seq_cut (fun σ H' => ∃ (z : Int) (v : Option V), σ = [some (.ref a), some (.ref c), some (.int z), v] ∧ H' = H1 ∧ 0 ≤ z ∧ z < 2147483647) (fun Z hZ => ?_) ?_
    · refine ⟨_, rfl, c, rfl, ⟨_, SqL.of hc⟩, for_it (walk_list (xs := cs.map V.int)) (fun i σ H' => ∃ (z : Int) (v : Option V), σ = [some (.ref a), some (.ref c), some (.int z), v] ∧ H' = H1 ∧ 0 ≤ z ∧ z < 2147483647) ⟨_, _, rfl, rfl, by omega, by simp; omega⟩ ?_ ?_ ?_⟩
      · rintro i σ H' _ ⟨z, v, rfl, rfl, _⟩
        exact SqL.of hc
      · rintro i x σ H' H'' hi ⟨z, v, rfl, rfl, z0, z1⟩ ⟨rfl, hx⟩
        obtain ⟨y, _, rfl⟩ := List.mem_map.mp (List.mem_of_getElem? hx)
        refine ⟨_, rfl, Or.inl ⟨_, _, rfl, rfl, .inr ⟨by decide, by decide⟩, _, rfl, Or.inl ⟨_, rfl, _, _, rfl, rfl, (by show (0 : Int) < 2147483629; decide), Or.inl ⟨_, _, rfl, rfl, Or.inl ⟨_, _, rfl, rfl, _, _, rfl, rfl, (by show (0 : Int) < 2147483647; decide), ?_⟩⟩⟩⟩⟩
        exact ⟨_, _, rfl, rfl, Int.emod_nonneg _ (by decide), Int.emod_lt_of_pos _ (by decide)⟩
      · rintro σ H' ⟨z, v, rfl, rfl, z0, z1⟩
        exact hZ _ _ ⟨z, v, rfl, rfl, z0, z1⟩
    · rintro _ H' ⟨z, v, rfl, rfl, z0, z1⟩
      refine ⟨_, rfl, c, cs.map V.int, rfl, SqL.of hc, fun q hq => ⟨_, rfl, by show 3 ≤ sizeLine; decide, fun l hl => ?_⟩⟩
      have nql : q ≠ l := fun e => by
        rw [e, upd_same] at hl
        cases hl
      refine k l q _ ⟨cs.reverse, 0, z, upd_same, by rw [upd_ne nql, upd_same, List.map_reverse], fun x hx => c1 x (List.mem_reverse.mp hx), by decide, z0, z1, by simpa using c2⟩ ?_
      exact s1.trans ((Fr.new (M := []) hq).trans (Fr.new hl)).same
end
end R59
/-! W3 -/
set_option maxHeartbeats 1000000
namespace R59
open PySem PySem.Spec PyProof.Rows L2
theorem ixN_int {n : Nat} {r : Int} (h0 : 0 ≤ r) (h1 : r < n) : ixN n r = some r.toNat := by
  unfold ixN
  rw [if_pos h0, if_pos h1]
theorem seqIndex_int {n : Nat} {r : Int} (h0 : 0 ≤ r) (h1 : r < n) : seqIndex? r n = some r.toNat := (ixN_seq (ixN_int h0 h1)).1
theorem map_eraseI (ns : List Int) (k : Nat) : (ns.map V.int).eraseIdx k = (ns.eraseIdx k).map V.int := (erase_mapI ns k)
theorem map_setI (ns : List Int) (k : Nat) (y : Int) : (ns.map V.int).set k (.int y) = (ns.set k y).map V.int := by
  rw [List.map_set]
theorem erase_perm {α : Type} : ∀ {l : List α} {k : Nat} (h : k < l.length), (l[k] :: l.eraseIdx k).Perm l
  | a :: l, 0, _ => .refl _
  | a :: l, k + 1, h => by
    have ih := erase_perm (l := l) (k := k) (by simpa using h)
    exact (List.Perm.swap a (l[k]'(by simpa using h)) (l.eraseIdx k)).trans (ih.cons a)
section
variable {P : Program} {w : World} {K : PySem.W.Frag} {mg : Str → Option Value} {base : Heap} {f : Addr} {fd : FuncData}
/-! ### _law_shuffled -/
abbrev s_law_shuffled : Stmt := top 26
abbrev N_law_shuffled : List Str := ["bag", "some", "rest", "found"]
theorem sc_law_shuffled : FnScope N_law_shuffled ["bag", "some"] (defScope s_law_shuffled) := ⟨rfl, rfl, rfl, by decide +kernel, rfl, by decide +kernel, by decide +kernel⟩
def spShuf : Sp := fun vs H Q _ => ∃ (b cl l : Addr) (ns : List Int), vs = [.ref b, .ref l] ∧ Bag H b cl ∧ H l = some (.lst (ns.map V.int)) ∧ l ∉ [b, cl] ∧ ns.length ≤ 1000 ∧
  ∀ (p : Addr) (ms : List Int) (H' : Hp), Bag H' b cl → Fr [b, cl] H H' → H p = none → H' p = some (.lst (ms.map V.int)) → ms.Perm ns → Q (.ref p) H'
theorem ok_shuffled (F : FnP K "_law_shuffled" "_law_shuffled" s_law_shuffled f fd) (T : Nm mg) (h_law_draw : Has P w K mg base CX0 "_law_draw" ["bag", "below"] 1 spDraw) : FnOk P w K mg base CX0 2 f fd ["bag", "some"] spShuf := by
  refine F.ok sc_law_shuffled (fun vs H Q E h => ?_) (fun cdv A outer s H vs Q E hr h => ?_)
  · obtain ⟨b, cl, l, ns, rfl, _⟩ := h
    rfl
  obtain ⟨b, cl, l, ns, rfl, B, hl, nl, n2, k⟩ := h
  have hq := hq_of hr
  refine ⟨_, PSs.nox
  (pss_cons (ps_par (i := 2) (j := 3) rfl sc_law_shuffled.nd rfl rfl (by decide) rfl rfl (pa_cons (pe_callTy (cr_listK K) (by rfl) T.list bt_list (pa_cons (pv 1) pa_nil)) (pa_cons (pe_lst pa_nil) pa_nil)) rfl)
      (pss_cons (ps_while PassesOwn.never (pt_cmpR (op_neK K hq) (pv 2) (pe_lst pa_nil) (nomark _)) (pss_one (ps_expr (pe_appK K (pv 3) (pe_bm PySem.F.plainAttrs_list PySem.F.slot_list_pop PySem.F.type_list_pop mt_popAt (pv 2) (pa_cons (pe_f h_law_draw (hr.mono (by decide)) (by rfl) (pa_cons (pv 0) (pa_cons (pe_callB (cr_lenK K) (by rfl) T.len bt_len (pa_cons (pv 2) pa_nil)) pa_nil))) pa_nil))))))
      (pss_one (ps_ret (pv 3))))), ?_⟩
  have bk := B.known
  refine seq_cut (fun σ H' => ∃ r q, σ = [some (.ref b), some (.ref l), some (.ref r), some (.ref q)] ∧ Fr [b, cl] H H' ∧ Bag H' b cl ∧ H r = none ∧ H q = none ∧ r ≠ q ∧ H' r = some (.lst (ns.map V.int)) ∧ H' q = some (.lst [])) (fun Z hZ => ?_) ?_
  · refine ⟨_, rfl, l, _, rfl, .inl (SqL.of hl), fun r hr' => ⟨Nat.zero_le _, fun q hq' => ?_⟩⟩
    have q0 : H q = none := (Fr.new (M := []) hr').free hq' (by simp)
    have rq : r ≠ q := fun e => by
      rw [e, upd_same] at hq'
      cases hq'
    have fr : Fr [b, cl] H (upd (upd H r (.lst (ns.map V.int))) q (.lst [])) := (Fr.new hr').trans (Fr.new hq')
    exact ⟨_, _, rfl, hZ _ _ ⟨r, q, rfl, fr, (B.new hr').new hq', hr', q0, rq, by rw [upd_ne rq, upd_same], upd_same⟩⟩
  · rintro _ H1 ⟨r, q, rfl, fr, B1, r0, q0, rq, hr1, hq1⟩
    have nr : r ∉ [b, cl] := fun m => by
      obtain ⟨o, e⟩ := bk r m
      rw [r0] at e
      cases e
    have nq : q ∉ [b, cl] := fun m => by
      obtain ⟨o, e⟩ := bk q m
      rw [q0] at e
      cases e
    refine seq_cut (fun σ H' => ∃ ms : List Int, σ = [some (.ref b), some (.ref l), some (.ref r), some (.ref q)] ∧ Fr [b, cl] H H' ∧ Bag H' b cl ∧ H' q = some (.lst (ms.map V.int)) ∧ ms.Perm ns) (fun Z hZ => ?_) ?_
    · refine while_d (fun m σ H' => ∃ rs ms : List Int, σ = [some (.ref b), some (.ref l), some (.ref r), some (.ref q)] ∧ Fr [b, cl] H H' ∧ Bag H' b cl ∧ H' r = some (.lst (rs.map V.int)) ∧ H' q = some (.lst (ms.map V.int)) ∧ (ms ++ rs).Perm ns ∧ rs.length = m) ⟨_, ns, [], rfl, fr, B1, hr1, hq1, List.Perm.refl _, rfl⟩ ?_
      rintro m _ H2 ⟨rs, ms, rfl, fr2, B2, hr2, hq2, pm, hm⟩
      refine ⟨_, rfl, Nat.zero_le _, fun p hp => Or.inr ⟨.list (rs.map .int), .list [], .lst (SqL.of (Fr.new (M := []) hp _ _ hr2 (by simp))) (DpAll.ints rs), .lst (SqL.of upd_same) .nil, ?_, _, rfl, ?_⟩⟩
      · simp [PyData.depth, PyData.depthAll]
      rw [eqv_nil]
      have S := (Fr.new (M := []) (o := HO.lst []) hp).same
      have fr3 : Fr [b, cl] H (upd H2 p (.lst [])) := fr2.trans (Fr.new hp)
      refine ndec_b (fun hne => ?_) (fun he => ?_)
      · refine ⟨_, fun σ' H' h => h, ?_⟩
        refine ⟨_, rfl, Or.inl ⟨rfl, _, SqL.of (S _ _ hq2)⟩, ?_⟩
        refine ⟨_, rfl, Or.inl ⟨rfl, _, SqL.of (S _ _ hr2)⟩, ?_⟩
        have hpos : 0 < rs.length := List.length_pos_iff.mpr hne
        have hle : rs.length ≤ 1000 := by
          have := pm.length_eq
          rw [List.length_append] at this
          omega
        refine ⟨_, rfl, _, rfl, r, _, rfl, .inl (SqL.of (S _ _ hr2)), b, cl, _, rfl, B2.same S, by simp; omega, by simp; omega, fun i H3 i0 i1 B3 fr4 => ?_⟩
        rw [List.length_map] at i1
        have hr3 := fr4 _ _ (S _ _ hr2) nr
        have hq3 := fr4 _ _ (S _ _ hq2) nq
        have hi : i.toNat < rs.length := by omega
        refine ⟨r, _, i, i.toNat, .int rs[i.toNat], rfl, rfl, hr3, by omega, by omega, seqIndex_int i0 (by simpa using i1), by simp [hi], ?_⟩
        refine ⟨q, _, _, rfl, rfl, by rw [upd_ne rq.symm]; exact hq3, ?_, ?_⟩
        · have := pm.length_eq
          rw [List.length_append] at this
          rw [List.length_map]
          exact Nat.lt_of_le_of_lt (by omega : ms.length ≤ 1000) (by decide)
        · rw [map_eraseI]
          refine ⟨_, ?_, rs.eraseIdx i.toNat, ms ++ [rs[i.toNat]], rfl, (fr3.trans fr4 |>.put (.inl r0)).put (.inl q0), (B3.upd (by simpa using fun e => nr (by simp [e])) (fun e => nr (by simp [e]))).upd (fun e => nq (by simp [e])) (fun e => nq (by simp [e])), ?_, ?_, ?_, rfl⟩
          · rw [← hm, List.length_eraseIdx_of_lt hi]
            omega
          · rw [upd_ne rq, upd_same]
          · rw [upd_same]
            simp
          · refine List.Perm.trans ?_ pm
            rw [List.append_assoc]
            exact List.Perm.append_left _ (erase_perm hi)
      · refine hZ _ _ ⟨ms, rfl, fr3, B2.same S, S _ _ hq2, ?_⟩
        rw [he, List.append_nil] at pm
        exact pm
    · rintro _ H2 ⟨ms, rfl, fr2, B2, hq2, pm⟩
      exact ⟨_, rfl, k q ms H2 B2 fr2 q0 hq2 pm⟩
end
end R59
/-! W4 -/
set_option maxHeartbeats 1000000
namespace R59
open PySem PySem.Spec PyProof.Rows L2
theorem Bag.out {H : Hp} {b cl p : Addr} (B : Bag H b cl) (h : H p = none) : p ∉ [b, cl] := fun m => by
  obtain ⟨o, e⟩ := B.known p m
  rw [h] at e
  cases e
theorem Bag.upd' {H H0 : Hp} {b cl p : Addr} {o : HO} (h : Bag H b cl) (B : Bag H0 b cl) (hp : H0 p = none) : Bag (L2.upd H p o) b cl :=
  h.upd (fun e => B.out hp (by simp [e])) (fun e => B.out hp (by simp [e]))
theorem get_mapI {ns : List Int} {i : Nat} {v : V} (h : (ns.map V.int)[i]? = some v) : ∃ y, ns[i]? = some y ∧ v = .int y := by
  rw [List.getElem?_map] at h
  cases e : ns[i]? with
  | none =>
    rw [e] at h
    cases h
  | some y =>
    rw [e] at h
    exact ⟨y, rfl, (Option.some.inj h).symm⟩
theorem mem_mapI {ns : List Int} {v : V} (h : v ∈ ns.map V.int) : ∃ y, y ∈ ns ∧ v = .int y := by
  obtain ⟨y, h1, h2⟩ := List.mem_map.mp h
  exact ⟨y, h1, h2.symm⟩
theorem small_line {n : Nat} (h : n ≤ 100000) : n < sizeLine := Nat.lt_of_le_of_lt h (by decide)
section
variable {P : Program} {w : World} {K : PySem.W.Frag} {mg : Str → Option Value} {base : Heap} {f : Addr} {fd : FuncData}
/-! ### _law_signature -/
abbrev s_law_signature : Stmt := top 24
abbrev N_law_signature : List Str := ["bag", "sizes", "many", "found", "at", "k"]
theorem sc_law_signature : FnScope N_law_signature ["bag", "sizes"] (defScope s_law_signature) := ⟨rfl, rfl, rfl, by decide +kernel, rfl, by decide +kernel, by decide +kernel⟩
/-- a drawn signature: two to six arities of 0 to 3, one of them 0 -/
structure Sig (sg : List Int) : Prop where
  lo : 2 ≤ sg.length
  hi : sg.length ≤ 6
  ar : ∀ x ∈ sg, 0 ≤ x ∧ x ≤ 3
  pl : (0 : Int) ∈ sg
def spSig (K : PySem.W.Frag) : Sp := fun vs H Q _ => ∃ (b cl l : Addr) (ns : List Int), vs = [.ref b, .ref l] ∧ Bag H b cl ∧ H l = some (.lst (ns.map V.int)) ∧ l ∉ [b, cl] ∧ 0 < ns.length ∧ ns.length ≤ 1000 ∧ (∀ x ∈ ns, 2 ≤ x ∧ x ≤ 6) ∧
  ∀ (p : Addr) (sg : List Int) (H' : Hp), Bag H' b cl → Fr [b, cl] H H' → SqT K H' p (sg.map V.int) → Sig sg → Q (.ref p) H'
theorem ok_signature (F : FnP K "_law_signature" "_law_signature" s_law_signature f fd) (T : Nm mg) (h_law_draw : Has P w K mg base CX0 "_law_draw" ["bag", "below"] 1 spDraw) (h_law_pick : Has P w K mg base CX0 "_law_pick" ["bag", "some"] 2 spPick) :
    FnOk P w K mg base CX0 3 f fd ["bag", "sizes"] (spSig K) := by
  refine F.ok sc_law_signature (fun vs H Q E h => ?_) (fun cdv A outer s H vs Q E hr h => ?_)
  · obtain ⟨b, cl, l, ns, rfl, _⟩ := h
    rfl
  obtain ⟨b, cl, l, ns, rfl, B, hl, nl, n1, n2, n3, k⟩ := h
  have hq := hq_of hr
  refine ⟨_, PSs.nox
  (pss_cons (ps_set (i := 2) sc_law_signature.nd rfl (Or.inl rfl) (pe_f h_law_pick (hr.mono (by decide)) (by rfl) (pa_cons (pv 0) (pa_cons (pv 1) pa_nil))))
      (pss_cons (ps_setLc (i := 3) (own := [("k", 5)]) rfl sc_law_signature.nd rfl rfl (sw_true rfl rfl rfl (by decide +kernel)) (pi_range1 (by rfl) T.range (pa_cons (pv 2) pa_nil)) (blkOk_by (N := N_law_signature) (sc := defScope s_law_signature) (by decide +kernel)) (fun _ _ _ _ _ => (pg_name (i := 5) sc_law_signature.nd rfl (Or.inl rfl))) (fun _ _ _ _ _ => pts_nil) (fun _ _ _ _ _ => (pe_f h_law_pick (hr.mono (by decide)) (by rfl) (pa_cons (pv 0) (pa_cons (pe_lst (pa_cons pe_int (pa_cons pe_int (pa_cons pe_int (pa_cons pe_int (pa_cons pe_int (pa_cons pe_int pa_nil))))))) pa_nil)))))
      (pss_cons (ps_set (i := 4) sc_law_signature.nd rfl (Or.inl rfl) (pe_f h_law_draw (hr.mono (by decide)) (by rfl) (pa_cons (pv 0) (pa_cons (pv 2) pa_nil))))
      (pss_cons (ps_asg pe_int (pg_sub (pv 3) (pv 4) set_list))
      (pss_cons (ps_if (PW.pt (pw_and (pt_cmpR (op_eqK K hq) (pe_callB (cr_maxK K rfl) (by rfl) T.max bt_max (pa_cons (pv 3) pa_nil)) pe_int (nomark _)) (pw_and1 (pt_cmpR op_gt (pv 2) pe_int (nomark _))))) (pss_one (ps_asg (pe_op (op_addK K) pe_int (pe_f h_law_draw (hr.mono (by decide)) (by rfl) (pa_cons (pv 0) (pa_cons pe_int pa_nil)))) (pg_sub (pv 3) (pe_op op_mod (pe_op (op_addK K) (pv 4) pe_int) (pv 2)) set_list))) pss_nil)
      (pss_one (ps_ret (pe_callTy (cr_tupleK K) (by rfl) T.tuple bt_tuple (pa_cons (pv 3) pa_nil))))))))), ?_⟩
  -- many = _law_pick(bag, sizes)
  refine ⟨_, rfl, _, rfl, b, cl, l, _, rfl, B, hl, nl, by simpa using n1, by simpa using n2, fun y H1 hy B1 fr1 => ?_⟩
  obtain ⟨many, hm, rfl⟩ := mem_mapI hy
  obtain ⟨m1, m2⟩ := n3 many hm
  dsimp only [gName]
  -- found = [..]
  refine seq_cut (fun σ H' => ∃ (D : Addr) (fs : List Int), σ = [some (.ref b), some (.ref l), some (.int many), some (.ref D), none, none] ∧ Fr [b, cl] H H' ∧ Bag H' b cl ∧ H D = none ∧ H' D = some (.lst (fs.map V.int)) ∧ fs.length = many.toNat ∧ ∀ x ∈ fs, 0 ≤ x ∧ x ≤ 3) (fun Z hZ => ?_) ?_
  · refine ⟨_, rfl, _, rfl, by omega, by omega, fun D hD => ?_⟩
    refine lcM (walk_range (lo := 0) (n := many.toNat)) [b, cl] hD (fun i acc H' => ∃ cs : List Int, acc = cs.map V.int ∧ (∀ x ∈ cs, 0 ≤ x ∧ x ≤ 3) ∧ cs.length = i ∧ Bag H' b cl) ⟨[], rfl, (fun x hx => by cases hx), rfl, B1.new hD⟩ (fun _ _ _ _ _ => trivial) ?_ ?_
    · rintro i x acc H2 H3 Nx hN hi fr e ⟨cs, rfl, c1, c2, B2⟩ ⟨rfl, rfl⟩
      refine ⟨rfl, ?_⟩
      refine ⟨_, rfl, by show 6 ≤ sizeLine; decide, fun p hp => ?_⟩
      refine ⟨b, cl, p, [.int 0, .int 1, .int 1, .int 2, .int 2, .int 3], rfl, B2.new hp, upd_same, B2.out hp, by decide, by decide, fun y H4 hy B4 fr4 => ?_⟩
      have hy' : ∃ v : Int, y = .int v ∧ 0 ≤ v ∧ v ≤ 3 := by
        simp only [List.mem_cons, List.not_mem_nil, or_false] at hy
        rcases hy with rfl | rfl | rfl | rfl | rfl | rfl <;> exact ⟨_, rfl, by decide, by decide⟩
      obtain ⟨v, rfl, v0, v1⟩ := hy'
      have eD : H4 D = some (.lst (cs.map V.int)) := fr4 _ _ ((Fr.new (M := []) hp) _ _ e (by simp)) (B1.out hD)
      refine ⟨_, eD, ?_, hN _ _ upd_same (((fr.trans (Fr.new hp)).trans fr4).put (.inl hD)) ⟨cs ++ [v], by simp, ?_, by simp [c2], B4.upd' B1 hD⟩⟩
      · exact small_line (by simp; omega)
      · intro x hx
        rcases List.mem_append.mp hx with h | h
        · exact c1 x h
        · rw [List.mem_singleton.mp h]
          exact ⟨v0, v1⟩
    · rintro acc H2 fr e ⟨cs, rfl, c1, c2, B2⟩
      exact hZ _ _ ⟨D, cs, rfl, fr1.trans fr, B2, fr1.fresh hD B1.known, e, c2, c1⟩
  · rintro _ H2 ⟨D, fs, rfl, fr2, B2, D0, hD, f1, f2⟩
    have nD := B.out D0
    -- at = _law_draw(bag, many)
    refine ⟨_, rfl, _, rfl, b, cl, many, rfl, B2, by omega, by omega, fun at_ H3 a0 a1 B3 fr3 => ?_⟩
    have hD3 := fr3 _ _ hD nD
    -- found[at] = 0
    refine ⟨_, rfl, _, rfl, D, _, at_, at_.toNat, rfl, rfl, hD3, ixN_int a0 (by simp; omega), ?_⟩
    rw [map_setI]
    have ha : at_.toNat < fs.length := by omega
    have g1 : (fs.set at_.toNat 0)[at_.toNat]? = some 0 := by rw [List.getElem?_set_self ha]
    have gl : (fs.set at_.toNat 0).length = many.toNat := by rw [List.length_set, f1]
    have gm : ∀ x ∈ fs.set at_.toNat 0, 0 ≤ x ∧ x ≤ 3 := fun x hx => by
      rcases List.mem_or_eq_of_mem_set hx with h | h
      · exact f2 x h
      · rw [h]
        decide
    generalize fs.set at_.toNat 0 = g at g1 gl gm
    have fr4 : Fr [b, cl] H (upd H3 D (.lst (g.map V.int))) := (fr2.trans fr3).put (.inl D0)
    have B4 : Bag (upd H3 D (.lst (g.map V.int))) b cl := B3.upd' B D0
    have hD4 : upd H3 D (.lst (g.map V.int)) D = some (.lst (g.map V.int)) := upd_same
    generalize upd H3 D (.lst (g.map V.int)) = H4 at fr4 B4 hD4
    -- if max(found) == 0 and many > 1
    dsimp only [gName]
    refine seq_cut (fun σ H' => ∃ g' : List Int, σ = [some (.ref b), some (.ref l), some (.int many), some (.ref D), some (.int at_), none] ∧ Fr [b, cl] H H' ∧ Bag H' b cl ∧ H' D = some (.lst (g'.map V.int)) ∧ Sig g') (fun Z hZ => ?_) ?_
    · have S0 : Sig g := ⟨by omega, by omega, gm, List.mem_of_getElem? g1⟩
      refine ⟨_, rfl, D, g, rfl, SqL.of hD4, by omega, fun m hm hle => Or.inl ⟨rfl, _, rfl, ?_⟩⟩
      refine dec_b (fun _ => ?_) (fun _ => hZ _ _ ⟨g, rfl, fr4, B4, hD4, S0⟩)
      refine ⟨_, rfl, _, _, rfl, rfl, _, rfl, ?_⟩
      refine dec_b (fun _ => ?_) (fun _ => hZ _ _ ⟨g, rfl, fr4, B4, hD4, S0⟩)
      refine ⟨_, rfl, b, cl, 3, rfl, B4, by decide, by decide, fun v H5 v0 v1 B5 fr5 => Or.inl ⟨_, _, rfl, rfl, ?_⟩⟩
      have hD5 := fr5 _ _ hD4 nD
      have hj0 : 0 ≤ (at_ + 1) % many := Int.emod_nonneg _ (by omega)
      have hj1 : (at_ + 1) % many < many := Int.emod_lt_of_pos _ (by omega)
      have hne : (at_ + 1) % many ≠ at_ := fun e => by
        by_cases h : at_ + 1 < many
        · rw [Int.emod_eq_of_lt (by omega) h] at e
          omega
        · have h2 : at_ + 1 = many := by omega
          rw [h2, Int.emod_self] at e
          omega
      refine ⟨_, rfl, _, rfl, Or.inl ⟨_, _, rfl, rfl, _, rfl, _, _, rfl, rfl, (by omega : (0 : Int) < many), D, _, (at_ + 1) % many, ((at_ + 1) % many).toNat, rfl, rfl, hD5, ixN_int hj0 (by simp; omega), ?_⟩⟩
      rw [map_setI]
      refine hZ _ _ ⟨_, rfl, (fr4.trans fr5).put (.inl D0), B5.upd' B D0, upd_same, ⟨by simp; omega, by simp; omega, fun x hx => ?_, ?_⟩⟩
      · rcases List.mem_or_eq_of_mem_set hx with h | h
        · exact gm x h
        · rw [h]
          omega
      · refine List.mem_of_getElem? (i := at_.toNat) ?_
        rw [List.getElem?_set_ne (by omega)]
        exact g1
    · rintro _ H5 ⟨g', rfl, fr5, B5, hD5, S⟩
      refine ⟨_, rfl, D, _, rfl, .inl ⟨SqL.of hD5, fun p hp => ?_⟩⟩
      exact k p g' _ (B5.new hp) (fr5.trans (Fr.new hp)) (SqT.of upd_same) S
end
end R59
/-! W5 -/
set_option maxHeartbeats 1000000
namespace R59
open PySem PySem.Spec PyProof.Rows L2
theorem rep_flat (n : Nat) (v : Int) : (List.replicate n [V.int v]).flatten = (List.replicate n v).map V.int := by
  induction n with
  | zero => rfl
  | succ n ih =>
    rw [List.replicate_succ, List.flatten_cons, ih, List.replicate_succ]
    rfl
section
variable {P : Program} {w : World} {K : PySem.W.Frag} {mg : Str → Option Value} {base : Heap} {f : Addr} {fd : FuncData}
/-! ### _law_costs -/
abbrev s_law_costs : Stmt := top 25
abbrev N_law_costs : List Str := ["bag", "many", "mode", "most", "k"]
theorem sc_law_costs : FnScope N_law_costs ["bag", "many"] (defScope s_law_costs) := ⟨rfl, rfl, rfl, by decide +kernel, rfl, by decide +kernel, by decide +kernel⟩
structure Cos (n : Int) (cs : List Int) : Prop where
  len : (cs.length : Int) = n
  ok : ∀ x ∈ cs, 1 ≤ x ∧ x ≤ 1001
def spCosts (K : PySem.W.Frag) : Sp := fun vs H Q _ => ∃ (b cl : Addr) (n : Int), vs = [.ref b, .int n] ∧ Bag H b cl ∧ 2 ≤ n ∧ n ≤ 6 ∧ ∀ (p : Addr) (cs : List Int) (H' : Hp), Bag H' b cl → Fr [b, cl] H H' → SqT K H' p (cs.map V.int) → Cos n cs → Q (.ref p) H'
theorem ok_costs (F : FnP K "_law_costs" "_law_costs" s_law_costs f fd) (T : Nm mg) (h_law_draw : Has P w K mg base CX0 "_law_draw" ["bag", "below"] 1 spDraw) (h_law_pick : Has P w K mg base CX0 "_law_pick" ["bag", "some"] 2 spPick) :
    FnOk P w K mg base CX0 3 f fd ["bag", "many"] (spCosts K) := by
  refine F.ok sc_law_costs (fun vs H Q E h => ?_) (fun cdv A outer s H vs Q E hr h => ?_)
  · obtain ⟨b, cl, n, rfl, _⟩ := h
    rfl
  obtain ⟨b, cl, n, rfl, B, n1, n2, k⟩ := h
  have hq := hq_of hr
  refine ⟨_, PSs.nox
  (pss_cons (ps_set (i := 2) sc_law_costs.nd rfl (Or.inl rfl) (pe_f h_law_draw (hr.mono (by decide)) (by rfl) (pa_cons (pv 0) (pa_cons pe_int pa_nil))))
      (pss_cons (ps_if (pt_cmpR (op_eqK K hq) (pv 2) pe_int (nomark _)) (pss_one (ps_ret (pe_op (op_mulK K) (pe_tup (pa_cons (pe_f h_law_pick (hr.mono (by decide)) (by rfl) (pa_cons (pv 0) (pa_cons (pe_lst (pa_cons pe_int (pa_cons pe_int (pa_cons pe_int (pa_cons pe_int pa_nil))))) pa_nil))) pa_nil)) (pv 1)))) pss_nil)
      (pss_cons (ps_if (pt_cmpR (op_ltK K hq) (pv 2) pe_int (nomark _)) (pss_cons (ps_set (i := 3) sc_law_costs.nd rfl (Or.inr rfl) (pe_f h_law_pick (hr.mono (by decide)) (by rfl) (pa_cons (pv 0) (pa_cons (pe_lst (pa_cons pe_int (pa_cons pe_int (pa_cons pe_int pa_nil)))) pa_nil))))
      (pss_one (ps_ret (pe_callTy (cr_tupleK K) (by rfl) T.tuple bt_tuple (pa_cons (pe_lc (own := [("k", 4)]) rfl sc_law_costs.nd (pi_range1 (by rfl) T.range (pa_cons (pv 1) pa_nil)) (blkOk_by (N := N_law_costs) (sc := defScope s_law_costs) (by decide +kernel)) (fun _ _ _ _ _ => (pg_name (i := 4) sc_law_costs.nd rfl (Or.inl rfl))) (fun _ _ _ _ _ => pts_nil) (fun _ _ _ _ _ => (pe_op (op_addK K) pe_int (pe_f h_law_draw (hr.mono (by decide)) (by rfl) (pa_cons (pv 0) (pa_cons (pv 3) pa_nil)))))) pa_nil))))) pss_nil)
      (pss_one (ps_ret (pe_callTy (cr_tupleK K) (by rfl) T.tuple bt_tuple (pa_cons (pe_lc (own := [("k", 4)]) rfl sc_law_costs.nd (pi_range1 (by rfl) T.range (pa_cons (pv 1) pa_nil)) (blkOk_by (N := N_law_costs) (sc := defScope s_law_costs) (by decide +kernel)) (fun _ _ _ _ _ => (pg_name (i := 4) sc_law_costs.nd rfl (Or.inl rfl))) (fun _ _ _ _ _ => pts_nil) (fun _ _ _ _ _ => (pe_f h_law_pick (hr.mono (by decide)) (by rfl) (pa_cons (pv 0) (pa_cons (pe_lst (pa_cons pe_int (pa_cons pe_int (pa_cons (pe_op (op_addK K) pe_int (pe_f h_law_draw (hr.mono (by decide)) (by rfl) (pa_cons (pv 0) (pa_cons pe_int pa_nil)))) (pa_cons (pe_op (op_addK K) pe_int (pe_f h_law_draw (hr.mono (by decide)) (by rfl) (pa_cons (pv 0) (pa_cons pe_int pa_nil)))) pa_nil))))) pa_nil))))) pa_nil))))))), ?_⟩
  -- mode = _law_draw(bag, 5)
  refine ⟨_, rfl, b, cl, 5, rfl, B, by decide, by decide, fun mode H1 m0 m1 B1 fr1 => ?_⟩
  refine ⟨_, rfl, Or.inl ⟨rfl, _, rfl, ?_⟩⟩
  refine dec_b (fun _ => ?_) (fun _ => ?_)
  · -- (_law_pick(bag, [1, 1, 7, 1000]),) * many
    refine ⟨_, rfl, by show 4 ≤ sizeLine; decide, fun p hp => ?_⟩
    refine ⟨b, cl, p, [.int 1, .int 1, .int 7, .int 1000], rfl, B1.new hp, upd_same, B1.out hp, by decide, by decide, fun y H2 hy B2 fr2 => ?_⟩
    have hy' : ∃ v : Int, y = .int v ∧ 1 ≤ v ∧ v ≤ 1001 := by
      simp only [List.mem_cons, List.not_mem_nil, or_false] at hy
      rcases hy with rfl | rfl | rfl | rfl <;> exact ⟨_, rfl, by decide, by decide⟩
    obtain ⟨v, rfl, v0, v1⟩ := hy'
    refine ⟨by show 1 ≤ sizeLine; decide, fun q hq' => ⟨_, rfl, Or.inr (Or.inr ⟨q, n, _, rfl, rfl, SqT.of upd_same, by simp, by omega, by omega, by simp, fun e => by omega, fun _ t ht => ?_⟩)⟩⟩
    rw [rep_flat]
    refine k t (List.replicate n.toNat v) _ ((B2.new hq').new ht) ((((fr1.trans (Fr.new hp)).trans fr2).trans (Fr.new hq')).trans (Fr.new ht)) (SqT.of upd_same) ⟨by simp; omega, fun x hx => ?_⟩
    rw [(List.mem_replicate.mp hx).2]
    exact ⟨v0, v1⟩
  refine ⟨_, rfl, Or.inl ⟨_, _, rfl, rfl, _, rfl, ?_⟩⟩
  refine dec_b (fun _ => ?_) (fun _ => ?_)
  · -- most; tuple([1 + _law_draw(bag, most) ..])
    refine ⟨_, rfl, by show 3 ≤ sizeLine; decide, fun p hp => ?_⟩
    refine ⟨b, cl, p, [.int 2, .int 3, .int 9], rfl, B1.new hp, upd_same, B1.out hp, by decide, by decide, fun y H2 hy B2 fr2 => ?_⟩
    have hy' : ∃ v : Int, y = .int v ∧ 2 ≤ v ∧ v ≤ 9 := by
      simp only [List.mem_cons, List.not_mem_nil, or_false] at hy
      rcases hy with rfl | rfl | rfl <;> exact ⟨_, rfl, by decide, by decide⟩
    obtain ⟨v, rfl, v0, v1⟩ := hy'
    refine ⟨_, rfl, _, rfl, by omega, by omega, fun D hD => ?_⟩
    refine lcM (walk_range (lo := 0) (n := n.toNat)) [b, cl] hD (fun i acc H' => ∃ cs : List Int, acc = cs.map V.int ∧ (∀ x ∈ cs, 1 ≤ x ∧ x ≤ 1001) ∧ cs.length = i ∧ Bag H' b cl) ⟨[], rfl, (fun x hx => by cases hx), rfl, B2.new hD⟩ (fun _ _ _ _ _ => trivial) ?_ ?_
    · rintro i x acc H3 H4 Nx hN hi fr e ⟨cs, rfl, c1, c2, B3⟩ ⟨rfl, rfl⟩
      refine ⟨rfl, ?_⟩
      refine ⟨_, rfl, _, rfl, b, cl, v, rfl, B3, by omega, by omega, fun r H5 r0 r1 B5 fr5 => Or.inl ⟨_, _, rfl, rfl, ?_⟩⟩
      refine ⟨_, fr5 _ _ e (B2.out hD), small_line (by simp; omega), hN _ _ upd_same ((fr.trans fr5).put (.inl hD)) ⟨cs ++ [1 + r], by simp, ?_, by simp [c2], B5.upd' B2 hD⟩⟩
      intro x hx
      rcases List.mem_append.mp hx with h | h
      · exact c1 x h
      · rw [List.mem_singleton.mp h]
        omega
    · rintro acc H3 fr e ⟨cs, rfl, c1, c2, B3⟩
      refine ⟨D, _, rfl, .inl ⟨SqL.of e, fun t ht => ?_⟩⟩
      exact k t cs _ (B3.new ht) ((((fr1.trans (Fr.new hp)).trans fr2).trans fr).trans (Fr.new ht)) (SqT.of upd_same) ⟨by omega, c1⟩
  · refine ⟨_, rfl, _, rfl, by omega, by omega, fun D hD => ?_⟩
    refine lcM (walk_range (lo := 0) (n := n.toNat)) [b, cl] hD (fun i acc H' => ∃ cs : List Int, acc = cs.map V.int ∧ (∀ x ∈ cs, 1 ≤ x ∧ x ≤ 1001) ∧ cs.length = i ∧ Bag H' b cl) ⟨[], rfl, (fun x hx => by cases hx), rfl, B1.new hD⟩ (fun _ _ _ _ _ => trivial) ?_ ?_
    · rintro i x acc H3 H4 Nx hN hi fr e ⟨cs, rfl, c1, c2, B3⟩ ⟨rfl, rfl⟩
      refine ⟨rfl, ?_⟩
      refine ⟨_, rfl, _, rfl, b, cl, 1000, rfl, B3, by decide, by decide, fun r H5 r0 r1 B5 fr5 => Or.inl ⟨_, _, rfl, rfl, ?_⟩⟩
      refine ⟨_, rfl, b, cl, 40, rfl, B5, by decide, by decide, fun r2 H6 q0 q1 B6 fr6 => Or.inl ⟨_, _, rfl, rfl, ?_⟩⟩
      refine ⟨by show 4 ≤ sizeLine; decide, fun p hp => ?_⟩
      refine ⟨b, cl, p, [.int 1, .int 1000, .int (1 + r), .int (1 + r2)], rfl, B6.new hp, upd_same, B6.out hp, by simp, by simp, fun y H7 hy B7 fr7 => ?_⟩
      have hy' : ∃ v : Int, y = .int v ∧ 1 ≤ v ∧ v ≤ 1001 := by
        simp only [List.mem_cons, List.not_mem_nil, or_false] at hy
        rcases hy with rfl | rfl | rfl | rfl <;> exact ⟨_, rfl, by omega, by omega⟩
      obtain ⟨v, rfl, v0, v1⟩ := hy'
      have fr8 := ((fr5.trans fr6).trans (Fr.new (o := HO.lst [.int 1, .int 1000, .int (1 + r), .int (1 + r2)]) hp)).trans fr7
      refine ⟨_, fr8 _ _ e (B1.out hD), small_line (by simp; omega), hN _ _ upd_same ((fr.trans fr8).put (.inl hD)) ⟨cs ++ [v], by simp, ?_, by simp [c2], B7.upd' B1 hD⟩⟩
      intro x hx
      rcases List.mem_append.mp hx with h | h
      · exact c1 x h
      · rw [List.mem_singleton.mp h]
        omega
    · rintro acc H3 fr e ⟨cs, rfl, c1, c2, B3⟩
      refine ⟨D, _, rfl, .inl ⟨SqL.of e, fun t ht => ?_⟩⟩
      exact k t cs _ (B3.new ht) ((fr1.trans fr).trans (Fr.new ht)) (SqT.of upd_same) ⟨by omega, c1⟩
end
end R59
/-! W6 -/
set_option maxHeartbeats 1000000
namespace R59
open PySem PyProof.Rows L2 KB
def arOf (sg : List Int) (s : Nat) : Nat := (sg.getD s 0).toNat
/-- rows that are told -/
structure RwOk (ar : Nat → Nat) (R : List Row) : Prop where
  len : R.length ≤ 42
  s5 : ∀ r ∈ R, r.s ≤ 5
  a3 : ∀ r ∈ R, r.is.length = ar r.s
  ar3 : ∀ s, ar s ≤ 3
  uq : R.Pairwise fun a b => ¬ (a.s = b.s ∧ a.is = b.is)
  cl : ∀ r ∈ R, r.c ≤ 99 ∧ ∀ i ∈ r.is, i ≤ 99
  fst : ∃ r ∈ R, r.is = []
def knD (r : Row) : PyData := .tuple [.int (r.s : Int), isD r.is]
theorem knD_flat (r : Row) : flatD (knD r) = true := by
  unfold knD
  rw [flatD, flatDs, flatDs, flatDs, flat_nats]
  rfl
theorem depth_knD (r : Row) : (knD r).depth = 2 := by
  unfold knD
  simp only [PyData.depth, PyData.depthAll, depth_isD]
  decide
theorem knD_eqv (a b : Row) : PyData.eqv (knD a) (knD b) = decide (a.s = b.s ∧ a.is = b.is) := by
  unfold knD
  simp only [PyData.eqv, PyData.eqvAll, isD_eqv]
  by_cases h1 : a.s = b.s <;> by_cases h2 : a.is = b.is <;> simp [h1, h2, nci]
theorem Dp.of_nats {K : PySem.W.Frag} {H : Hp} {a : Addr} {is : List Nat} (h : SqT K H a (is.map fun i : Nat => V.int (i : Int))) : Dp K H (.ref a) (isD is) := by
  rw [isD_ints]
  refine .tup h ?_
  have e : (is.map fun i : Nat => V.int (i : Int)) = (is.map fun i : Nat => (i : Int)).map V.int := by
    rw [List.map_map]
    rfl
  rw [e]
  exact DpAll.ints _
/-- the rows so far, mm classes -/
structure Rx (sg : List Int) (m : Int) (R : List Row) (mm : Nat) : Prop where
  le : (mm : Int) ≤ m
  e0 : R = [] ↔ mm = 0
  cl : ∀ r ∈ R, r.c < mm ∧ ∀ j ∈ r.is, j < mm
  ar : ∀ r ∈ R, r.s < sg.length ∧ r.is.length = arOf sg r.s
  uq : R.Pairwise fun a b => ¬ (a.s = b.s ∧ a.is = b.is)
  fst : R ≠ [] → ∃ r ∈ R, r.is = []
theorem Rx.nil {sg : List Int} {m : Int} (h : 0 ≤ m) : Rx sg m [] 0 := ⟨h, by simp, (fun r h => by cases h), (fun r h => by cases h), List.Pairwise.nil, fun h => absurd rfl h⟩
theorem Rx.add {sg : List Int} {m : Int} {R : List Row} {mm : Nat} (X : Rx sg m R mm) {s : Nat} {is : List Nat} {c : Nat} (hs : s < sg.length) (ha : is.length = arOf sg s) (hi : ∀ j ∈ is, j < mm) (h0 : mm = 0 → is = []) (hn : ∀ r ∈ R, ¬ (r.s = s ∧ r.is = is)) (hc : c < max mm (c + 1)) (hm : ((max mm (c + 1) : Nat) : Int) ≤ m) :
    Rx sg m (R ++ [⟨s, is, c⟩]) (max mm (c + 1)) := by
  refine ⟨hm, ⟨fun e => by simp at e, fun e => by omega⟩, fun r hr => ?_, fun r hr => ?_, ?_, fun _ => ?_⟩
  · rcases List.mem_append.mp hr with h | h
    · have := X.cl r h
      exact ⟨by omega, fun j hj => by have := this.2 j hj; omega⟩
    · rw [List.mem_singleton.mp h]
      exact ⟨hc, fun j hj => by have := hi j hj; omega⟩
  · rcases List.mem_append.mp hr with h | h
    · exact X.ar r h
    · rw [List.mem_singleton.mp h]
      exact ⟨hs, ha⟩
  · rw [List.pairwise_append]
    exact ⟨X.uq, List.pairwise_singleton _ _, fun a ha b hb => by rw [List.mem_singleton.mp hb]; exact hn a ha⟩
  · by_cases hR : R = []
    · have := X.e0.mp hR
      exact ⟨⟨s, is, c⟩, by simp, h0 this⟩
    · obtain ⟨r, h1, h2⟩ := X.fst hR
      exact ⟨r, List.mem_append_left _ h1, h2⟩
theorem Rx.ok {sg : List Int} {m : Int} {R : List Row} {mm : Nat} (X : Rx sg m R mm) (S : Sig sg) (hm : m ≤ 4) (hl : R.length ≤ 11) (hne : R ≠ []) : RwOk (arOf sg) R where
  len := by omega
  s5 := fun r hr => by have := (X.ar r hr).1; have := S.hi; omega
  a3 := fun r hr => (X.ar r hr).2
  ar3 := fun s => by
    unfold arOf
    rw [List.getD_eq_getElem?_getD]
    cases e : sg[s]? with
    | none => decide
    | some x =>
      have := S.ar x (List.mem_of_getElem? e)
      simp
      omega
  uq := X.uq
  cl := fun r hr => by
    have h1 := X.cl r hr
    have h2 := X.le
    exact ⟨by omega, fun i hi => by have := h1.2 i hi; omega⟩
  fst := X.fst hne
section
variable {P : Program} {w : World} {K : PySem.W.Frag} {mg : Str → Option Value} {base : Heap} {f : Addr} {fd : FuncData}
/-! ### _law_rows -/
abbrev s_law_rows : Stmt := top 27
abbrev N_law_rows : List Str := ["bag", "signature", "steps", "most", "plain", "step", "rows", "known", "many", "symbol", "inner", "made", "arity", "k"]
theorem sc_law_rows : FnScope N_law_rows ["bag", "signature", "steps", "most"] (defScope s_law_rows) := ⟨rfl, rfl, rfl, by decide +kernel, rfl, by decide +kernel, by decide +kernel⟩
def spRows (K : PySem.W.Frag) : Sp := fun vs H Q _ => ∃ (b cl a : Addr) (sg : List Int) (n m : Int), vs = [.ref b, .ref a, .int n, .int m] ∧ Bag H b cl ∧ SqT K H a (sg.map V.int) ∧ Sig sg ∧ 2 ≤ n ∧ n ≤ 11 ∧ 1 ≤ m ∧ m ≤ 4 ∧
  ∀ (p : Addr) (xs : List V) (R : List Row) (H' : Hp), Bag H' b cl → Fr [b, cl] H H' → H p = none → H' p = some (.lst xs) → DpAll K H' xs (R.map rowD) → RwOk (arOf sg) R → (∀ r ∈ R, r.c < 4 ∧ ∀ i ∈ r.is, i < 4) → (∀ r ∈ R, r.s < sg.length) → Q (.ref p) H'
set_option maxHeartbeats 4000000 in
theorem ok_rows (F : FnP K "_law_rows" "_law_rows" s_law_rows f fd) (T : Nm mg) (h_law_draw : Has P w K mg base CX0 "_law_draw" ["bag", "below"] 1 spDraw) (h_law_pick : Has P w K mg base CX0 "_law_pick" ["bag", "some"] 2 spPick) :
    FnOk P w K mg base CX0 3 f fd ["bag", "signature", "steps", "most"] (spRows K) := by
  refine F.ok sc_law_rows (fun vs H Q E h => ?_) (fun cdv A outer s H vs Q E hr h => ?_)
  · obtain ⟨b, cl, a, sg, n, m, rfl, _⟩ := h
    rfl
  obtain ⟨b, cl, a, sg, n, m, rfl, B, hsg, S, n1, n2, m1, m2, k⟩ := h
  have hq := hq_of hr
  have hu := hu_of hr
  refine ⟨_, PSs.nox
  (pss_cons (ps_asg (pe_tup (pa_cons (pe_lst pa_nil) (pa_cons (pe_lst pa_nil) (pa_cons pe_int pa_nil)))) (pg_tupK (n := 3) K rfl (pgs_cons (pg_name (i := 6) sc_law_rows.nd rfl (Or.inl rfl)) (pgs_cons (pg_name (i := 7) sc_law_rows.nd rfl (Or.inl rfl)) (pgs_cons (pg_name (i := 8) sc_law_rows.nd rfl (Or.inr rfl)) pgs_nil)))))
      (pss_cons (ps_setLc (i := 4) (own := [("symbol", 9), ("arity", 12)]) rfl sc_law_rows.nd rfl rfl (sw_true rfl rfl rfl (by decide +kernel)) (pi_enumT (by rfl) T.enumerate (pa_cons (pv 1) pa_nil)) (blkOk_by (N := N_law_rows) (sc := defScope s_law_rows) (by decide +kernel)) (fun _ _ _ _ _ => (pg_tupK (n := 2) K rfl (pgs_cons (pg_name (i := 9) sc_law_rows.nd rfl (Or.inl rfl)) (pgs_cons (pg_name (i := 12) sc_law_rows.nd rfl (Or.inl rfl)) pgs_nil)))) (fun _ _ _ _ _ => (pts_one (pt_cmpR (op_eqK K hq) (pv 12) pe_int (nomark _)))) (fun _ _ _ _ _ => (pv 9)))
      (pss_cons (ps_for PassesOwn.never rfl (pi_range1 (by rfl) T.range (pa_cons (pv 2) pa_nil)) (pg_name (i := 5) sc_law_rows.nd rfl (Or.inl rfl)) (pss_cons (ps_set (i := 9) sc_law_rows.nd rfl (Or.inl rfl) (pe_ifExp (pt_cmpR (op_eqK K hq) (pv 8) pe_int (nomark _)) (pe_f h_law_pick (hr.mono (by decide)) (by rfl) (pa_cons (pv 0) (pa_cons (pv 4) pa_nil))) (pe_f h_law_draw (hr.mono (by decide)) (by rfl) (pa_cons (pv 0) (pa_cons (pe_callB (cr_lenK K) (by rfl) T.len bt_len (pa_cons (pv 1) pa_nil)) pa_nil)))))
      (pss_cons (ps_set (i := 10) sc_law_rows.nd rfl (Or.inl rfl) (pe_callTy (cr_tupleK K) (by rfl) T.tuple bt_tuple (pa_cons (pe_lc (own := [("k", 13)]) rfl sc_law_rows.nd (pi_range1 (by rfl) T.range (pa_cons (pe_ix (ix_K K) (pv 1) (pv 9) (fun _ _ => rfl)) pa_nil)) (blkOk_by (N := N_law_rows) (sc := defScope s_law_rows) (by decide +kernel)) (fun _ _ _ _ _ => (pg_name (i := 13) sc_law_rows.nd rfl (Or.inl rfl))) (fun _ _ _ _ _ => pts_nil) (fun _ _ _ _ _ => (pe_f h_law_draw (hr.mono (by decide)) (by rfl) (pa_cons (pv 0) (pa_cons (pv 8) pa_nil))))) pa_nil)))
      (pss_one (ps_if (pt_cmpR (op_notInK K hq) (pe_tup (pa_cons (pv 9) (pa_cons (pv 10) pa_nil))) (pv 7) (by rfl)) (pss_cons (ps_set (i := 11) sc_law_rows.nd rfl (Or.inl rfl) (pe_ifExp (PW.pt (pw_and (pt_cmpR (op_ltK K hq) (pv 8) (pv 3) (nomark _)) (pw_and1 (PW.pt (pw_or (pt_cmpR (op_eqK K hq) (pv 8) pe_int (nomark _)) (pw_or1 (pt_cmpR (op_eqK K hq) (pe_f h_law_draw (hr.mono (by decide)) (by rfl) (pa_cons (pv 0) (pa_cons pe_int pa_nil))) pe_int (nomark _)))))))) (pv 8) (pe_f h_law_draw (hr.mono (by decide)) (by rfl) (pa_cons (pv 0) (pa_cons (pv 8) pa_nil)))))
      (pss_cons (ps_expr (pe_appK K (pv 7) (pe_tup (pa_cons (pv 9) (pa_cons (pv 10) pa_nil)))))
      (pss_cons (ps_expr (pe_appK K (pv 6) (pe_tup (pa_cons (pv 9) (pa_cons (pv 10) (pa_cons (pv 11) pa_nil))))))
      (pss_one (ps_set (i := 8) sc_law_rows.nd rfl (Or.inr rfl) (pe_callB (call_max2 rfl) (by rfl) T.max bt_max (pa_cons (pv 8) (pa_cons (pe_op (op_addK K) (pv 11) pe_int) pa_nil)))))))) pss_nil)))))
      (pss_one (ps_ret (pv 6)))))), ?_⟩
  have hsgF : ∀ {H'}, Fr [b, cl] H H' → SqT K H' a (sg.map V.int) := fun fr => fr.tps B.mut _ _ hsg
  -- rows, known, many = ([], [], 0)
  refine seq_cut (fun σ H' => ∃ rp kp, σ = [some (.ref b), some (.ref a), some (.int n), some (.int m), none, none, some (.ref rp), some (.ref kp), some (.int 0), none, none, none, none, none] ∧ Fr [b, cl] H H' ∧ Bag H' b cl ∧ H rp = none ∧ H kp = none ∧ rp ≠ kp ∧ H' rp = some (.lst []) ∧ H' kp = some (.lst [])) (fun Z hZ => ?_) ?_
  · refine ⟨Nat.zero_le _, fun rp h1 => ⟨Nat.zero_le _, fun kp h2 => ⟨by show 3 ≤ sizeLine; decide, fun t h3 => ?_⟩⟩⟩
    have k0 : H kp = none := (Fr.new (M := []) h1).free h2 (by simp)
    have rk : rp ≠ kp := fun e => by
      rw [e, upd_same] at h2
      cases h2
    have e1 : upd (upd H rp (.lst [])) kp (.lst []) rp = some (.lst []) := by rw [upd_ne rk, upd_same]
    have e2 : upd (upd H rp (.lst [])) kp (.lst []) kp = some (.lst []) := upd_same
    refine ⟨t, _, rfl, SqT.of upd_same, rfl, _, _, rfl, _, _, rfl, _, _, rfl, rfl, ?_⟩
    exact hZ _ _ ⟨rp, kp, rfl, ((Fr.new h1).trans (Fr.new h2)).trans (Fr.new h3), ((B.new h1).new h2).new h3, h1, k0, rk, (Fr.new (M := []) h3) _ _ e1 (by simp), (Fr.new (M := []) h3) _ _ e2 (by simp)⟩
  rintro _ H1 ⟨rp, kp, rfl, fr1, B1, rp0, kp0, rk, hrp1, hkp1⟩
  -- plain
  refine seq_cut (fun σ H' => ∃ (pp : Addr) (ps : List Int), σ = [some (.ref b), some (.ref a), some (.int n), some (.int m), some (.ref pp), none, some (.ref rp), some (.ref kp), some (.int 0), none, none, none, none, none] ∧ Fr [b, cl] H1 H' ∧ Bag H' b cl ∧ H1 pp = none ∧ H' pp = some (.lst (ps.map V.int)) ∧ ps ≠ [] ∧ ps.length ≤ 6 ∧ ∀ x ∈ ps, ∃ j : Nat, x = j ∧ sg[j]? = some 0) (fun Z hZ => ?_) ?_
  · have hs1 := hsgF fr1
    refine ⟨_, rfl, a, _, rfl, hs1, fun D hD => ?_⟩
    refine lcM (walk_enumT (xs := sg.map V.int)) [] hD (fun i acc H' => ∃ cs : List Int, acc = cs.map V.int ∧ (∀ x ∈ cs, ∃ j : Nat, x = j ∧ sg[j]? = some 0) ∧ (∀ j : Nat, j < i → sg[j]? = some 0 → (j : Int) ∈ cs) ∧ cs.length ≤ i) ⟨[], rfl, (fun x hx => by cases hx), (fun j hj => by omega), Nat.le_refl _⟩ (fun i acc H' fr _ => fr.tps (by simp) _ _ hs1) ?_ ?_
    · rintro i x acc H2 H3 Nx hN hi fr e ⟨cs, rfl, c1, c2, c3⟩ ⟨t, y1, y2, rfl, ht, rfl, e1, e2⟩
      cases e1
      obtain ⟨y, ey, rfl⟩ := get_mapI e2
      have hil : i < 6 := by
        have := (List.getElem?_eq_some_iff.mp ey).1
        have := S.hi
        omega
      refine ⟨t, _, rfl, SqT.of upd_same, rfl, _, _, rfl, _, _, rfl, rfl, rfl, ?_⟩
      refine ⟨_, rfl, Or.inl ⟨rfl, _, rfl, ?_⟩⟩
      have fr' := fr.trans (Fr.new (M := []) (o := HO.tup [.int (i : Nat), .int y]) ht)
      have e' := (Fr.new (M := []) (o := HO.tup [.int (i : Nat), .int y]) ht) _ _ e (by simp)
      refine dec_b (fun hy => ?_) (fun hy => ?_)
      · have hy0 := vint_inj hy
        refine ⟨_, rfl, _, e', small_line (by simp; omega), hN _ _ upd_same (fr'.put (.inl hD)) ⟨cs ++ [(i : Int)], by simp, ?_, ?_, by simp; omega⟩⟩
        · intro x hx
          rcases List.mem_append.mp hx with h | h
          · exact c1 x h
          · rw [List.mem_singleton.mp h]
            exact ⟨i, rfl, by rw [ey, hy0]⟩
        · intro j hj hz
          by_cases hji : j = i
          · subst hji
            simp
          · exact List.mem_append_left _ (c2 j (by omega) hz)
      · refine hN _ _ e' fr' ⟨cs, rfl, c1, fun j hj hz => ?_, by omega⟩
        by_cases hji : j = i
        · subst hji
          rw [ey] at hz
          exact absurd (congrArg V.int (Option.some.inj hz)) hy
        · exact c2 j (by omega) hz
    · rintro acc H2 fr e ⟨cs, rfl, c1, c2, c3⟩
      refine hZ _ _ ⟨D, cs, rfl, fr.less (by simp), B1.same fr.same, hD, e, ?_, ?_, c1⟩
      · rintro rfl
        obtain ⟨j, hj⟩ := List.mem_iff_getElem?.mp S.pl
        have := c2 j (by simpa using (List.getElem?_eq_some_iff.mp hj).1) hj
        cases this
      · have := S.hi
        simp at c3
        omega
  rintro _ H2 ⟨pp, ps, rfl, fr2, B2, pp0, hpp, pne, pl, pz⟩
  have frH2 := fr1.trans fr2
  have nrp := B.out rp0
  have nkp := B.out kp0
  have npp := B1.out pp0
  have pprp : pp ≠ rp := fun e => by
    rw [e, hrp1] at pp0
    cases pp0
  have ppkp : pp ≠ kp := fun e => by
    rw [e, hkp1] at pp0
    cases pp0
  refine seq_cut (fun σ H' => ∃ (v5 v9 v10 v11 : Option V) (R : List Row) (mm : Nat) (xs : List V), σ = [some (.ref b), some (.ref a), some (.int n), some (.int m), some (.ref pp), v5, some (.ref rp), some (.ref kp), some (.int mm), v9, v10, v11, none, none] ∧ Fr [b, cl] H H' ∧ Bag H' b cl ∧
      H' rp = some (.lst xs) ∧ DpAll K H' xs (R.map rowD) ∧ Rx sg m R mm ∧ R.length ≤ 11 ∧ R ≠ []) (fun Z hZ => ?_) ?_
  · refine ⟨_, rfl, _, rfl, by omega, by omega, ?_⟩
    refine for_it (walk_range (lo := 0) (n := n.toNat)) (fun i σ H' => ∃ (v5 v9 v10 v11 : Option V) (R : List Row) (mm : Nat) (xs ks : List V), σ = [some (.ref b), some (.ref a), some (.int n), some (.int m), some (.ref pp), v5, some (.ref rp), some (.ref kp), some (.int mm), v9, v10, v11, none, none] ∧ Fr [b, cl] H H' ∧ Bag H' b cl ∧
      H' rp = some (.lst xs) ∧ DpAll K H' xs (R.map rowD) ∧ H' kp = some (.lst ks) ∧ DpAll K H' ks (R.map knD) ∧ H' pp = some (.lst (ps.map V.int)) ∧ Rx sg m R mm ∧ R.length ≤ i ∧ (0 < i → R ≠ [])) ?_ (fun _ _ _ _ _ => trivial) ?_ ?_
    · exact ⟨none, none, none, none, [], 0, [], [], rfl, frH2, B2, fr2 _ _ hrp1 nrp, .nil, fr2 _ _ hkp1 nkp, .nil, hpp, Rx.nil (by omega), Nat.le_refl _, fun h => by omega⟩
    · rintro i x _ H3' H3 hi ⟨v5, v9, v10, v11, R, mm, xs, ks, rfl, fr3, B3, hrp3, dx, hkp3, dk, hpp3, X, hl, hne⟩ ⟨rfl, rfl⟩
      have hi11 : i < 11 := by omega
      have hsg3 := hsgF fr3
      dsimp only [gName]
      -- symbol = _law_pick(bag, plain) if many == 0 else _law_draw(bag, len(signature))
      refine seq_cut (fun σ H' => ∃ (w5 : Option V) (s : Nat), σ = [some (.ref b), some (.ref a), some (.int n), some (.int m), some (.ref pp), w5, some (.ref rp), some (.ref kp), some (.int mm), some (.int s), v10, v11, none, none] ∧ Fr [b, cl] H3 H' ∧ Bag H' b cl ∧ s < sg.length ∧ (mm = 0 → sg[s]? = some 0)) (fun Z hZ => ?_) ?_
      · refine ⟨_, rfl, Or.inl ⟨rfl, _, rfl, ?_⟩⟩
        refine dec_b (fun h0 => ?_) (fun h0 => ?_)
        · refine ⟨_, rfl, _, rfl, b, cl, pp, _, rfl, B3, hpp3, npp, by simpa using List.length_pos_iff.mpr pne, by simp; omega, fun y H4 hy B4 fr4 => ?_⟩
          obtain ⟨x, hx, rfl⟩ := mem_mapI hy
          obtain ⟨j, rfl, hj⟩ := pz x hx
          exact hZ _ _ ⟨_, j, rfl, fr4, B4, (List.getElem?_eq_some_iff.mp hj).1, fun _ => hj⟩
        · refine ⟨_, rfl, _, rfl, a, _, rfl, .inr hsg3, b, cl, _, rfl, B3, by have := S.lo; simp; omega, by have := S.hi; simp; omega, fun r H4 r0 r1 B4 fr4 => ?_⟩
          obtain ⟨j, rfl⟩ := Int.eq_ofNat_of_zero_le r0
          rw [List.length_map] at r1
          exact hZ _ _ ⟨_, j, rfl, fr4, B4, by omega, fun e => absurd (by rw [e]; rfl) h0⟩
      rintro _ H4 ⟨w5, s, rfl, fr4, B4, hs, hs0⟩
      have frH4 := fr3.trans fr4
      have hsg4 := hsgF frH4
      have hgs : (sg.map V.int)[s]? = some (.int sg[s]) := by simp [hs]
      have hag : (sg[s].toNat : Nat) = arOf sg s := by
        unfold arOf
        rw [List.getD_eq_getElem?_getD, List.getElem?_eq_getElem hs]
        rfl
      obtain ⟨g0, g3⟩ := S.ar sg[s] (List.getElem_mem hs)
      -- inner = tuple([_law_draw(bag, many) for k in range(signature[symbol])])
      refine seq_cut (fun σ H' => ∃ (ip : Addr) (is : List Nat), σ = [some (.ref b), some (.ref a), some (.int n), some (.int m), some (.ref pp), w5, some (.ref rp), some (.ref kp), some (.int mm), some (.int s), some (.ref ip), v11, none, none] ∧ Fr [b, cl] H4 H' ∧ Bag H' b cl ∧ SqT K H' ip (is.map fun i : Nat => V.int (i : Int)) ∧ is.length = arOf sg s ∧ ∀ j ∈ is, j < mm) (fun Z hZ => ?_) ?_
      · refine ⟨_, rfl, _, rfl, a, _, s, _, rfl, rfl, .inr hsg4, atI_nat hgs, _, rfl, by omega, by omega, fun D hD => ?_⟩
        refine lcM (walk_range (lo := 0) (n := sg[s].toNat)) [b, cl] hD (fun i acc H' => ∃ cs : List Nat, acc = cs.map (fun i : Nat => V.int (i : Int)) ∧ (∀ x ∈ cs, x < mm) ∧ cs.length = i ∧ Bag H' b cl) ⟨[], rfl, (fun x hx => by cases hx), rfl, B4.new hD⟩ (fun _ _ _ _ _ => trivial) ?_ ?_
        · rintro i x acc H5 H6 Nx hN hi fr e ⟨cs, rfl, c1, c2, B5⟩ ⟨rfl, rfl⟩
          have hmm : 0 < mm := Nat.pos_of_ne_zero fun e => by
            have := hs0 e
            rw [List.getElem?_eq_getElem hs] at this
            have := Option.some.inj this
            omega
          have hm4 := X.le
          refine ⟨rfl, ?_⟩
          refine ⟨_, rfl, _, rfl, b, cl, mm, rfl, B5, by omega, by omega, fun r H7 r0 r1 B7 fr7 => ?_⟩
          obtain ⟨j, rfl⟩ := Int.eq_ofNat_of_zero_le r0
          refine ⟨_, fr7 _ _ e (B4.out hD), small_line (by simp; omega), hN _ _ upd_same ((fr.trans fr7).put (.inl hD)) ⟨cs ++ [j], by simp, fun x hx => ?_, by simp [c2], B7.upd' B4 hD⟩⟩
          rcases List.mem_append.mp hx with h | h
          · exact c1 x h
          · rw [List.mem_singleton.mp h]
            omega
        · rintro acc H5 fr e ⟨cs, rfl, c1, c2, B5⟩
          refine ⟨D, _, rfl, .inl ⟨SqL.of e, fun t ht => ?_⟩⟩
          exact hZ _ _ ⟨t, cs, rfl, fr.trans (Fr.new ht), B5.new ht, SqT.of upd_same, by omega, c1⟩
      rintro _ H5 ⟨ip, is, rfl, fr5, B5, hip, il, ic⟩
      have frH5 := frH4.trans fr5
      have hrp5 := (fr4.trans fr5) _ _ hrp3 nrp
      have hkp5 := (fr4.trans fr5) _ _ hkp3 nkp
      have hpp5 := (fr4.trans fr5) _ _ hpp3 npp
      have T35 : Tps K H3 H5 := (fr4.trans fr5).tps B3.mut
      have dx5 := DpAll.tps T35 _ _ (flatDs_all _ R rowD_flat) dx
      have dk5 := DpAll.tps T35 _ _ (flatDs_all _ R knD_flat) dk
      -- if (symbol, inner) not in known
      have m1' := X.le
      refine ⟨_, rfl, _, rfl, by show 2 ≤ sizeLine; decide, fun t ht => ⟨_, rfl, knD ⟨s, is, 0⟩, R.map knD, ?_, .inr ?_, ?_, _, rfl, ?_⟩⟩
      · exact .tup (SqT.of upd_same) (.cons (.int _) (.cons (Dp.of_nats ((Tps.new ht) _ _ hip)) .nil))
      · exact .lst (SqL.of ((Fr.new (M := []) ht) _ _ hkp5 (by simp))) (DpAll.tps (Tps.new ht) _ _ (flatDs_all _ R knD_flat) dk5)
      · rw [depth_knD]
        omega
      have S56 : Same H5 (upd H5 t (.tup [.int s, .ref ip])) := (Fr.new (M := []) ht).same
      have fr56 : Fr [b, cl] H5 (upd H5 t (.tup [.int s, .ref ip])) := Fr.new ht
      have B6 : Bag (upd H5 t (.tup [.int s, .ref ip])) b cl := B5.new ht
      have T56 : Tps K H5 (upd H5 t (.tup [.int s, .ref ip])) := Tps.new ht
      generalize upd H5 t (.tup [.int s, .ref ip]) = H6 at S56 fr56 B6 T56
      have dx6 := DpAll.tps T56 _ _ (flatDs_all _ R rowD_flat) dx5
      have dk6 := DpAll.tps T56 _ _ (flatDs_all _ R knD_flat) dk5
      have hanyR : ((R.map knD).any fun z => PyData.eqv z (knD ⟨s, is, 0⟩)) = decide (∃ r ∈ R, r.s = s ∧ r.is = is) := by
        rw [List.any_map]
        have : ((fun z => PyData.eqv z (knD ⟨s, is, 0⟩)) ∘ knD) = fun r => decide (r.s = s ∧ r.is = is) := by
          funext r
          exact knD_eqv r ⟨s, is, 0⟩
        rw [this]
        simp [List.any_eq, decide_eq_true_eq]
      rw [hanyR]
      refine ndec_b (fun hno => ?_) (fun hyes => ?_)
      · -- made
        have hno' : ∀ r ∈ R, ¬ (r.s = s ∧ r.is = is) := fun r hr q => hno ⟨r, hr, q⟩
        refine seq_cut (fun σ H' => ∃ (c : Nat), σ = [some (.ref b), some (.ref a), some (.int n), some (.int m), some (.ref pp), w5, some (.ref rp), some (.ref kp), some (.int mm), some (.int s), some (.ref ip), some (.int c), none, none] ∧ Fr [b, cl] H6 H' ∧ Bag H' b cl ∧ ((max mm (c + 1) : Nat) : Int) ≤ m) (fun Z hZ => ?_) ?_
        · have hcls : 0 < mm → ∀ (H' : Hp), Fr [b, cl] H6 H' → Bag H' b cl → ∀ r H7, 0 ≤ r → r < (mm : Int) → Bag H7 b cl → Fr [b, cl] H' H7 → Z ([some (.ref b), some (.ref a), some (.int n), some (.int m), some (.ref pp), w5, some (.ref rp), some (.ref kp), some (.int mm), some (.int s), some (.ref ip), some (.int r), none, none]) H7 := fun _ H' f1 b1 r H7 r0 r1 b7 f7 => by
            obtain ⟨j, rfl⟩ := Int.eq_ofNat_of_zero_le r0
            exact hZ _ _ ⟨j, rfl, f1.trans f7, b7, by omega⟩
          refine ⟨_, rfl, _, rfl, Or.inl ⟨_, _, rfl, rfl, _, rfl, ?_⟩⟩
          refine dec_b (fun hlt => ?_) (fun hge => ?_)
          · refine ⟨_, rfl, Or.inl ⟨rfl, _, rfl, ?_⟩⟩
            refine dec_b (fun h0 => ?_) (fun h0 => ?_)
            · exact ⟨_, rfl, hZ _ _ ⟨mm, rfl, Fr.refl _ _, B6, by omega⟩⟩
            · have hmm : 0 < mm := Nat.pos_of_ne_zero fun e => h0 (by rw [e]; rfl)
              refine ⟨_, rfl, b, cl, 2, rfl, B6, by decide, by decide, fun r H7 r0 r1 B7 fr7 => Or.inl ⟨rfl, _, rfl, ?_⟩⟩
              refine dec_b (fun h0 => ?_) (fun h0 => ?_)
              · exact ⟨_, rfl, hZ _ _ ⟨mm, rfl, fr7, B7, by omega⟩⟩
              · exact ⟨_, rfl, _, rfl, b, cl, mm, rfl, B7, by omega, by omega, hcls hmm _ fr7 B7⟩
          · have hmm : 0 < mm := by omega
            exact ⟨_, rfl, _, rfl, b, cl, mm, rfl, B6, by omega, by omega, hcls hmm _ (Fr.refl _ _) B6⟩
        rintro _ H7 ⟨c, rfl, fr7, B7, hcm⟩
        have fr57 := fr56.trans fr7
        have hrp7 := fr57 _ _ hrp5 nrp
        have hkp7 := fr57 _ _ hkp5 nkp
        have hpp7 := fr57 _ _ hpp5 npp
        have T57 : Tps K H5 H7 := fr57.tps B5.mut
        have dx7 := DpAll.tps T57 _ _ (flatDs_all _ R rowD_flat) dx5
        have dk7 := DpAll.tps T57 _ _ (flatDs_all _ R knD_flat) dk5
        have hip7 := T57 _ _ hip
        have len_le : ∀ {α : Type} {ds : List PyData} {ws : List V} {l : List α} {g : α → PyData}, DpAll K H7 ws (l.map g) → l.length ≤ 11 → ws.length < sizeLine := fun h1 h2 => small_line (by rw [DpAll.len h1, List.length_map]; omega)
        -- known.append((symbol, inner))
        refine ⟨_, rfl, .inl ⟨rfl, _, SqL.of hkp7⟩, _, rfl, _, rfl, by show 2 ≤ sizeLine; decide, fun t1 ht1 => ⟨kp, ks, .ref t1, rfl, rfl, (Fr.new (M := []) ht1) _ _ hkp7 (by simp), len_le (ds := []) dk7 (by omega), ?_⟩⟩
        have nt1 : ∀ {p : Addr} {o : HO}, H7 p = some o → p ≠ t1 := fun h e => by rw [e, ht1] at h; cases h
        have hip8 : SqT K (upd (upd H7 t1 (.tup [.int s, .ref ip])) kp (.lst (ks ++ [.ref t1]))) ip (is.map fun i : Nat => V.int (i : Int)) := (Tps.mut (o := .lst (ks ++ [.ref t1])) (u := .lst ks) ((Fr.new (M := []) ht1) _ _ hkp7 (by simp)) trivial) _ _ ((Tps.new ht1) _ _ hip7)
        have T78 : Tps K H7 (upd (upd H7 t1 (.tup [.int s, .ref ip])) kp (.lst (ks ++ [.ref t1]))) := (Tps.new ht1).trans (Tps.mut (u := .lst ks) ((Fr.new (M := []) ht1) _ _ hkp7 (by simp)) trivial)
        have e8 : upd (upd H7 t1 (.tup [.int s, .ref ip])) kp (.lst (ks ++ [.ref t1])) t1 = some (.tup [.int s, .ref ip]) := by rw [upd_ne (nt1 hkp7).symm, upd_same]
        have dk8 : DpAll K (upd (upd H7 t1 (.tup [.int s, .ref ip])) kp (.lst (ks ++ [.ref t1]))) (ks ++ [.ref t1]) ((R ++ [(⟨s, is, c⟩ : Row)]).map knD) := by
          rw [List.map_append]
          have d1 : Dp K (upd (upd H7 t1 (.tup [.int s, .ref ip])) kp (.lst (ks ++ [.ref t1]))) (.ref t1) (knD ⟨s, is, c⟩) := .tup (SqT.of e8) (.cons (.int _) (.cons (Dp.of_nats hip8) .nil))
          exact DpAll.app (DpAll.tps T78 _ _ (flatDs_all _ R knD_flat) dk7) (.cons d1 .nil)
        have hrp8 : upd (upd H7 t1 (.tup [.int s, .ref ip])) kp (.lst (ks ++ [.ref t1])) rp = some (.lst xs) := by rw [upd_ne rk, upd_ne (nt1 hrp7)]; exact hrp7
        have hkp8 : upd (upd H7 t1 (.tup [.int s, .ref ip])) kp (.lst (ks ++ [.ref t1])) kp = some (.lst (ks ++ [.ref t1])) := upd_same
        have hpp8 : upd (upd H7 t1 (.tup [.int s, .ref ip])) kp (.lst (ks ++ [.ref t1])) pp = some (.lst (ps.map V.int)) := by rw [upd_ne ppkp, upd_ne (nt1 hpp7)]; exact hpp7
        have fr8 : Fr [b, cl] H (upd (upd H7 t1 (.tup [.int s, .ref ip])) kp (.lst (ks ++ [.ref t1]))) := ((frH5.trans fr57).trans (Fr.new ht1)).put (.inl kp0)
        have B8 : Bag (upd (upd H7 t1 (.tup [.int s, .ref ip])) kp (.lst (ks ++ [.ref t1]))) b cl := (B7.new ht1).upd' B kp0
        have dx8 := DpAll.tps T78 _ _ (flatDs_all _ R rowD_flat) dx7
        generalize upd (upd H7 t1 (.tup [.int s, .ref ip])) kp (.lst (ks ++ [.ref t1])) = H8 at hip8 T78 e8 dk8 hrp8 hkp8 hpp8 fr8 B8 dx8
        -- rows.append((symbol, inner, made))
        refine ⟨_, rfl, .inl ⟨rfl, _, SqL.of hrp8⟩, _, rfl, _, rfl, _, rfl, by show 3 ≤ sizeLine; decide, fun t2 ht2 => ⟨rp, xs, .ref t2, rfl, rfl, (Fr.new (M := []) ht2) _ _ hrp8 (by simp), ?_, ?_⟩⟩
        · have := DpAll.len dx8
          rw [List.length_map] at this
          exact small_line (by omega)
        have nt2 : ∀ {p : Addr} {o : HO}, H8 p = some o → p ≠ t2 := fun h e => by rw [e, ht2] at h; cases h
        have T89 : Tps K H8 (upd (upd H8 t2 (.tup [.int s, .ref ip, .int c])) rp (.lst (xs ++ [.ref t2]))) := (Tps.new ht2).trans (Tps.mut (u := .lst xs) ((Fr.new (M := []) ht2) _ _ hrp8 (by simp)) trivial)
        have e9 : upd (upd H8 t2 (.tup [.int s, .ref ip, .int c])) rp (.lst (xs ++ [.ref t2])) t2 = some (.tup [.int s, .ref ip, .int c]) := by rw [upd_ne (nt2 hrp8).symm, upd_same]
        -- many = max(many, made + 1)
        refine ⟨_, rfl, _, rfl, Or.inl ⟨_, _, rfl, rfl, _, _, rfl, ?_⟩⟩
        have em : (if ((c : Int) + 1) > (mm : Int) then ((c : Int) + 1) else (mm : Int)) = ((max mm (c + 1) : Nat) : Int) := by
          split <;> omega
        rw [em]
        have d2 : Dp K (upd (upd H8 t2 (.tup [.int s, .ref ip, .int c])) rp (.lst (xs ++ [.ref t2]))) (.ref t2) (rowD ⟨s, is, c⟩) := .tup (SqT.of e9) (.cons (.int _) (.cons (Dp.of_nats (T89 _ _ hip8)) (.cons (.int _) .nil)))
        refine ⟨w5, _, _, _, R ++ [⟨s, is, c⟩], max mm (c + 1), xs ++ [.ref t2], ks ++ [.ref t1], rfl, (fr8.trans (Fr.new ht2)).put (.inl rp0), (B8.new ht2).upd' B rp0, upd_same, ?_, ?_, ?_, ?_, ?_, ?_, fun _ => by simp⟩
        · rw [List.map_append]
          exact DpAll.app (DpAll.tps T89 _ _ (flatDs_all _ R rowD_flat) dx8) (.cons d2 .nil)
        · rw [upd_ne rk.symm, upd_ne (nt2 hkp8)]
          exact hkp8
        · exact DpAll.tps T89 _ _ (flatDs_all _ _ knD_flat) dk8
        · rw [upd_ne pprp, upd_ne (nt2 hpp8)]
          exact hpp8
        · refine X.add hs il ic (fun e => ?_) hno' (by omega) hcm
          have := hs0 e
          have h2 : arOf sg s = 0 := by
            unfold arOf
            rw [List.getD_eq_getElem?_getD, this]
            rfl
          rw [h2] at il
          exact List.eq_nil_of_length_eq_zero il
        · simp
          omega
      · refine ⟨w5, _, _, _, R, mm, xs, ks, rfl, frH5.trans fr56, B6, S56 _ _ hrp5, dx6, S56 _ _ hkp5, dk6, S56 _ _ hpp5, X, by omega, fun _ => ?_⟩
        rintro rfl
        obtain ⟨r, hr, _⟩ := hyes
        cases hr
    · rintro _ H3 ⟨v5, v9, v10, v11, R, mm, xs, ks, rfl, fr3, B3, hrp3, dx, hkp3, dk, hpp3, X, hl, hne⟩
      exact hZ _ _ ⟨v5, v9, v10, v11, R, mm, xs, rfl, fr3, B3, hrp3, dx, X, by omega, hne (by omega)⟩
  · rintro _ H3 ⟨v5, v9, v10, v11, R, mm, xs, rfl, fr3, B3, hrp3, dx, X, hl, hne⟩
    refine ⟨_, rfl, k rp xs R H3 B3 fr3 rp0 hrp3 dx (X.ok S m2 hl hne) (fun r hr => ?_) fun r hr => (X.ar r hr).1⟩
    have h1 := X.cl r hr
    have h2 := X.le
    exact ⟨by omega, fun j hj => by have := h1.2 j hj; omega⟩
end
end R59
/-! W7 -/
set_option maxHeartbeats 1000000
namespace R59
open PySem PyProof.Rows L2 KB PySem.W
abbrev ki (c : Nat) : Key := Sum.inl (c : Int)
/-- the dict of the best at d -/
structure Bst (K : PySem.W.Frag) (H : Hp) (d : Addr) (ks : List Nat) (B : Bsts) : Prop where
  ex : ∃ kvs : List (Key × V), H d = some (.dK kvs) ∧ kvs.map (·.1) = ks.map ki ∧ ∀ c t, B c = some t → ∃ v, valV kvs (ki c) = some v ∧ Dp K H v (bstD t)
theorem ki_inj {a b : Nat} (h : ki a = ki b) : a = b := by
  have := Sum.inl.inj h
  omega
theorem valV_out {kvs : List (Key × V)} {k : Key} (h : k ∉ kvs.map (·.1)) : valV kvs k = none := by
  cases e : valV kvs k with
  | none => rfl
  | some v => exact absurd (valV_in e) h
theorem Bst.some {K : PySem.W.Frag} {H : Hp} {d : Addr} {ks : List Nat} {B : Bsts} (b : Bst K H d ks B) {c : Nat} {t : Tm} (h : B c = some t) : ∃ v, DGet H d (.int c) (some v) ∧ Dp K H v (bstD t) := by
  obtain ⟨kvs, h1, h2, h3⟩ := b.ex
  obtain ⟨v, e, dv⟩ := h3 c t h
  exact ⟨v, by rw [← e]; exact DGet.k (k := ki c) h1, dv⟩
theorem Bst.none {K : PySem.W.Frag} {H : Hp} {d : Addr} {ks : List Nat} {B : Bsts} (b : Bst K H d ks B) {c : Nat} (h : c ∉ ks) : DGet H d (.int c) none := by
  obtain ⟨kvs, h1, h2, h3⟩ := b.ex
  have : valV kvs (ki c) = Option.none := valV_out (by
    rw [h2]
    intro m
    obtain ⟨x, hx, e⟩ := List.mem_map.mp m
    exact h (ki_inj e ▸ hx))
  rw [← this]
  exact DGet.k (k := ki c) h1
theorem Bst.in {K : PySem.W.Frag} {H : Hp} {d : Addr} {ks : List Nat} {B : Bsts} {R : List Row} (b : Bst K H d ks B) (O : BOk R ks B) (c : Nat) : ∃ o, DGet H d (.int c) o ∧ o.isSome = (B c).isSome := by
  cases e : B c with
  | none =>
    refine ⟨Option.none, b.none fun m => ?_, rfl⟩
    have := (O.dom c).mpr m
    rw [e] at this
    cases this
  | some t =>
    obtain ⟨v, h1, _⟩ := b.some e
    exact ⟨_, h1, rfl⟩
theorem Bst.tps {K : PySem.W.Frag} {H H' : Hp} {d : Addr} {ks : List Nat} {B : Bsts} (b : Bst K H d ks B) (t : Tps K H H') (h : H' d = H d) : Bst K H' d ks B := by
  obtain ⟨kvs, h1, h2, h3⟩ := b.ex
  refine ⟨kvs, h.trans h1, h2, fun c u e => ?_⟩
  obtain ⟨v, e1, dv⟩ := h3 c u e
  exact ⟨v, e1, Dp.tps t _ _ (bstD_flat u) dv⟩
theorem Bst.at {K : PySem.W.Frag} {H : Hp} {d : Addr} {ks : List Nat} {B : Bsts} (b : Bst K H d ks B) : ∃ kvs, H d = Option.some (.dK kvs) := by
  obtain ⟨kvs, h1, _⟩ := b.ex
  exact ⟨kvs, h1⟩
theorem Bst.same {K : PySem.W.Frag} {H H' : Hp} {d : Addr} {ks : List Nat} {B : Bsts} (b : Bst K H d ks B) (s : Same H H') : Bst K H' d ks B := by
  obtain ⟨kvs, h1⟩ := b.at
  exact b.tps (.same s) ((s _ _ h1).trans h1.symm)
theorem keys_put {kvs : List (Key × V)} {ks : List Nat} (h : kvs.map (·.1) = ks.map ki) (c : Nat) (v : V) : (putK kvs (ki c) v).map (·.1) = (putS ks c).map ki := by
  unfold putK putS
  have e : (kvs.any fun kv => decide (kv.1 = ki c)) = decide (c ∈ ks) := by
    rw [valV_any]
    by_cases hc : c ∈ ks
    · have : ki c ∈ kvs.map (·.1) := by rw [h]; exact List.mem_map_of_mem hc
      cases e : valV kvs (ki c) with
      | none => exact absurd this (valV_not e)
      | some v => simp [hc]
    · have : ki c ∉ kvs.map (·.1) := by
        rw [h]
        intro m
        obtain ⟨x, hx, e⟩ := List.mem_map.mp m
        exact hc (ki_inj e ▸ hx)
      rw [valV_out this]
      simp [hc]
  rw [e]
  by_cases hc : c ∈ ks
  · rw [if_pos (decide_eq_true hc), if_pos hc, ← h, List.map_map]
    refine List.map_congr_left fun kv _ => ?_
    show (if kv.1 = ki c then (kv.1, v) else kv).1 = kv.1
    by_cases q : kv.1 = ki c
    · rw [if_pos q]
    · rw [if_neg q]
  · rw [if_neg (by simpa using hc), if_neg hc, List.map_append, h, List.map_append]
    rfl
theorem Bst.put {K : PySem.W.Frag} {H : Hp} {d : Addr} {ks : List Nat} {B : Bsts} (b : Bst K H d ks B) (hl : ks.length < sizeLine) {c : Nat} {t : Tm} {v : V} (hv : Dp K H v (bstD t)) : ∃ H', DPut H d (.int c) v H' ∧ Bst K H' d (putS ks c) (putB B c t) ∧ (∃ o, H' = upd H d o) ∧ Tps K H H' := by
  obtain ⟨kvs, h1, h2, h3⟩ := b.ex
  have hl' : kvs.length < sizeLine := by
    have := congrArg List.length h2
    rw [List.length_map, List.length_map] at this
    omega
  have T : Tps K H (upd H d (.dK (putK kvs (ki c) v))) := .mut h1 trivial
  refine ⟨_, DPut.k (k := ki c) h1 hl', ⟨_, upd_same, keys_put h2 c v, fun x u e => ?_⟩, ⟨_, rfl⟩, T⟩
  rw [valV_put]
  unfold putB at e
  by_cases hx : x = c
  · subst hx
    rw [if_pos rfl] at e
    cases e
    exact ⟨v, if_pos rfl, Dp.tps T _ _ (bstD_flat t) hv⟩
  · rw [if_neg hx] at e
    obtain ⟨w, e1, dw⟩ := h3 x u e
    exact ⟨w, by rw [if_neg fun q => hx (ki_inj q)]; exact e1, Dp.tps T _ _ (bstD_flat u) dw⟩
theorem Dp.row {K : PySem.W.Frag} {H : Hp} {v : V} {r : Row} (h : Dp K H v (rowD r)) : ∃ a ia, v = .ref a ∧ SqT K H a [.int (r.s : Int), .ref ia, .int (r.c : Int)] ∧ SqT K H ia (r.is.map fun i : Nat => V.int (i : Int)) := by
  obtain ⟨a, ys, rfl, h1, h2⟩ := Dp.tupOf h
  cases h2 with
  | cons d1 h2 =>
  cases h2 with
  | cons d2 h2 =>
  cases h2 with
  | cons d3 h2 =>
  cases h2
  cases d1
  cases d3
  rw [isD_ints] at d2
  obtain ⟨ia, rfl, q⟩ := Dp.tupInts d2
  refine ⟨a, ia, rfl, h1, ?_⟩
  rw [List.map_map] at q
  exact q
theorem Dp.bst {K : PySem.W.Frag} {H : Hp} {v : V} {t : Tm} (h : Dp K H v (bstD t)) : ∃ a sa w, v = .ref a ∧ SqT K H a [.int (t.size : Int), .ref sa, w] ∧ SqT K H sa (t.syms.map V.int) ∧ Dp K H w (tmD t) := by
  obtain ⟨a, ys, rfl, h1, h2⟩ := Dp.tupOf h
  cases h2 with
  | cons d1 h2 =>
  cases h2 with
  | cons d2 h2 =>
  cases h2 with
  | cons d3 h2 =>
  cases h2
  cases d1
  obtain ⟨sa, rfl, q⟩ := Dp.tupInts d2
  exact ⟨a, sa, _, rfl, h1, q, d3⟩
theorem less_iff (t u : Tm) : dataLt (.tuple [.int (t.size : Int), .tuple (t.syms.map .int)]) (.tuple [.int (u.size : Int), .tuple (u.syms.map .int)]) = true ↔ lessB t u := by
  rw [lt_int_cons, lt_ints_cons, lt_nil]
  unfold lessB
  simp only [Bool.or_eq_true, Bool.and_eq_true, decide_eq_true_eq, Bool.and_false, Bool.or_false]
  constructor
  · rintro (h | ⟨h1, h2⟩)
    · exact .inl (by omega)
    · exact .inr ⟨by omega, h2⟩
  · rintro (h | ⟨h1, h2⟩)
    · exact .inl (by omega)
    · exact .inr ⟨by omega, h2⟩
theorem t_cut {tt : TT} {σ : L2.St} {H : Hp} {Q : Bool → Hp → Prop} (Mid : Bool → Hp → Prop) (h1 : ∀ Z : Bool → Hp → Prop, (∀ b H, Mid b H → Z b H) → tt σ H Z) (h2 : ∀ b H, Mid b H → Q b H) : tt σ H Q := h1 Q h2
theorem sum_sizes : ∀ ts : List Tm, (ts.map fun t => (t.size : Int)).sum = (sizes ts : Int)
  | [] => rfl
  | t :: ts => by
    rw [List.map_cons, List.sum_cons, sum_sizes ts, sizes]
    omega
theorem if_cut {c : TT} {t u : TS} {D : Ends} {σ : L2.St} {H : Hp} (Mid : Bool → Hp → Prop) (h1 : ∀ Z : Bool → Hp → Prop, (∀ b H, Mid b H → Z b H) → c σ H Z) (h2 : ∀ b H, Mid b H → if b = true then t D σ H else u D σ H) : tIfS c t u D σ H := h1 _ h2
theorem sizes_take : ∀ (ts : List Tm) (j : Nat), sizes (ts.take j) ≤ sizes ts
  | [], j => by simp
  | t :: ts, 0 => by rw [List.take_zero]; exact Nat.zero_le _
  | t :: ts, j + 1 => by
    rw [List.take_succ_cons, sizes, sizes]
    have := sizes_take ts j
    omega
theorem symsL_app : ∀ a b : List Tm, symsL (a ++ b) = symsL a ++ symsL b
  | [], b => rfl
  | t :: a, b => by rw [List.cons_append, symsL, symsL, symsL_app a b, List.append_assoc]
theorem tmDs_app (a b : List Tm) : tmDs (a ++ b) = tmDs a ++ tmDs b := by rw [tmDs_map, tmDs_map, tmDs_map, List.map_append]
theorem take_get {α : Type} {l : List α} {j : Nat} {x : α} (h : l[j]? = some x) : l.take (j + 1) = l.take j ++ [x] := by
  rw [List.take_succ, h]
  rfl
section
variable {P : Program} {w : World} {K : PySem.W.Frag} {mg : Str → Option Value} {base : Heap} {f : Addr} {fd : FuncData}
/-! ### _law_leasts -/
abbrev s_law_leasts : Stmt := top 28
abbrev N_law_leasts : List Str := ["rows", "best", "is_new", "symbol", "inner", "made", "size", "signs", "one"]
theorem sc_law_leasts : FnScope N_law_leasts ["rows"] (defScope s_law_leasts) := ⟨rfl, rfl, rfl, by decide +kernel, rfl, by decide +kernel, by decide +kernel⟩
def spLeasts (K : PySem.W.Frag) : Sp := fun vs H Q _ => ∃ (rp : Addr) (xs : List V) (R : List Row) (ar : Nat → Nat), vs = [.ref rp] ∧ H rp = some (.lst xs) ∧ DpAll K H xs (R.map rowD) ∧ RwOk ar R ∧
  ∀ (d : Addr) (ks : List Nat) (B : Bsts) (H' : Hp), Same H H' → H d = none → Bst K H' d ks B → BOk R ks B → (∀ r ∈ R, Done B r) → Q (.ref d) H'
set_option maxHeartbeats 4000000 in
theorem ok_leasts (F : FnP K "_law_leasts" "_law_leasts" s_law_leasts f fd) (T : Nm mg) : FnOk P w K mg base CX0 1 f fd ["rows"] (spLeasts K) := by
  refine F.ok sc_law_leasts (fun vs H Q E h => ?_) (fun cdv A outer s H vs Q E hr h => ?_)
  · obtain ⟨rp, xs, R, ar, rfl, _⟩ := h
    rfl
  obtain ⟨rp, xs, R, ar, rfl, hrp, dx, ok, k⟩ := h
  have hq := hq_of hr
  have hu := hu_of hr
  refine ⟨_, PSs.nox
  (pss_cons (ps_asg (pe_tup (pa_cons pe_dnewK (pa_cons pe_bl pa_nil))) (pg_tupK (n := 2) K rfl (pgs_cons (pg_name (i := 1) sc_law_leasts.nd rfl (Or.inr rfl)) (pgs_cons (pg_name (i := 2) sc_law_leasts.nd rfl (Or.inl rfl)) pgs_nil))))
      (pss_cons (ps_while PassesOwn.never (pt_val (pv 2)) (pss_cons (ps_set (i := 2) sc_law_leasts.nd rfl (Or.inl rfl) pe_bl)
      (pss_one (ps_for PassesOwn.never rfl (pi_listK K (pv 0)) (pg_tupK (n := 3) K rfl (pgs_cons (pg_name (i := 3) sc_law_leasts.nd rfl (Or.inl rfl)) (pgs_cons (pg_name (i := 4) sc_law_leasts.nd rfl (Or.inl rfl)) (pgs_cons (pg_name (i := 5) sc_law_leasts.nd rfl (Or.inl rfl)) pgs_nil)))) (pss_one (ps_if (pt_val (pe_callB (cr_allK K rfl) (by rfl) T.all bt_all (pa_cons (pe_lc (own := [("one", 8)]) rfl sc_law_leasts.nd (pi_tupK K (pv 4)) (blkOk_by (N := N_law_leasts) (sc := defScope s_law_leasts) (by decide +kernel)) (fun _ _ _ _ _ => (pg_name (i := 8) sc_law_leasts.nd rfl (Or.inl rfl))) (fun _ _ _ _ _ => pts_nil) (fun _ _ _ _ _ => (pe_cmp (pc_din hu (pv 8) (pv 1)) rfl))) pa_nil))) (pss_cons (ps_set (i := 6) sc_law_leasts.nd rfl (Or.inl rfl) (pe_op (op_addK K) pe_int (pe_callB (cr_sumK K rfl) (by rfl) T.sum bt_sum (pa_cons (pe_lc (own := [("one", 8)]) rfl sc_law_leasts.nd (pi_tupK K (pv 4)) (blkOk_by (N := N_law_leasts) (sc := defScope s_law_leasts) (by decide +kernel)) (fun _ _ _ _ _ => (pg_name (i := 8) sc_law_leasts.nd rfl (Or.inl rfl))) (fun _ _ _ _ _ => pts_nil) (fun _ _ _ _ _ => (pe_ix (ix_K K) (pe_dget hu (pv 1) (pv 8) (fun _ _ => rfl)) pe_int (fun _ _ => rfl)))) pa_nil))))
      (pss_one (ps_if (PW.pt (pw_and (pt_cmpR op_le (pv 6) pe_int (nomark _)) (pw_and1 (PW.pt (pw_or (pt_cmp (pc_dnotin hu (pv 5) (pv 1))) (pw_or1 (pt_cmpR op_le (pv 6) (pe_ix (ix_K K) (pe_dget hu (pv 1) (pv 5) (fun _ _ => rfl)) pe_int (fun _ _ => rfl)) (nomark _)))))))) (pss_cons (ps_set (i := 7) sc_law_leasts.nd rfl (Or.inl rfl) (pe_tup (pa_cons (pv 3) pa_nil)))
      (pss_cons (ps_for PassesOwn.never rfl (pi_tupK K (pv 4)) (pg_name (i := 8) sc_law_leasts.nd rfl (Or.inl rfl)) (pss_one (ps_set (i := 7) sc_law_leasts.nd rfl (Or.inl rfl) (pe_op (op_addK K) (pv 7) (pe_ix (ix_K K) (pe_dget hu (pv 1) (pv 8) (fun _ _ => rfl)) pe_int (fun _ _ => rfl))))))
      (pss_one (ps_if (PW.pt (pw_or (pt_cmp (pc_dnotin hu (pv 5) (pv 1))) (pw_or1 (pt_cmpR (op_ltK K hq) (pe_tup (pa_cons (pv 6) (pa_cons (pv 7) pa_nil))) (pe_slice (sl_tupK K) (pe_dget hu (pv 1) (pv 5) (fun _ _ => rfl)) po_none (po_some pe_int)) (nomark _))))) (pss_cons (ps_dput hu (pv 1) (pv 5) (pe_tup (pa_cons (pv 6) (pa_cons (pv 7) (pa_cons (pe_op (op_addK K) (pe_tup (pa_cons (pv 3) pa_nil)) (pe_callTy (cr_tupleK K) (by rfl) T.tuple bt_tuple (pa_cons (pe_lc (own := [("one", 8)]) rfl sc_law_leasts.nd (pi_tupK K (pv 4)) (blkOk_by (N := N_law_leasts) (sc := defScope s_law_leasts) (by decide +kernel)) (fun _ _ _ _ _ => (pg_name (i := 8) sc_law_leasts.nd rfl (Or.inl rfl))) (fun _ _ _ _ _ => pts_nil) (fun _ _ _ _ _ => (pe_ix (ix_K K) (pe_dget hu (pv 1) (pv 8) (fun _ _ => rfl)) pe_int (fun _ _ => rfl)))) pa_nil))) pa_nil)))) rfl)
      (pss_one (ps_set (i := 2) sc_law_leasts.nd rfl (Or.inl rfl) pe_bl))) pss_nil)))) pss_nil))) pss_nil))))))
      (pss_one (ps_ret (pv 1))))), ?_⟩
  -- best, is_new = ({}, True)
  refine seq_cut (fun σ H' => ∃ d, σ = [some (.ref rp), some (.ref d), some (.bl true), none, none, none, none, none, none] ∧ Same H H' ∧ H d = none ∧ Bst K H' d [] (fun _ => none)) (fun Z hZ => ?_) ?_
  · refine fun d hd => ⟨by show 2 ≤ sizeLine; decide, fun t ht => ⟨t, _, rfl, SqT.of upd_same, rfl, _, _, rfl, _, _, rfl, rfl, ?_⟩⟩
    exact hZ _ _ ⟨d, rfl, ((Fr.new (M := []) hd).trans (Fr.new ht)).same, hd, [], (Fr.new (M := []) ht) _ _ upd_same (by simp), rfl, fun c t e => by cases e⟩
  rintro _ H1 ⟨d, rfl, s1, d0, b1⟩
  refine seq_cut (fun σ H' => ∃ (ks : List Nat) (B : Bsts) (v2 v3 v4 v5 v6 v7 v8 : Option V), σ = [some (.ref rp), some (.ref d), v2, v3, v4, v5, v6, v7, v8] ∧ Same H H' ∧ Bst K H' d ks B ∧ BOk R ks B ∧ ∀ r ∈ R, Done B r) (fun Z hZ => ?_) ?_
  · refine while_d (fun m σ H' => ∃ (ks : List Nat) (B : Bsts) (fl : Bool) (v3 v4 v5 v6 v7 v8 : Option V), σ = [some (.ref rp), some (.ref d), some (.bl fl), v3, v4, v5, v6, v7, v8] ∧ Same H H' ∧ Bst K H' d ks B ∧ BOk R ks B ∧ (fl = false → ∀ r ∈ R, Done B r) ∧ m = (if fl = true then mu R B + 1 else 0))
      ⟨_, [], _, true, none, none, none, none, none, none, rfl, s1, b1, BOk.nil, (fun e => by cases e), rfl⟩ ?_
    rintro m _ H2 ⟨ks, B, fl, v3, v4, v5, v6, v7, v8, rfl, s2, b2, O2, hfl, hm⟩
    refine ⟨_, rfl, _, rfl, ?_⟩
    cases fl with
    | false => exact hZ _ _ ⟨ks, B, _, _, _, _, _, _, _, rfl, s2, b2, O2, hfl rfl⟩
    | true =>
      refine ⟨_, fun σ' H' h => h, ?_⟩
      -- is_new = False; for symbol, inner, made in rows
      have dxS : ∀ {H'}, Same H H' → DpAll K H' xs (R.map rowD) := fun s => DpAll.tps (.same s) _ _ (flatDs_all _ R rowD_flat) dx
      have lxR : xs.length = R.length := by
        rw [DpAll.len dx, List.length_map]
      refine ⟨_, rfl, rp, rfl, ⟨_, SqL.of (s2 _ _ hrp)⟩, ?_⟩
      refine for_it (walk_list (xs := xs)) (fun i σ H' => ∃ (ks' : List Nat) (B' : Bsts) (fl : Bool) (v3 v4 v5 v6 v7 v8 : Option V), σ = [some (.ref rp), some (.ref d), some (.bl fl), v3, v4, v5, v6, v7, v8] ∧ Same H H' ∧ Bst K H' d ks' B' ∧ BOk R ks' B' ∧
        (fl = true → mu R B' < mu R B) ∧ (fl = false → B' = B ∧ ∀ (j : Nat) r, j < i → R[j]? = some r → Done B r)) ?_ (fun i σ H' _ h => ?_) ?_ ?_
      · exact ⟨ks, B, false, v3, v4, v5, v6, v7, v8, rfl, s2, b2, O2, (fun e => by cases e), fun _ => ⟨rfl, fun j r hj => by omega⟩⟩
      · obtain ⟨_, _, _, _, _, _, _, _, _, _, s3, _⟩ := h
        exact SqL.of (s3 _ _ hrp)
      · rintro i x _ H3' H3 hi ⟨ks3, B3, fl, w3, w4, w5, w6, w7, w8, rfl, s3, b3, O3, hf1, hf2⟩ ⟨rfl, hx⟩
        obtain ⟨dd, ed, dr⟩ := DpAll.get' (dxS s3) hx
        rw [List.getElem?_map] at ed
        cases er : R[i]? with
        | none =>
          rw [er] at ed
          cases ed
        | some r =>
        rw [er] at ed
        obtain rfl := Option.some.inj ed
        have hrR := List.mem_of_getElem? er
        obtain ⟨ra, ia, rfl, hra, hia⟩ := Dp.row dr
        refine ⟨ra, _, rfl, hra, rfl, _, _, rfl, _, _, rfl, _, _, rfl, rfl, ?_⟩
        dsimp only [gName]
        -- what the turn leaves
        have keep : ∀ (u6 u7 u8 : Option V) (H' : Hp), Same H H' → Bst K H' d ks3 B3 → (fl = false → Done B r) → ∃ (ks' : List Nat) (B' : Bsts) (fl' : Bool) (v3 v4 v5 v6 v7 v8 : Option V),
            [some (V.ref rp), some (.ref d), some (.bl fl), some (.int r.s), some (.ref ia), some (.int r.c), u6, u7, u8] = [some (V.ref rp), some (.ref d), some (.bl fl'), v3, v4, v5, v6, v7, v8] ∧ Same H H' ∧ Bst K H' d ks' B' ∧ BOk R ks' B' ∧
            (fl' = true → mu R B' < mu R B) ∧ (fl' = false → B' = B ∧ ∀ (j : Nat) r, j < i + 1 → R[j]? = some r → Done B r) 
            := fun u6 u7 u8 H' s' b' hd => by
          refine ⟨ks3, B3, fl, _, _, _, _, _, _, rfl, s', b', O3, hf1, fun e => ⟨(hf2 e).1, fun j r' hj hr' => ?_⟩⟩
          by_cases hji : j = i
          · subst hji
            rw [er] at hr'
            cases hr'
            exact hd e
          · exact (hf2 e).2 j r' (by omega) hr'
        have ilen : r.is.length ≤ 3 := by
          rw [ok.a3 r hrR]
          exact ok.ar3 _
        have giN : ∀ {i : Nat} {x : V}, (r.is.map fun i : Nat => V.int (i : Int))[i]? = some x → ∃ c, r.is[i]? = some c ∧ x = .int (c : Int) := fun {i x} h => by
          rw [List.getElem?_map] at h
          cases e : r.is[i]? with
          | none =>
            rw [e] at h
            cases h
          | some c =>
            rw [e] at h
            exact ⟨c, rfl, (Option.some.inj h).symm⟩
        -- if all([one in best for one in inner])
        refine ⟨_, rfl, ia, rfl, ⟨_, hia⟩, fun D hD => ?_⟩
        refine lcM (walk_tup (xs := r.is.map fun i : Nat => V.int (i : Int))) [] hD (fun i acc H' => acc = (r.is.take i).map fun c => V.bl (B3 c).isSome) rfl (fun i acc H' fr _ => (Tps.same fr.same) _ _ hia) ?_ ?_
        · rintro j y acc H4 H5 Nx hN hj fr e rfl ⟨rfl, hy⟩
          obtain ⟨c, hc, rfl⟩ := giN hy
          obtain ⟨o, ho, eo⟩ := (b3.same fr.same).in O3 c
          refine ⟨rfl, ?_⟩
          refine ⟨_, rfl, _, rfl, d, o, rfl, ho, _, e, small_line (by simp; omega), hN _ _ upd_same (fr.put (.inl hD)) ?_⟩
          rw [eo, List.take_succ, hc, List.map_append]
          rfl
        rintro acc H4 fr4 e4 rfl
        have s4 := s3.trans fr4.same
        have b4 := b3.same fr4.same
        have hia4 := (Tps.same fr4.same) _ _ hia
        have etk : (r.is.take (r.is.map fun i : Nat => V.int (i : Int)).length) = r.is := by
          rw [List.length_map, List.take_length]
        rw [etk] at e4
        refine ⟨D, r.is.map fun c => (B3 c).isSome, rfl, SqL.of (by rw [e4, List.map_map]; rfl), _, rfl, ?_⟩
        cases hall : (r.is.map fun c => (B3 c).isSome).all id with
        | false =>
          refine keep _ _ _ H4 s4 b4 fun efl => ?_
          intro ts hts
          rw [← (hf2 efl).1] at hts
          have : (r.is.map fun c => (B3 c).isSome).all id = true := by
            rw [List.all_map]
            refine List.all_eq_true.mpr fun c hc => ?_
            obtain ⟨j, hj⟩ := List.mem_iff_getElem?.mp hc
            have ka := kidsB_all hts
            have hl := ka.len
            have hj2 := (List.getElem?_eq_some_iff.mp hj).1
            have q := ka.get j _ _ (List.getElem?_eq_getElem (by omega)) hj
            show (B3 c).isSome = true
            rw [q]
            rfl
          rw [this] at hall
          cases hall
        | true =>
        obtain ⟨ts, hts⟩ := kidsB_some (B := B3) (is := r.is) fun c hc => by
          rw [List.all_map] at hall
          exact List.all_eq_true.mp hall c hc
        have ka := kidsB_all hts
        have kl := ka.len
        have kid : ∀ {j : Nat} {c : Nat}, r.is[j]? = some c → ∃ t, ts[j]? = some t ∧ B3 c = some t := fun {j c} hj => by
          have hj2 := (List.getElem?_eq_some_iff.mp hj).1
          exact ⟨_, List.getElem?_eq_getElem (by omega), ka.get j _ _ (List.getElem?_eq_getElem (by omega)) hj⟩
        have tkall : ts.take (r.is.map fun i : Nat => V.int (i : Int)).length = ts := by
          rw [List.length_map, ← kl, List.take_length]
        -- size = 1 + sum([best[one][0] for one in inner])
        refine iteT ?_
        refine seq_cut (fun σ H' => σ = [some (.ref rp), some (.ref d), some (.bl fl), some (.int r.s), some (.ref ia), some (.int r.c), some (.int (1 + (sizes ts : Int))), w7, w8] ∧ Same H4 H') (fun Z hZ => ?_) ?_
        · refine ⟨_, rfl, ia, rfl, ⟨_, hia4⟩, fun D2 hD2 => ?_⟩
          refine lcM (walk_tup (xs := r.is.map fun i : Nat => V.int (i : Int))) [] hD2 (fun i acc H' => acc = (ts.take i).map fun t => V.int (t.size : Int)) rfl (fun i acc H' fr _ => (Tps.same fr.same) _ _ hia4) ?_ ?_
          · rintro j y acc H5 H6 Nx hN hj fr e rfl ⟨rfl, hy⟩
            obtain ⟨c, hc, rfl⟩ := giN hy
            obtain ⟨t, ht, hb⟩ := kid hc
            obtain ⟨v, hv, dv⟩ := (b4.same fr.same).some hb
            obtain ⟨va, sa, vt, rfl, hva, _⟩ := Dp.bst dv
            refine ⟨rfl, ?_⟩
            refine ⟨_, rfl, _, rfl, d, _, rfl, hv, va, _, 0, _, rfl, rfl, .inr hva, rfl, _, e, small_line (by simp; omega), hN _ _ upd_same (fr.put (.inl hD2)) ?_⟩
            rw [take_get ht, List.map_append]
            rfl
          · rintro acc H5 fr e rfl
            rw [tkall] at e
            refine ⟨D2, ts.map fun t => (t.size : Int), rfl, SqL.of (by rw [e, List.map_map]; rfl), Or.inl ⟨_, _, rfl, rfl, ?_⟩⟩
            rw [sum_sizes]
            exact hZ _ _ ⟨rfl, fr.same⟩
        rintro _ H5 ⟨rfl, s45⟩
        have s5 := s4.trans s45
        have b5 := b4.same s45
        have hia5 := (Tps.same s45) _ _ hia4
        have szN : (Tm.node r.s ts).size = 1 + sizes ts := by rw [Tm.size]
        -- if size <= 40 and (made not in best or size <= best[made][0])
        refine ⟨_, rfl, _, _, rfl, rfl, _, rfl, ?_⟩
        refine dec_b (fun h40 => ?_) (fun h40 => ?_)
        · have h40' : 1 + sizes ts ≤ 40 := by omega
          have bin : ∀ {H'}, Same H5 H' → ∃ o, DGet H' d (.int r.c) o ∧ o.isSome = (B3 r.c).isSome := fun s => (b5.same s).in O3 r.c
          refine t_cut (fun b H' => H5 = H' ∧ (b = true ↔ ∀ u, B3 r.c = some u → 1 + sizes ts ≤ u.size)) (fun Z hZ => ?_) ?_
          · obtain ⟨o, ho, eo⟩ := bin (Same.refl _)
            refine ⟨_, rfl, _, rfl, d, o, rfl, ho, _, rfl, ?_⟩
            rw [eo]
            cases hb : B3 r.c with
            | none => exact hZ _ _ ⟨rfl, Iff.intro (fun _ u e => by rw [hb] at e; cases e) (fun _ => rfl)⟩
            | some u =>
              obtain ⟨v, hv, dv⟩ := b5.some hb
              obtain ⟨va, sa, vt, rfl, hva, _⟩ := Dp.bst dv
              refine ⟨_, rfl, _, rfl, _, rfl, d, _, rfl, hv, va, _, 0, _, rfl, rfl, .inr hva, rfl, _, _, rfl, rfl, _, rfl, ?_⟩
              refine hZ _ _ ⟨rfl, ?_⟩
              rw [decide_eq_true_iff]
              exact ⟨fun h u' e => by rw [hb] at e; cases e; omega, fun h => by have := h u hb; omega⟩
          rintro bb _ ⟨rfl, hbb⟩
          cases bb with
          | false =>
            refine keep _ _ _ H5 s5 b5 fun efl => ?_
            intro ts' hts' hle
            rw [← (hf2 efl).1, hts] at hts'
            cases hts'
            have h1 : ¬ ∀ u, B3 r.c = some u → 1 + sizes ts ≤ u.size := fun h => by
              have := hbb.mpr h
              cases this
            rw [← (hf2 efl).1]
            cases hb : B3 r.c with
            | none => exact absurd (fun u e => by rw [hb] at e; cases e) h1
            | some u =>
              refine ⟨u, rfl, ?_⟩
              have : ¬ 1 + sizes ts ≤ u.size := fun q => h1 fun u' e => by rw [hb] at e; cases e; exact q
              omega
          | true =>
          have hsm := hbb.mp rfl
          refine iteT ?_
          have ssz : (Tm.node r.s ts).syms.length = 1 + sizes ts := by rw [syms_len, szN]
          -- signs = (symbol,); for one in inner: signs = signs + best[one][1]
          refine seq_cut (fun σ H' => ∃ sp, σ = [some (.ref rp), some (.ref d), some (.bl fl), some (.int r.s), some (.ref ia), some (.int r.c), some (.int (1 + (sizes ts : Int))), some (.ref sp), w8] ∧ Same H5 H' ∧ SqT K H' sp [.int (r.s : Int)]) (fun Z hZ => ?_) ?_
          · exact ⟨_, rfl, by show 1 ≤ sizeLine; decide, fun p hp => hZ _ _ ⟨p, rfl, (Fr.new (M := []) hp).same, SqT.of upd_same⟩⟩
          rintro _ H6 ⟨sp0, rfl, s56, hsp0⟩
          have hia6 := (Tps.same s56) _ _ hia5
          refine seq_cut (fun σ H' => ∃ sp u8, σ = [some (.ref rp), some (.ref d), some (.bl fl), some (.int r.s), some (.ref ia), some (.int r.c), some (.int (1 + (sizes ts : Int))), some (.ref sp), u8] ∧ Same H5 H' ∧ SqT K H' sp ((Tm.node r.s ts).syms.map V.int)) (fun Z hZ => ?_) ?_
          · refine ⟨_, rfl, ia, rfl, ⟨_, hia6⟩, ?_⟩
            refine for_it (walk_tup (xs := r.is.map fun i : Nat => V.int (i : Int))) (fun i σ H' => ∃ sp u8, σ = [some (.ref rp), some (.ref d), some (.bl fl), some (.int r.s), some (.ref ia), some (.int r.c), some (.int (1 + (sizes ts : Int))), some (.ref sp), u8] ∧ Same H5 H' ∧ SqT K H' sp (((r.s : Int) :: symsL (ts.take i)).map V.int)) ⟨sp0, w8, rfl, s56, hsp0⟩ (fun i σ H' _ h => ?_) ?_ ?_
            · obtain ⟨_, _, _, s', _⟩ := h
              exact (Tps.same s') _ _ hia5
            · rintro j y _ H7' H7 hj ⟨sp, u8, rfl, s57, hsp⟩ ⟨rfl, hy⟩
              obtain ⟨c, hc, rfl⟩ := giN hy
              obtain ⟨t, ht, hb⟩ := kid hc
              obtain ⟨v, hv, dv⟩ := (b5.same s57).some hb
              obtain ⟨va, sa, vt, rfl, hva, hsa, _⟩ := Dp.bst dv
              have l1 : (symsL (ts.take j)).length ≤ 40 := by
                rw [symsL_len]
                have := sizes_take ts j
                omega
              have l2 : t.syms.length ≤ 40 := by
                rw [syms_len]
                have := sizes_mem (List.mem_of_getElem? ht)
                omega
              refine ⟨_, rfl, _, rfl, _, rfl, d, _, rfl, hv, va, _, 1, _, rfl, rfl, .inr hva, rfl, Or.inr (Or.inr ⟨sp, sa, _, _, rfl, rfl, hsp, hsa, ?_, (fun e => by simp at e), (fun _ e => ?_), fun _ _ p hp => ?_⟩)⟩
              · refine Nat.le_of_lt (small_line ?_)
                simp only [List.length_map, List.length_cons]
                omega
              · have := Tm.size_pos t
                rw [← syms_len] at this
                have e' := congrArg List.length e
                rw [List.length_map] at e'
                simp at e'
                rw [e'] at this
                cases this
              · refine ⟨p, _, rfl, s57.trans (Fr.new (M := []) hp).same, SqT.of ?_⟩
                rw [upd_same, take_get ht, symsL_app]
                simp [symsL]
            · rintro _ H7 ⟨sp, u8, rfl, s57, hsp⟩
              rw [tkall] at hsp
              exact hZ _ _ ⟨sp, u8, rfl, s57, by rw [Tm.syms]; exact hsp⟩
          rintro _ H7 ⟨sp, u8, rfl, s57, hsp⟩
          have s7 := s5.trans s57
          have b7 := b5.same s57
          have hia7 := (Tps.same s57) _ _ hia5
          -- if made not in best or (size, signs) < best[made][:2]
          refine if_cut (fun b H' => Same H7 H' ∧ (b = true ↔ ∀ u, B3 r.c = some u → lessB (.node r.s ts) u)) (fun Z hZ => ?_) ?_
          · obtain ⟨o, ho, eo⟩ := b7.in O3 r.c
            refine ⟨_, rfl, _, rfl, d, o, rfl, ho, _, rfl, ?_⟩
            rw [eo]
            cases hb : B3 r.c with
            | none => exact hZ _ _ ⟨Same.refl _, Iff.intro (fun _ u e => by rw [hb] at e; cases e) (fun _ => rfl)⟩
            | some u =>
              refine ⟨_, rfl, _, rfl, by show 2 ≤ sizeLine; decide, fun p hp => ?_⟩
              have s78 : Same H7 (upd H7 p (.tup [.int (1 + (sizes ts : Int)), .ref sp])) := (Fr.new (M := []) hp).same
              have hp8 : SqT K (upd H7 p (.tup [.int (1 + (sizes ts : Int)), .ref sp])) p [.int (1 + (sizes ts : Int)), .ref sp] := SqT.of upd_same
              generalize upd H7 p (.tup [.int (1 + (sizes ts : Int)), .ref sp]) = H8 at s78 hp8
              obtain ⟨v, hv, dv⟩ := (b7.same s78).some hb
              obtain ⟨va, sa, vt, rfl, hva, hsa, _⟩ := Dp.bst dv
              refine ⟨_, rfl, _, rfl, d, _, rfl, hv, 2, rfl, va, _, rfl, hva, (fun e => absurd e.2 (show ¬ (HT.sIx 3 3 (some 2) = 3) by decide)), fun _ q hq9 => ?_⟩
              rw [show cutV [V.int (u.size : Int), .ref sa, vt] none (some 2) = [V.int (u.size : Int), .ref sa] from cutV_to _ 2]
              have s89 : Same H8 (upd H8 q (.tup [.int (u.size : Int), .ref sa])) := (Fr.new (M := []) hq9).same
              have t79 := Tps.same (K := K) (s78.trans s89)
              have e1 : (1 + (sizes ts : Int)) = ((Tm.node r.s ts).size : Int) := by rw [szN]; omega
              refine Or.inr ⟨.tuple [.int ((Tm.node r.s ts).size : Int), .tuple ((Tm.node r.s ts).syms.map .int)], .tuple [.int (u.size : Int), .tuple (u.syms.map .int)], ?_, ?_, ?_, (fun e => by cases e), ?_, _, rfl, ?_⟩
              · rw [← e1]
                exact .tup ((Tps.same s89) _ _ hp8) (.cons (.int _) (.cons (.tup (t79 _ _ hsp) (DpAll.ints _)) .nil))
              · exact .tup (SqT.of upd_same) (.cons (.int _) (.cons (.tup ((Tps.same s89) _ _ hsa) (DpAll.ints _)) .nil))
              · simp only [alike, alikeAll, ints_alike]
                decide
              · simp only [PyData.depth, PyData.depthAll, ints_depth]
                decide
              · refine hZ _ _ ⟨s78.trans s89, ?_⟩
                rw [less_iff]
                exact Iff.intro (fun h u' e => by rw [hb] at e; cases e; exact h) (fun h => h u hb)
          rintro bb H8 ⟨s78, hbb⟩
          have s8 := s7.trans s78
          have b8 := b7.same s78
          cases bb with
          | false =>
            refine keep _ _ _ H8 s8 b8 fun efl => ?_
            intro ts' hts' hle
            rw [← (hf2 efl).1, hts] at hts'
            cases hts'
            have h1 : ¬ ∀ u, B3 r.c = some u → lessB (.node r.s ts) u := fun h => by
              have := hbb.mpr h
              cases this
            rw [← (hf2 efl).1]
            cases hb : B3 r.c with
            | none => exact absurd (fun u e => by rw [hb] at e; cases e) h1
            | some u =>
              refine ⟨u, rfl, ?_⟩
              have : ¬ lessB (.node r.s ts) u := fun q => h1 fun u' e => by rw [hb] at e; cases e; exact q
              unfold lessB at this
              rw [szN] at this
              omega
          | true =>
          have hless := hbb.mp rfl
          have hia8 := (Tps.same s78) _ _ hia7
          have hsp8 := (Tps.same s78) _ _ hsp
          refine iteT ?_
          -- best[made] = (size, signs, (symbol,) + tuple([best[one][2] for one in inner]))
          refine ⟨_, rfl, _, rfl, ?_⟩
          refine e_cut (fun v H' => Same H8 H' ∧ Dp K H' v (tmD (.node r.s ts))) (fun Z hZ => ?_) ?_
          · refine ⟨_, rfl, by show 1 ≤ sizeLine; decide, fun q hq9 => ?_⟩
            have s89 : Same H8 (upd H8 q (.tup [.int (r.s : Int)])) := (Fr.new (M := []) hq9).same
            have hq' : SqT K (upd H8 q (.tup [.int (r.s : Int)])) q [.int (r.s : Int)] := SqT.of upd_same
            generalize upd H8 q (.tup [.int (r.s : Int)]) = H9 at s89 hq'
            have hia9 := (Tps.same s89) _ _ hia8
            have b9 := b8.same s89
            refine ⟨_, rfl, ia, rfl, ⟨_, hia9⟩, fun D3 hD3 => ?_⟩
            refine lcM (walk_tup (xs := r.is.map fun i : Nat => V.int (i : Int))) [] hD3 (fun i acc H' => DpAll K H' acc (tmDs (ts.take i))) .nil (fun i acc H' fr _ => (Tps.same fr.same) _ _ hia9) ?_ ?_
            · rintro j y acc Ha Hb Nx hN hj fr e hA ⟨rfl, hy⟩
              obtain ⟨c, hc, rfl⟩ := giN hy
              obtain ⟨t, ht, hb⟩ := kid hc
              obtain ⟨v, hv, dv⟩ := (b9.same fr.same).some hb
              obtain ⟨va, sa, vt, rfl, hva, hsa, hvt⟩ := Dp.bst dv
              have la : acc.length ≤ 3 := by
                rw [DpAll.len hA, tmDs_map, List.length_map, List.length_take]
                omega
              refine ⟨rfl, ?_⟩
              refine ⟨_, rfl, _, rfl, d, _, rfl, hv, va, _, 2, _, rfl, rfl, .inr hva, rfl, _, e, small_line (by omega), hN _ _ upd_same (fr.put (.inl hD3)) ?_⟩
              have Tm : Tps K Hb (upd Hb D3 (.lst (acc ++ [vt]))) := .mut e trivial
              rw [take_get ht, tmDs_app]
              exact DpAll.app (DpAll.tps Tm _ _ (tmDs_flat _) hA) (.cons (Dp.tps Tm _ _ (tmD_flat t) hvt) .nil)
            · rintro acc Ha fr e hA
              rw [tkall] at hA
              have la : acc.length = ts.length := by rw [DpAll.len hA, tmDs_map, List.length_map]
              refine ⟨D3, _, rfl, .inl ⟨SqL.of e, fun t1 ht1 => ?_⟩⟩
              have sab : Same Ha (upd Ha t1 (.tup acc)) := (Fr.new (M := []) ht1).same
              have hA2 := DpAll.tps (Tps.same (K := K) sab) _ _ (tmDs_flat _) hA
              have hq2 := (Tps.same ((fr.same).trans sab)) _ _ hq'
              have fin : ∀ (p : Addr) (H' : Hp), Same (upd Ha t1 (.tup acc)) H' → SqT K H' p (.int (r.s : Int) :: acc) → Z (.ref p) H' := fun p H' s' hp => by
                refine hZ _ _ ⟨((s89.trans fr.same).trans sab).trans s', ?_⟩
                rw [tmD]
                exact .tup hp (.cons (.int _) (DpAll.tps (Tps.same s') _ _ (tmDs_flat _) hA2))
              refine Or.inr (Or.inr ⟨q, t1, _, acc, rfl, rfl, hq2, SqT.of upd_same, ?_, (fun e => by cases e), (fun _ e => ?_), fun _ _ p hp => ?_⟩)
              · show 1 + acc.length ≤ _
                exact Nat.le_of_lt (small_line (by omega))
              · subst e
                exact fin q _ (Same.refl _) hq2
              · exact fin p _ (Fr.new (M := []) hp).same (SqT.of upd_same)
          rintro vt H9 ⟨s89, dvt⟩
          refine ⟨by show 3 ≤ sizeLine; decide, fun p hp => ?_⟩
          have s9p : Same H9 (upd H9 p (.tup [.int (1 + (sizes ts : Int)), .ref sp, vt])) := (Fr.new (M := []) hp).same
          have hp' : SqT K (upd H9 p (.tup [.int (1 + (sizes ts : Int)), .ref sp, vt])) p [.int (1 + (sizes ts : Int)), .ref sp, vt] := SqT.of upd_same
          generalize upd H9 p (.tup [.int (1 + (sizes ts : Int)), .ref sp, vt]) = Ha at s9p hp'
          have s8a := s89.trans s9p
          have ba := b8.same s8a
          have e1 : (1 + (sizes ts : Int)) = ((Tm.node r.s ts).size : Int) := by rw [szN]; omega
          have dp : Dp K Ha (.ref p) (bstD (.node r.s ts)) := by
            rw [e1] at hp'
            exact .tup hp' (.cons (.int _) (.cons (.tup ((Tps.same s8a) _ _ hsp8) (DpAll.ints _)) (.cons (Dp.tps (Tps.same s9p) _ _ (tmD_flat _) dvt) .nil)))
          have kle : ks3.length < sizeLine := by
            have h1 : ks3.length ≤ (List.range 100).length := sub_len O3.nd fun c hc => by
              obtain ⟨r', hr', e'⟩ := O3.cl c hc
              have := (ok.cl r' hr').1
              simp
              omega
            rw [List.length_range] at h1
            exact small_line (by omega)
          obtain ⟨Hb, hput, bb', ⟨o, rfl⟩, tb⟩ := ba.put kle (c := r.c) dp
          refine ⟨_, rfl, _, rfl, d, _, rfl, hput, ?_⟩
          have sb : Same H (upd Ha d o) := ((Fr.of_same (M := []) (s8.trans s8a)).put (.inl d0)).same
          have O4 := O3.put hrR hts h40'
          have m5 : ∀ x ∈ (Tm.node r.s ts).syms, 0 ≤ x ∧ x ≤ 5 := Mem.syms5 (fun r' h' => ok.s5 r' (mem_alive.mp h').1) _ r.c (O4.mem r.c _ (if_pos rfl))
          have hrk : rk (.node r.s ts) < rkO (B3 r.c) := by
            cases hb : B3 r.c with
            | none => exact rk_big m5 (by rw [szN]; exact h40')
            | some u => exact rk_less (hless u hb) m5 (Mem.syms5 (fun r' h' => ok.s5 r' (mem_alive.mp h').1) _ r.c (O3.mem r.c _ hb)) (by rw [szN]; exact h40')
          have hmu := mu_put hrR hrk
          refine ⟨putS ks3 r.c, putB B3 r.c (.node r.s ts), true, _, _, _, _, _, _, rfl, sb, bb', O4, fun _ => ?_, fun e => by cases e⟩
          cases fl with
          | true =>
            have := hf1 rfl
            omega
          | false =>
            rw [← (hf2 rfl).1]
            exact hmu
        · refine keep _ _ _ H5 s5 b5 fun efl => ?_
          intro ts' hts' hle
          rw [← (hf2 efl).1, hts] at hts'
          cases hts'
          omega
      · rintro _ H3 ⟨ks3, B3, fl, w3, w4, w5, w6, w7, w8, rfl, s3, b3, O3, hf1, hf2⟩
        refine ⟨_, ?_, ks3, B3, fl, w3, w4, w5, w6, w7, w8, rfl, s3, b3, O3, fun e r hr => ?_, rfl⟩
        · rw [hm]
          cases fl with
          | true =>
            have := hf1 rfl
            simp only [if_true]
            omega
          | false => simp
        · obtain ⟨h1, h2⟩ := hf2 e
          obtain ⟨j, hj⟩ := List.mem_iff_getElem?.mp hr
          rw [h1]
          exact h2 j r (by rw [lxR]; exact (List.getElem?_eq_some_iff.mp hj).1) hj
  · rintro _ H2 ⟨ks, B, v2, v3, v4, v5, v6, v7, v8, rfl, s2, b2, O2, hd⟩
    exact ⟨_, rfl, k d ks B H2 s2 d0 b2 O2 hd⟩
end
end R59
/-! W8 -/
set_option maxHeartbeats 1000000
namespace R59
open PySem PyProof.Rows L2 KB PySem.W
def okD (B : Bsts) (c : Nat) : PyData := match B c with
  | some t => .tuple [.int (t.size : Int), .tuple (t.syms.map .int), .int (c : Int)]
  | none => .tuple [.int 0, .tuple [], .int (c : Int)]
theorem okD_flat (B : Bsts) (c : Nat) : flatD (okD B c) = true := by
  unfold okD
  cases B c with
  | none => rfl
  | some t =>
    simp only [flatD, flatDs, flat_ints]
    decide
theorem okD_form (B : Bsts) (c : Nat) : ∃ (n : Int) (l : List Int), okD B c = .tuple [.int n, .tuple (l.map .int), .int (c : Int)] := by
  unfold okD
  cases B c with
  | none => exact ⟨0, [], rfl⟩
  | some t => exact ⟨_, _, rfl⟩
theorem okD_alike (B : Bsts) (a b : Nat) : alike (okD B a) (okD B b) = true := by
  obtain ⟨n, l, e⟩ := okD_form B a
  obtain ⟨n', l', e'⟩ := okD_form B b
  rw [e, e']
  simp only [alike, alikeAll, ints_alike]
  decide
theorem okD_depth (B : Bsts) (c : Nat) : (okD B c).depth ≤ 2 := by
  obtain ⟨n, l, e⟩ := okD_form B c
  rw [e]
  simp only [PyData.depth, PyData.depthAll, ints_depth]
  decide
/-- sorted data that are told by a list are told by some arrangement of it -/
theorem sort_map {α : Type} (g : α → PyData) (l : List α) : ∃ m : List α, m.Perm l ∧ (l.map g).mergeSort (dataLe false id) = m.map g := by
  refine ⟨l.mergeSort (fun a b => dataLe false id (g a) (g b)), List.mergeSort_perm _ _, ?_⟩
  exact (List.map_mergeSort (r := fun a b => dataLe false id (g a) (g b)) (s := dataLe false id) (f := g) (fun a _ b _ => rfl)).symm
/-- the place in the order, of the first j -/
def ph (es : List Nat) (c : Nat) : Option Nat := if c ∈ es then some (es.idxOf c) else none
theorem ph_snoc {es : List Nat} {c : Nat} (h : c ∉ es) (x : Nat) : ph (es ++ [c]) x = if x = c then some es.length else ph es x := by
  unfold ph
  by_cases hx : x = c
  · subst hx
    rw [if_pos (by simp), if_pos rfl, List.idxOf_append, if_neg h]
    simp
  · rw [if_neg hx]
    by_cases h2 : x ∈ es
    · rw [if_pos (by simp [h2]), if_pos h2, List.idxOf_append, if_pos h2]
    · rw [if_neg (by simp [h2, hx]), if_neg h2]
theorem putK_le (c : List (Key × V)) (k : Key) (x : V) : (putK c k x).length ≤ c.length + 1 := by
  unfold putK
  by_cases e : (c.any fun kv => decide (kv.1 = k)) = true
  · rw [if_pos e, List.length_map]
    omega
  · rw [if_neg e, List.length_append]
    simp
structure Nums (H : Hp) (d : Addr) (p : Nat → Option Nat) (n : Nat) : Prop where
  ex : ∃ kvs : List (Key × V), H d = some (.dK kvs) ∧ kvs.length ≤ n ∧ ∀ c : Nat, valV kvs (ki c) = (p c).map fun k : Nat => V.int (k : Int)
theorem Nums.get {H : Hp} {d : Addr} {p : Nat → Option Nat} {n : Nat} (h : Nums H d p n) (c : Nat) : DGet H d (.int (c : Int)) ((p c).map fun k : Nat => V.int (k : Int)) := by
  obtain ⟨kvs, h1, _, h3⟩ := h.ex
  rw [← h3]
  exact DGet.k (k := ki c) h1
theorem Nums.same {H H' : Hp} {d : Addr} {p : Nat → Option Nat} {n : Nat} (h : Nums H d p n) (s : Same H H') : Nums H' d p n := by
  obtain ⟨kvs, h1, h2⟩ := h.ex
  exact ⟨kvs, s _ _ h1, h2⟩
theorem Nums.put {H : Hp} {d : Addr} {p : Nat → Option Nat} {n : Nat} (h : Nums H d p n) (hn : n < sizeLine) (c k : Nat) : ∃ H', DPut H d (.int (c : Int)) (.int (k : Int)) H' ∧ Nums H' d (fun x => if x = c then some k else p x) (n + 1) ∧ ∃ o, H' = upd H d o := by
  obtain ⟨kvs, h1, h2, h3⟩ := h.ex
  refine ⟨_, DPut.k (k := ki c) h1 (by omega), ⟨_, upd_same, ?_, fun x => ?_⟩, _, rfl⟩
  · have := putK_le kvs (ki c) (.int (k : Int))
    omega
  · rw [valV_put]
    by_cases hx : x = c
    · rw [if_pos (by rw [hx]), if_pos hx]
      rfl
    · rw [if_neg (fun q => hx (ki_inj q)), if_neg hx]
      exact h3 x
def ren (es : List Nat) (r : Row) : Row := ⟨r.s, r.is.map es.idxOf, es.idxOf r.c⟩
theorem ph_nil (x : Nat) : ph [] x = none := rfl
theorem ph_in {es : List Nat} {c : Nat} (h : c ∈ es) : ph es c = some (es.idxOf c) := if_pos h
theorem ph_out {es : List Nat} {c : Nat} (h : c ∉ es) : ph es c = none := if_neg h
theorem ph_some {es : List Nat} {c : Nat} : (ph es c).isSome = decide (c ∈ es) := by
  unfold ph
  by_cases h : c ∈ es
  · rw [if_pos h]
    simp [h]
  · rw [if_neg h]
    simp [h]
theorem okD_some {B : Bsts} {c : Nat} {t : Tm} (h : B c = some t) : okD B c = .tuple [.int (t.size : Int), .tuple (t.syms.map .int), .int (c : Int)] := by
  unfold okD
  rw [h]
theorem Dp.ok {K : PySem.W.Frag} {H : Hp} {v : V} {B : Bsts} {c : Nat} {t : Tm} (e : B c = some t) (h : Dp K H v (okD B c)) : ∃ a sa, v = .ref a ∧ SqT K H a [.int (t.size : Int), .ref sa, .int (c : Int)] := by
  rw [okD_some e] at h
  obtain ⟨a, ys, rfl, h1, h2⟩ := Dp.tupOf h
  cases h2 with
  | cons d1 h2 =>
  cases h2 with
  | cons d2 h2 =>
  cases h2 with
  | cons d3 h2 =>
  cases h2
  cases d1
  cases d3
  obtain ⟨sa, rfl, q⟩ := Dp.tupInts d2
  exact ⟨a, sa, rfl, h1⟩
theorem alive_snoc (R : List Row) (es : List Nat) (r : Row) : KB.alive (R ++ [r]) es = KB.alive R es ++ (if r.c ∈ es ∧ ∀ i ∈ r.is, i ∈ es then [r] else []) := by
  unfold KB.alive
  rw [List.filter_append]
  congr 1
  by_cases h : r.c ∈ es ∧ ∀ i ∈ r.is, i ∈ es
  · rw [if_pos h, List.filter_cons, if_pos, List.filter_nil]
    simp only [Bool.and_eq_true, decide_eq_true_eq, List.all_eq_true]
    exact h
  · rw [if_neg h, List.filter_cons, if_neg, List.filter_nil]
    simp only [Bool.and_eq_true, decide_eq_true_eq, List.all_eq_true]
    exact h
/-- the table that is told of rows: its classes by the order es -/
structure TabOf (R T : List Row) (es : List Nat) (B : Bsts) : Prop where
  ok : BOk R es B
  done : ∀ r ∈ R, Done B r
  pm : T.Perm ((KB.alive R es).map (ren es))
section
variable {P : Program} {w : World} {K : PySem.W.Frag} {mg : Str → Option Value} {base : Heap} {f : Addr} {fd : FuncData}
/-! ### _law_table -/
abbrev s_law_table : Stmt := top 29
abbrev N_law_table : List Str := ["rows", "order", "found", "best", "numbers", "k", "symbol", "inner", "made", "size", "signs", "one"]
theorem sc_law_table : FnScope N_law_table ["rows"] (defScope s_law_table) := ⟨rfl, rfl, rfl, by decide +kernel, rfl, by decide +kernel, by decide +kernel⟩
def spTable (K : PySem.W.Frag) : Sp := fun vs H Q _ => ∃ (rp : Addr) (xs : List V) (R : List Row) (ar : Nat → Nat), vs = [.ref rp] ∧ H rp = some (.lst xs) ∧ DpAll K H xs (R.map rowD) ∧ RwOk ar R ∧
  ∀ (p : Addr) (T : List Row) (es : List Nat) (B : Bsts) (H' : Hp), Same H H' → Dp K H' (.ref p) (tabD T) → TabOf R T es B → Q (.ref p) H'
set_option maxHeartbeats 4000000 in
theorem ok_table (F : FnP K "_law_table" "_law_table" s_law_table f fd) (T : Nm mg) (h_law_leasts : Has P w K mg base CX0 "_law_leasts" ["rows"] 1 (spLeasts K)) : FnOk P w K mg base CX0 2 f fd ["rows"] (spTable K) := by
  refine F.ok sc_law_table (fun vs H Q E h => ?_) (fun cdv A outer s H vs Q E hr h => ?_)
  · obtain ⟨rp, xs, R, ar, rfl, _⟩ := h
    rfl
  obtain ⟨rp, xs, R, ar, rfl, hrp, dx, ok, k⟩ := h
  have hq := hq_of hr
  have hu := hu_of hr
  refine ⟨_, PSs.nox
  (pss_cons (ps_asg (pe_tup (pa_cons (pe_f h_law_leasts (hr.mono (by decide)) (by rfl) (pa_cons (pv 0) pa_nil)) (pa_cons pe_dnewK pa_nil))) (pg_tupK (n := 2) K rfl (pgs_cons (pg_name (i := 3) sc_law_table.nd rfl (Or.inr rfl)) (pgs_cons (pg_name (i := 4) sc_law_table.nd rfl (Or.inr rfl)) pgs_nil))))
      (pss_cons (ps_set (i := 1) sc_law_table.nd rfl (Or.inl rfl) (pe_callB (cr_sortedK K hq) (by rfl) T.sorted bt_sorted (pa_cons (pe_lc (own := [("one", 11)]) rfl sc_law_table.nd (pi_listK K (pe_callTy (call_list_dK rfl) (by rfl) T.list bt_list (pa_cons (pv 3) pa_nil))) (blkOk_by (N := N_law_table) (sc := defScope s_law_table) (by decide +kernel)) (fun _ _ _ _ _ => (pg_name (i := 11) sc_law_table.nd rfl (Or.inl rfl))) (fun _ _ _ _ _ => pts_nil) (fun _ _ _ _ _ => (pe_tup (pa_cons (pe_ix (ix_K K) (pe_dget hu (pv 3) (pv 11) (fun _ _ => rfl)) pe_int (fun _ _ => rfl)) (pa_cons (pe_ix (ix_K K) (pe_dget hu (pv 3) (pv 11) (fun _ _ => rfl)) pe_int (fun _ _ => rfl)) (pa_cons (pv 11) pa_nil)))))) pa_nil)))
      (pss_cons (ps_for PassesOwn.never rfl (pi_enum (by rfl) T.enumerate (pa_cons (pv 1) pa_nil)) (pg_tupK (n := 2) K rfl (pgs_cons (pg_name (i := 5) sc_law_table.nd rfl (Or.inl rfl)) (pgs_cons (pg_tupK (n := 3) K rfl (pgs_cons (pg_name (i := 9) sc_law_table.nd rfl (Or.inl rfl)) (pgs_cons (pg_name (i := 10) sc_law_table.nd rfl (Or.inl rfl)) (pgs_cons (pg_name (i := 11) sc_law_table.nd rfl (Or.inl rfl)) pgs_nil)))) pgs_nil))) (pss_one (ps_dput hu (pv 4) (pv 11) (pv 5) rfl)))
      (pss_cons (ps_set (i := 2) sc_law_table.nd rfl (Or.inl rfl) (pe_lst pa_nil))
      (pss_cons (ps_for PassesOwn.never rfl (pi_listK K (pv 0)) (pg_tupK (n := 3) K rfl (pgs_cons (pg_name (i := 6) sc_law_table.nd rfl (Or.inl rfl)) (pgs_cons (pg_name (i := 7) sc_law_table.nd rfl (Or.inl rfl)) (pgs_cons (pg_name (i := 8) sc_law_table.nd rfl (Or.inl rfl)) pgs_nil)))) (pss_one (ps_if (PW.pt (pw_and (pt_cmp (pc_din hu (pv 8) (pv 4))) (pw_and1 (pt_val (pe_callB (cr_allK K rfl) (by rfl) T.all bt_all (pa_cons (pe_lc (own := [("one", 11)]) rfl sc_law_table.nd (pi_tupK K (pv 7)) (blkOk_by (N := N_law_table) (sc := defScope s_law_table) (by decide +kernel)) (fun _ _ _ _ _ => (pg_name (i := 11) sc_law_table.nd rfl (Or.inl rfl))) (fun _ _ _ _ _ => pts_nil) (fun _ _ _ _ _ => (pe_cmp (pc_din hu (pv 11) (pv 4)) rfl))) pa_nil)))))) (pss_one (ps_expr (pe_appK K (pv 2) (pe_tup (pa_cons (pv 6) (pa_cons (pe_callTy (cr_tupleK K) (by rfl) T.tuple bt_tuple (pa_cons (pe_lc (own := [("one", 11)]) rfl sc_law_table.nd (pi_tupK K (pv 7)) (blkOk_by (N := N_law_table) (sc := defScope s_law_table) (by decide +kernel)) (fun _ _ _ _ _ => (pg_name (i := 11) sc_law_table.nd rfl (Or.inl rfl))) (fun _ _ _ _ _ => pts_nil) (fun _ _ _ _ _ => (pe_dget hu (pv 4) (pv 11) (fun _ _ => rfl)))) pa_nil)) (pa_cons (pe_dget hu (pv 4) (pv 8) (fun _ _ => rfl)) pa_nil))))))) pss_nil)))
      (pss_one (ps_ret (pe_callTy (cr_tupleK K) (by rfl) T.tuple bt_tuple (pa_cons (pe_callB (cr_sortedK K hq) (by rfl) T.sorted bt_sorted (pa_cons (pv 2) pa_nil)) pa_nil))))))))), ?_⟩
  -- best, numbers = _law_leasts(rows), {}
  refine seq_cut (fun σ H' => ∃ (d nd : Addr) (ks : List Nat) (B : Bsts), σ = [some (.ref rp), none, none, some (.ref d), some (.ref nd), none, none, none, none, none, none, none] ∧ Same H H' ∧ H nd = none ∧ Bst K H' d ks B ∧ BOk R ks B ∧ (∀ r ∈ R, Done B r) ∧ Nums H' nd (fun _ => none) 0 ∧ d ≠ nd) (fun Z hZ => ?_) ?_
  · refine ⟨_, rfl, rp, xs, R, ar, rfl, hrp, dx, ok, fun d ks B H1 s1 d0 b1 O1 dn nd hnd => ⟨by show 2 ≤ sizeLine; decide, fun t ht => ⟨t, _, rfl, SqT.of upd_same, rfl, _, _, rfl, _, _, rfl, rfl, ?_⟩⟩⟩
    have s12 : Same H1 (upd H1 nd (.dK [])) := (Fr.new (M := []) hnd).same
    have s23 := (Fr.new (M := []) (o := .tup [.ref d, .ref nd]) ht).same
    obtain ⟨kvs, ek⟩ := b1.at
    refine hZ _ _ ⟨d, nd, ks, B, rfl, (s1.trans s12).trans s23, (Fr.of_same (M := []) s1).free hnd (by simp), b1.same (s12.trans s23), O1, dn, ⟨[], s23 _ _ upd_same, Nat.le_refl _, fun c => rfl⟩, fun e => ?_⟩
    subst e
    rw [hnd] at ek
    cases ek
  rintro _ H1 ⟨d, nd, ks, B, rfl, s1, n0, b1, O1, dn, N1, dne⟩
  have kle : ks.length ≤ 100 := by
    have h1 : ks.length ≤ (List.range 100).length := sub_len O1.nd fun c hc => by
      obtain ⟨r', hr', e'⟩ := O1.cl c hc
      have := (ok.cl r' hr').1
      simp
      omega
    rwa [List.length_range] at h1
  have Bs : ∀ {c}, c ∈ ks → ∃ t, B c = some t := fun {c} hc => by
    have := (O1.dom c).mpr hc
    cases e : B c with
    | none =>
      rw [e] at this
      cases this
    | some t => exact ⟨t, rfl⟩
  -- order = sorted([..])
  refine seq_cut (fun σ H' => ∃ (o : Addr) (ys : List V) (es : List Nat), σ = [some (.ref rp), some (.ref o), none, some (.ref d), some (.ref nd), none, none, none, none, none, none, none] ∧ Same H1 H' ∧ H' o = some (.lst ys) ∧ DpAll K H' ys (es.map (okD B)) ∧ es.Perm ks) (fun Z hZ => ?_) ?_
  · obtain ⟨kvs, hk1, hk2, hk3⟩ := b1.ex
    have ekv : kvs.map (fun kv => kV kv.1) = ks.map fun c : Nat => V.int (c : Int) := by
      rw [show (fun kv : Key × V => kV kv.1) = kV ∘ (·.1) from rfl, ← List.map_map, hk2, List.map_map]
      rfl
    refine ⟨_, rfl, d, kvs, rfl, hk1, fun l hl => ?_⟩
    have s2 : Same H1 (upd H1 l (.lst (kvs.map fun kv => kV kv.1))) := (Fr.new (M := []) hl).same
    have hl2 : (upd H1 l (.lst (kvs.map fun kv => kV kv.1))) l = some (.lst (ks.map fun c : Nat => V.int (c : Int))) := by
      rw [← ekv]
      exact upd_same
    generalize upd H1 l (.lst (kvs.map fun kv => kV kv.1)) = H2 at s2 hl2
    refine ⟨l, rfl, ⟨_, SqL.of hl2⟩, fun D hD => ?_⟩
    refine lcM (walk_list (xs := ks.map fun c : Nat => V.int (c : Int))) [] hD (fun i acc H' => DpAll K H' acc ((ks.take i).map (okD B))) .nil (fun i acc H' fr _ => SqL.of (fr.same _ _ hl2)) ?_ ?_
    · rintro j y acc Ha Hb Nx hN hj fr e hA ⟨rfl, hy⟩
      rw [List.getElem?_map] at hy
      cases hc : ks[j]? with
      | none =>
        rw [hc] at hy
        cases hy
      | some c =>
      rw [hc] at hy
      obtain rfl := Option.some.inj hy
      obtain ⟨t, hb⟩ := Bs (List.mem_of_getElem? hc)
      obtain ⟨v, hv, dv⟩ := (b1.same (s2.trans fr.same)).some hb
      obtain ⟨va, sa, vt, rfl, hva, hsa, hvt⟩ := Dp.bst dv
      refine ⟨rfl, ?_⟩
      refine ⟨_, rfl, _, rfl, d, _, rfl, hv, va, _, 0, _, rfl, rfl, .inr hva, rfl, _, rfl, _, rfl, d, _, rfl, hv, va, _, 1, _, rfl, rfl, .inr hva, rfl, _, rfl, by show 3 ≤ sizeLine; decide, fun q hq9 => ?_⟩
      have sq : Same Hb (upd Hb q (.tup [.int (t.size : Int), .ref sa, .int (c : Int)])) := (Fr.new (M := []) hq9).same
      have hqq : SqT K (upd Hb q (.tup [.int (t.size : Int), .ref sa, .int (c : Int)])) q [.int (t.size : Int), .ref sa, .int (c : Int)] := SqT.of upd_same
      generalize upd Hb q (.tup [.int (t.size : Int), .ref sa, .int (c : Int)]) = Hc at sq hqq
      have la : acc.length ≤ 100 := by
        rw [DpAll.len hA, List.length_map, List.length_take]
        omega
      have tm : Tps K Hc (upd Hc D (.lst (acc ++ [.ref q]))) := .mut (sq _ _ e) trivial
      refine ⟨acc, sq _ _ e, small_line (by omega), hN _ _ upd_same ((fr.trans (.of_same sq)).put (.inl hD)) ?_⟩
      rw [take_get hc, List.map_append]
      refine DpAll.app (DpAll.tps ((Tps.same sq).trans tm) _ _ (flatDs_all _ _ (okD_flat B)) hA) (.cons ?_ .nil)
      rw [okD_some hb]
      exact .tup (tm _ _ hqq) (.cons (.int _) (.cons (.tup (tm _ _ ((Tps.same sq) _ _ hsa)) (DpAll.ints _)) (.cons (.int _) .nil)))
    · rintro acc Ha fr e hA
      rw [List.length_map, List.take_length] at hA
      obtain ⟨es, pm, em⟩ := sort_map (okD B) ks
      refine ⟨D, acc, ks.map (okD B), rfl, SqL.of e, hA, ?_, .inl ?_, ?_, fun p ys hp hy => ?_⟩
      · intro x hx y hy
        obtain ⟨a, _, rfl⟩ := List.mem_map.mp hx
        obtain ⟨b, _, rfl⟩ := List.mem_map.mp hy
        exact okD_alike B a b
      · intro x hx
        obtain ⟨a, _, rfl⟩ := List.mem_map.mp hx
        obtain ⟨n, l, e'⟩ := okD_form B a
        exact ⟨_, _, e'⟩
      · intro x hx
        obtain ⟨a, _, rfl⟩ := List.mem_map.mp hx
        have := okD_depth B a
        omega
      · have sp : Same Ha (upd Ha p (.lst ys)) := (Fr.new (M := []) hp).same
        rw [em] at hy
        exact hZ _ _ ⟨p, ys, es, rfl, (s2.trans fr.same).trans sp, upd_same, DpAll.tps (Tps.same sp) _ _ (flatDs_all _ _ (okD_flat B)) hy, pm⟩
  rintro _ H2 ⟨o, ys, es, rfl, s12, ho, dys, pm⟩
  have end_ : es.Nodup := pm.nodup_iff.mpr O1.nd
  have ele : es.length = ks.length := pm.length_eq
  have N2 := N1.same s12
  have s2 := s1.trans s12
  -- for k, (size, signs, one) in enumerate(order): numbers[one] = k
  refine seq_cut (fun σ H' => ∃ v5 v9 v10 v11, σ = [some (.ref rp), some (.ref o), none, some (.ref d), some (.ref nd), v5, none, none, none, v9, v10, v11] ∧ Same H H' ∧ Nums H' nd (ph es) es.length) (fun Z hZ => ?_) ?_
  · have nne : ∀ {H' : Hp}, H2 o = some (.lst ys) → H1 o = none → o ≠ nd := fun _ h e => by
      subst e
      obtain ⟨kvs, q, _⟩ := N1.ex
      rw [q] at h
      cases h
    have one' : o ≠ nd := fun e => by
      subst e
      obtain ⟨kvs, q, _⟩ := N2.ex
      rw [q] at ho
      cases ho
    refine ⟨_, rfl, o, ys, rfl, SqL.of ho, ?_⟩
    have yl : ys.length = es.length := by rw [DpAll.len dys, List.length_map]
    refine for_it (walk_enum (xs := ys)) (fun i σ H' => ∃ v5 v9 v10 v11, σ = [some (.ref rp), some (.ref o), none, some (.ref d), some (.ref nd), v5, none, none, none, v9, v10, v11] ∧ Fr [nd] H2 H' ∧ Same H H' ∧ Nums H' nd (ph (es.take i)) i ∧ Tps K H2 H') ?_ ?_ ?_ ?_
    · exact ⟨none, none, none, none, rfl, Fr.refl _ _, s2, N2, Tps.refl _ _⟩
    · rintro i σ H' _ ⟨_, _, _, _, _, fr, _⟩
      exact SqL.of (fr _ _ ho (by simpa using one'))
    · rintro i x _ Ha Ha' hi ⟨v5, v9, v10, v11, rfl, fr, sa, N, tp⟩ ⟨q, a, y, rfl, hq0, rfl, ea, ey⟩
      cases ea
      obtain ⟨dd, ed, dr⟩ := DpAll.get' dys ey
      rw [List.getElem?_map] at ed
      cases hc : es[i]? with
      | none =>
        rw [hc] at ed
        cases ed
      | some c =>
      rw [hc] at ed
      obtain rfl := Option.some.inj ed
      obtain ⟨t, hb⟩ := Bs (pm.mem_iff.mp (List.mem_of_getElem? hc))
      obtain ⟨va, sa', rfl, hva⟩ := Dp.ok hb dr
      have sq : Same Ha (upd Ha q (.tup [.int (i : Nat), .ref va])) := (Fr.new (M := []) hq0).same
      have hqq : SqT K (upd Ha q (.tup [.int (i : Nat), .ref va])) q [.int (i : Nat), .ref va] := SqT.of upd_same
      generalize upd Ha q (.tup [.int (i : Nat), .ref va]) = Hb at sq hqq
      have hva' := (Tps.same sq) _ _ (tp _ _ hva)
      refine ⟨q, _, rfl, hqq, rfl, _, _, rfl, _, _, rfl, va, _, rfl, hva', rfl, _, _, rfl, _, _, rfl, _, _, rfl, rfl, rfl, ?_⟩
      dsimp only [gName]
      have hi' : i < es.length := by omega
      obtain ⟨kvs, hk, _⟩ := (N.same sq).ex
      obtain ⟨Hc, hput, N', ⟨o', rfl⟩⟩ := (N.same sq).put (small_line (by omega)) c i
      have cn : c ∉ es.take i := fun m => by
        have e := end_
        rw [← List.take_append_drop (i + 1) es, take_get hc, List.append_assoc, List.nodup_append] at e
        exact e.2.2 c m c (by simp) rfl
      refine ⟨_, rfl, _, rfl, _, rfl, nd, _, rfl, hput, ?_⟩
      have eph : ph (es.take (i + 1)) = fun x => if x = c then some i else ph (es.take i) x := by
        funext x
        rw [take_get hc, ph_snoc cn, List.length_take, Nat.min_eq_left (by omega)]
      refine ⟨_, _, _, _, rfl, (fr.trans (.of_same sq)).put (.inr (by simp)), ((Fr.of_same (M := []) (sa.trans sq)).put (.inl n0)).same, by rw [eph]; exact N', (tp.trans (Tps.same sq)).trans ?_⟩
      refine Tps.of (fun b xs hb => ?_) (fun b o u hb => ?_)
      · by_cases e : b = nd
        · subst e
          rw [hk] at hb
          cases hb
        · rw [upd_ne e]
          exact hb
      · by_cases e : b = nd
        · subst e
          rw [hk] at hb
          cases hb
        · rw [upd_ne e]
          exact hb
    · rintro _ H3 ⟨v5, v9, v10, v11, rfl, fr, s3, N, tp⟩
      rw [yl, List.take_length] at N
      exact hZ _ _ ⟨_, _, _, _, rfl, s3, N⟩
  rintro _ H3 ⟨v5, v9, v10, v11, rfl, s3, N3⟩
  -- found = []
  refine ⟨by decide, fun f hf => ?_⟩
  have s4 := s3.trans (Fr.new (M := []) (o := .lst []) hf).same
  have N4 := N3.same (Fr.new (M := []) (o := .lst []) hf).same
  have hf4 : (upd H3 f (.lst [])) f = some (.lst []) := upd_same
  have f0 : H f = none := (Fr.of_same (M := []) s3).free hf (by simp)
  generalize upd H3 f (.lst []) = H4 at s4 N4 hf4
  dsimp only [gName]
  have fne : f ≠ nd := fun e => by
    subst e
    obtain ⟨kvs, q, _⟩ := N4.ex
    rw [q] at hf4
    cases hf4
  have dxS : ∀ {H'}, Same H H' → DpAll K H' xs (R.map rowD) := fun s => DpAll.tps (.same s) _ _ (flatDs_all _ R rowD_flat) dx
  have lxR : xs.length = R.length := by
    rw [DpAll.len dx, List.length_map]
  have Nk : ∀ {H' : Hp} (c : Nat), Nums H' nd (ph es) es.length → ∃ o, DGet H' nd (.int (c : Int)) o ∧ o.isSome = decide (c ∈ es) := fun c N => ⟨_, N.get c, by rw [Option.isSome_map, ph_some]⟩
  refine seq_cut (fun σ H' => ∃ v5 v6 v7 v8 v9 v10 v11 acc, σ = [some (.ref rp), some (.ref o), some (.ref f), some (.ref d), some (.ref nd), v5, v6, v7, v8, v9, v10, v11] ∧ Same H H' ∧ H' f = some (.lst acc) ∧ DpAll K H' acc (((KB.alive R es).map (ren es)).map rowD)) (fun Z hZ => ?_) ?_
  · refine ⟨_, rfl, rp, rfl, ⟨_, SqL.of (s4 _ _ hrp)⟩, ?_⟩
    refine for_it (walk_list (xs := xs)) (fun i σ H' => ∃ v5 v6 v7 v8 v9 v10 v11 acc, σ = [some (.ref rp), some (.ref o), some (.ref f), some (.ref d), some (.ref nd), v5, v6, v7, v8, v9, v10, v11] ∧ Same H H' ∧ H' f = some (.lst acc) ∧ DpAll K H' acc (((KB.alive (R.take i) es).map (ren es)).map rowD) ∧ Nums H' nd (ph es) es.length) ?_ ?_ ?_ ?_
    · exact ⟨_, _, _, _, _, _, _, [], rfl, s4, hf4, .nil, N4⟩
    · rintro i σ H' _ ⟨_, _, _, _, _, _, _, _, _, s', _⟩
      exact SqL.of (s' _ _ hrp)
    · rintro i x _ Ha' Ha hi ⟨v5, v6, v7, v8, v9, v10, v11, acc, rfl, sa, fa, dA, NA⟩ ⟨rfl, hx⟩
      obtain ⟨dd, ed, dr⟩ := DpAll.get' (dxS sa) hx
      rw [List.getElem?_map] at ed
      cases er : R[i]? with
      | none =>
        rw [er] at ed
        cases ed
      | some r =>
      rw [er] at ed
      obtain rfl := Option.some.inj ed
      have hrR := List.mem_of_getElem? er
      obtain ⟨ra, ia, rfl, hra, hia⟩ := Dp.row dr
      refine ⟨ra, _, rfl, hra, rfl, _, _, rfl, _, _, rfl, _, _, rfl, rfl, ?_⟩
      dsimp only [gName]
      have giN : ∀ {i : Nat} {x : V}, (r.is.map fun i : Nat => V.int (i : Int))[i]? = some x → ∃ c, r.is[i]? = some c ∧ x = .int (c : Int) := fun {i x} h => by
        rw [List.getElem?_map] at h
        cases e : r.is[i]? with
        | none =>
          rw [e] at h
          cases h
        | some c =>
          rw [e] at h
          exact ⟨c, rfl, (Option.some.inj h).symm⟩
      have ilen : r.is.length ≤ 3 := by
        rw [ok.a3 r hrR]
        exact ok.ar3 _
      have lacc : acc.length ≤ 42 := by
        rw [DpAll.len dA, List.length_map, List.length_map]
        have h1 : (KB.alive (R.take i) es).length ≤ (R.take i).length := List.length_filter_le _ _
        rw [List.length_take] at h1
        have := ok.len
        omega
      -- if made in numbers and all(..)
      refine if_cut (fun b H' => Same Ha H' ∧ (b = true ↔ r.c ∈ es ∧ ∀ i ∈ r.is, i ∈ es)) (fun Z hZ => ?_) ?_
      · obtain ⟨q, hq', eq⟩ := Nk r.c NA
        refine ⟨_, rfl, _, rfl, nd, q, rfl, hq', _, rfl, ?_⟩
        rw [eq]
        dsimp only
        by_cases hc : r.c ∈ es
        · rw [if_pos (decide_eq_true hc)]
          refine ⟨_, rfl, ia, rfl, ⟨_, hia⟩, fun D hD => ?_⟩
          refine lcM (walk_tup (xs := r.is.map fun i : Nat => V.int (i : Int))) [] hD (fun i acc H' => acc = (r.is.take i).map fun c => V.bl (decide (c ∈ es))) rfl (fun i acc H' fr _ => (Tps.same fr.same) _ _ hia) ?_ ?_
          · rintro j y acc Hb Hc Nx hN hj fr e rfl ⟨rfl, hy⟩
            obtain ⟨c, hc, rfl⟩ := giN hy
            obtain ⟨o, ho, eo⟩ := Nk c (NA.same fr.same)
            refine ⟨rfl, ?_⟩
            refine ⟨_, rfl, _, rfl, nd, o, rfl, ho, _, e, small_line (by simp; omega), hN _ _ upd_same (fr.put (.inl hD)) ?_⟩
            rw [eo, take_get hc, List.map_append]
            rfl
          · rintro acc Hb fr e rfl
            rw [List.length_map, List.take_length] at e
            refine ⟨D, r.is.map fun c => decide (c ∈ es), rfl, SqL.of (by rw [e, List.map_map]; rfl), _, rfl, hZ _ _ ⟨fr.same, ?_⟩⟩
            rw [List.all_map, List.all_eq_true]
            simp [hc]
        · rw [if_neg (by simpa using hc)]
          exact hZ _ _ ⟨Same.refl _, fun e => by simp at e, fun e => absurd e.1 hc⟩
      rintro b Hb ⟨sab, hb⟩
      have e1 : R.take (i + 1) = R.take i ++ [r] := take_get er
      cases b with
      | false =>
        have : ¬ (r.c ∈ es ∧ ∀ i ∈ r.is, i ∈ es) := fun q => by
          have := hb.mpr q
          cases this
        refine ⟨_, _, _, _, _, _, _, acc, rfl, sa.trans sab, sab _ _ fa, ?_, NA.same sab⟩
        rw [e1, alive_snoc, if_neg this, List.append_nil]
        exact DpAll.tps (Tps.same sab) _ _ (flatDs_all _ _ rowD_flat) dA
      | true =>
        obtain ⟨hc, hin⟩ := hb.mp rfl
        refine iteT ?_
        have hia' := (Tps.same sab) _ _ hia
        refine ⟨_, rfl, .inl ⟨rfl, _, SqL.of (sab _ _ fa)⟩, _, rfl, _, rfl, ia, rfl, ⟨_, hia'⟩, fun D hD => ?_⟩
        refine lcM (walk_tup (xs := r.is.map fun i : Nat => V.int (i : Int))) [] hD (fun i acc H' => acc = (r.is.take i).map fun c => V.int ((es.idxOf c : Nat) : Int)) rfl (fun i acc H' fr _ => (Tps.same fr.same) _ _ hia') ?_ ?_
        · rintro j y acc2 Hc Hd Nx hN hj fr e rfl ⟨rfl, hy⟩
          obtain ⟨c, hc, rfl⟩ := giN hy
          have hg := (NA.same (sab.trans fr.same)).get c
          rw [ph_in (hin c (List.mem_of_getElem? hc))] at hg
          refine ⟨rfl, ?_⟩
          refine ⟨_, rfl, _, rfl, nd, _, rfl, hg, _, e, small_line (by simp; omega), hN _ _ upd_same (fr.put (.inl hD)) ?_⟩
          rw [take_get hc, List.map_append]
          rfl
        · rintro acc2 Hc fr e rfl
          rw [List.length_map, List.take_length] at e
          have sac := sab.trans fr.same
          refine ⟨D, _, rfl, .inl ⟨SqL.of e, fun t1 ht1 => ?_⟩⟩
          have s1t : Same Hc (upd Hc t1 (.tup (r.is.map fun c => V.int ((es.idxOf c : Nat) : Int)))) := (Fr.new (M := []) ht1).same
          have h1t : SqT K (upd Hc t1 (.tup (r.is.map fun c => V.int ((es.idxOf c : Nat) : Int)))) t1 (r.is.map fun c => V.int ((es.idxOf c : Nat) : Int)) := SqT.of upd_same
          generalize upd Hc t1 (.tup (r.is.map fun c => V.int ((es.idxOf c : Nat) : Int))) = Hd at s1t h1t
          have hg := (NA.same (sac.trans s1t)).get r.c
          rw [ph_in hc] at hg
          refine ⟨_, rfl, _, rfl, nd, _, rfl, hg, by show 3 ≤ sizeLine; decide, fun t2 ht2 => ?_⟩
          have s2t : Same Hd (upd Hd t2 (.tup [.int (r.s : Int), .ref t1, .int ((es.idxOf r.c : Nat) : Int)])) := (Fr.new (M := []) ht2).same
          have h2t : SqT K (upd Hd t2 (.tup [.int (r.s : Int), .ref t1, .int ((es.idxOf r.c : Nat) : Int)])) t2 [.int (r.s : Int), .ref t1, .int ((es.idxOf r.c : Nat) : Int)] := SqT.of upd_same
          generalize upd Hd t2 (.tup [.int (r.s : Int), .ref t1, .int ((es.idxOf r.c : Nat) : Int)]) = He at s2t h2t
          have sae := (sac.trans s1t).trans s2t
          have fe := sae _ _ fa
          have tm : Tps K He (upd He f (.lst (acc ++ [.ref t2]))) := .mut fe trivial
          refine ⟨f, acc, _, rfl, rfl, fe, small_line (by omega), ?_⟩
          refine ⟨_, _, _, _, _, _, _, acc ++ [.ref t2], rfl, ((Fr.of_same (M := []) (sa.trans sae)).put (.inl f0)).same, upd_same, ?_, ?_⟩
          · rw [e1, alive_snoc, if_pos ⟨hc, hin⟩, List.map_append, List.map_append]
            refine DpAll.app (DpAll.tps ((Tps.same sae).trans tm) _ _ (flatDs_all _ _ rowD_flat) dA) (.cons ?_ .nil)
            refine .tup (tm _ _ h2t) (.cons (.int _) (.cons (Dp.of_nats (tm _ _ ((Tps.same s2t) _ _ ?_))) (.cons (.int _) .nil)))
            show SqT K Hd t1 ((r.is.map es.idxOf).map _)
            rw [List.map_map]
            exact h1t
          · obtain ⟨kvs, k1, k2⟩ := NA.same sae
            exact ⟨kvs, by rw [upd_ne (Ne.symm fne)]; exact k1, k2⟩
    · rintro _ H5 ⟨v5, v6, v7, v8, v9, v10, v11, acc, rfl, s5, f5, d5, _⟩
      rw [lxR, List.take_of_length_le (Nat.le_refl _)] at d5
      exact hZ _ _ ⟨_, _, _, _, _, _, _, _, rfl, s5, f5, d5⟩
  rintro _ H5 ⟨v5, v6, v7, v8, v9, v10, v11, acc, rfl, s5, f5, d5⟩
  obtain ⟨T, pt, et⟩ := sort_map rowD ((KB.alive R es).map (ren es))
  refine ⟨_, rfl, f, acc, _, rfl, SqL.of f5, d5, ?_, .inl ?_, ?_, fun p ys hp hy => ?_⟩
  · intro x hx y hy
    obtain ⟨a, _, rfl⟩ := List.mem_map.mp hx
    obtain ⟨b, _, rfl⟩ := List.mem_map.mp hy
    exact rowD_alike a b
  · intro x hx
    obtain ⟨a, _, rfl⟩ := List.mem_map.mp hx
    exact ⟨_, _, rfl⟩
  · intro x hx
    obtain ⟨a, _, rfl⟩ := List.mem_map.mp hx
    have := depth_rowD a
    omega
  rw [et] at hy
  have sp : Same H5 (upd H5 p (.lst ys)) := (Fr.new (M := []) hp).same
  have hy2 := DpAll.tps (Tps.same (K := K) sp) _ _ (flatDs_all _ _ rowD_flat) hy
  have tp : (upd H5 p (.lst ys)) p = some (.lst ys) := upd_same
  generalize upd H5 p (.lst ys) = H6 at sp hy2 tp
  refine ⟨p, _, rfl, .inl ⟨SqL.of tp, fun q hq' => ?_⟩⟩
  have sq : Same H6 (upd H6 q (.tup ys)) := (Fr.new (M := []) hq').same
  refine k q T es B _ ((s5.trans sp).trans sq) (.tup (SqT.of upd_same) (DpAll.tps (Tps.same sq) _ _ (flatDs_all _ _ rowD_flat) hy2)) ⟨?_, dn, pt⟩
  have mq : ∀ c, c ∈ es ↔ c ∈ ks := fun c => pm.mem_iff
  have ea : KB.alive R es = KB.alive R ks := by
    unfold KB.alive
    simp only [mq]
  exact ⟨fun c => (O1.dom c).trans (mq c).symm, end_, fun c hc => O1.cl c ((mq c).mp hc), O1.sz, fun c t e => by rw [ea]; exact O1.mem c t e⟩
end
end R59
/-! KT -/
namespace R59
open KB
/-- what keeps the sizes of a table's terms -/
def Bnd (T : List Row) (n : Nat) : Prop := (∃ A, A ≤ 3 ∧ n ≤ 7 ∧ full A n ≤ 40 ∧ ∀ r ∈ T, r.is.length ≤ A) ∨ ∃ z : Nat → Nat, (∀ r ∈ T, 1 + (r.is.map z).sum ≤ z r.c) ∧ ∀ c, z c ≤ 41
def BndR (R : List Row) : Prop := (∃ A N, A ≤ 3 ∧ N ≤ 7 ∧ full A N ≤ 40 ∧ (∀ r ∈ R, r.is.length ≤ A) ∧ ∀ r ∈ R, r.c < N) ∨ ∃ z : Nat → Nat, (∀ r ∈ R, 1 + (r.is.map z).sum ≤ z r.c) ∧ ∀ c, z c ≤ 41
structure TabG (ar : Nat → Nat) (T : List Row) (n : Nat) : Prop where
  n1 : 1 ≤ n
  n42 : n ≤ 42
  cl : ∀ r ∈ T, r.c < n ∧ ∀ i ∈ r.is, i < n
  uq : Uniq T
  nd : T.Nodup
  a3 : ∀ r ∈ T, r.is.length = ar r.s
  ar3 : ∀ s, ar s ≤ 3
  s5 : ∀ r ∈ T, r.s ≤ 5
  len : T.length ≤ 42
  has : ∀ c, c < n → ∃ t, Mem T t c ∧ t.size ≤ 40
  bnd : Bnd T n
theorem TabG.ne {ar : Nat → Nat} {T : List Row} {n : Nat} (G : TabG ar T n) : T ≠ [] := fun e => by
  obtain ⟨t, h, _⟩ := G.has 0 G.n1
  subst e
  cases h with
  | mk h => cases h
theorem TabG.row {ar : Nat → Nat} {T : List Row} {n : Nat} (G : TabG ar T n) {c : Nat} (hc : c < n) : ∃ r ∈ T, r.c = c := by
  obtain ⟨t, h, _⟩ := G.has c hc
  cases h with
  | mk h => exact ⟨_, h, rfl⟩
mutual
theorem Mem.ren {R T : List Row} {es : List Nat} (h : ∀ r ∈ R, ren es r ∈ T) : ∀ (t : Tm) (c : Nat), Mem R t c → Mem T t (es.idxOf c)
  | .node s ts, c, .mk hr hk => .mk (h _ hr) (MemL.ren h ts _ hk)
theorem MemL.ren {R T : List Row} {es : List Nat} (h : ∀ r ∈ R, R59.ren es r ∈ T) : ∀ (ts : List Tm) (is : List Nat), MemL R ts is → MemL T ts (is.map es.idxOf)
  | [], _, .nil => .nil
  | t :: ts, _, .cons a k => .cons (Mem.ren h t _ a) (MemL.ren h ts _ k)
end
theorem idx_lt {es : List Nat} {c : Nat} (h : c ∈ es) : es.idxOf c < es.length := List.idxOf_lt_length_iff.mpr h
theorem idx_get {es : List Nat} {c : Nat} (h : c ∈ es) : es[es.idxOf c]? = some c := by
  rw [List.getElem?_eq_getElem (idx_lt h)]
  exact congrArg some (List.getElem_idxOf (idx_lt h))
theorem idx_inj {es : List Nat} {a b : Nat} (ha : a ∈ es) (hb : b ∈ es) (h : es.idxOf a = es.idxOf b) : a = b := by
  have := idx_get ha
  rw [h, idx_get hb] at this
  exact (Option.some.inj this).symm
theorem idxL_inj {es : List Nat} : ∀ {a b : List Nat}, (∀ x ∈ a, x ∈ es) → (∀ x ∈ b, x ∈ es) → a.map es.idxOf = b.map es.idxOf → a = b
  | [], [], _, _, _ => rfl
  | [], _ :: _, _, _, h => by cases h
  | _ :: _, [], _, _, h => by cases h
  | x :: a, y :: b, ha, hb, h => by
    rw [List.map_cons, List.map_cons] at h
    injection h with h1 h2
    rw [idx_inj (ha x (by simp)) (hb y (by simp)) h1, idxL_inj (fun x hx => ha x (by simp [hx])) (fun x hx => hb x (by simp [hx])) h2]
theorem ren_inj {R : List Row} {es : List Nat} {a b : Row} (ha : a ∈ KB.alive R es) (hb : b ∈ KB.alive R es) (h : ren es a = ren es b) : a = b := by
  obtain ⟨_, h1, h2⟩ := mem_alive.mp ha
  obtain ⟨_, h3, h4⟩ := mem_alive.mp hb
  obtain ⟨s, is, c⟩ := a
  obtain ⟨s', is', c'⟩ := b
  unfold ren at h
  injection h with e1 e2 e3
  dsimp only at *
  rw [e1, idxL_inj h2 h4 e2, idx_inj h1 h3 e3]
theorem nodup_map {α β : Type} {f : α → β} : ∀ {l : List α}, l.Nodup → (∀ a ∈ l, ∀ b ∈ l, f a = f b → a = b) → (l.map f).Nodup
  | [], _, _ => List.nodup_nil
  | x :: l, h, i => by
    rw [List.map_cons, List.nodup_cons]
    rw [List.nodup_cons] at h
    refine ⟨fun m => ?_, nodup_map h.2 fun a ha b hb => i a (by simp [ha]) b (by simp [hb])⟩
    obtain ⟨y, hy, e⟩ := List.mem_map.mp m
    rw [i x (by simp) y (by simp [hy]) e.symm] at h
    exact h.1 hy
theorem idx_of_get {es : List Nat} (nd : es.Nodup) {k c : Nat} (h : es[k]? = some c) : es.idxOf c = k := by
  have hc := List.mem_of_getElem? h
  have h2 := idx_get hc
  have l1 := (List.getElem?_eq_some_iff.mp h).1
  have e1 := (List.getElem?_eq_some_iff.mp h).2
  have e2 := (List.getElem?_eq_some_iff.mp h2).2
  rcases Nat.lt_trichotomy (es.idxOf c) k with q | q | q
  · have := List.pairwise_iff_getElem.mp nd _ _ (idx_lt hc) l1 q
    exact absurd (e2.trans e1.symm) this
  · exact q
  · have := List.pairwise_iff_getElem.mp nd _ _ l1 (idx_lt hc) q
    exact absurd (e1.trans e2.symm) this
theorem TabOf.syms {R T : List Row} {es : List Nat} {B : Bsts} {k : Nat} (X : TabOf R T es B) (h : ∀ r ∈ R, r.s < k) : ∀ r ∈ T, r.s < k := fun r hr => by
  obtain ⟨r0, h0, rfl⟩ := List.mem_map.mp (X.pm.mem_iff.mp hr)
  exact h r0 (mem_alive.mp h0).1
theorem TabOf.good {ar : Nat → Nat} {R T : List Row} {es : List Nat} {B : Bsts} (X : TabOf R T es B) (ok : RwOk ar R) (bd : BndR R) : TabG ar T es.length := by
  have mT : ∀ {r}, r ∈ T ↔ ∃ r0, r0 ∈ KB.alive R es ∧ ren es r0 = r := fun {r} => by
    rw [X.pm.mem_iff, List.mem_map]
  have Bs : ∀ {c}, c ∈ es → ∃ t, B c = some t := fun {c} hc => by
    have := (X.ok.dom c).mpr hc
    cases e : B c with
    | none =>
      rw [e] at this
      cases this
    | some t => exact ⟨t, rfl⟩
  have ndR : R.Nodup := ok.uq.imp fun h e => h ⟨by rw [e], by rw [e]⟩
  have uqR : ∀ r ∈ R, ∀ r' ∈ R, r.s = r'.s → r.is = r'.is → r = r' := by
    intro r hr r' hr' e1 e2
    refine Classical.byContradiction fun ne => ?_
    obtain ⟨i, hi, rfl⟩ := List.mem_iff_getElem.mp hr
    obtain ⟨j, hj, rfl⟩ := List.mem_iff_getElem.mp hr'
    rcases Nat.lt_trichotomy i j with q | q | q
    · exact List.pairwise_iff_getElem.mp ok.uq i j hi hj q ⟨e1, e2⟩
    · subst q
      exact ne rfl
    · exact List.pairwise_iff_getElem.mp ok.uq j i hj hi q ⟨e1.symm, e2.symm⟩
  have ndA : (KB.alive R es).Nodup := ndR.sublist List.filter_sublist
  have lenA : (KB.alive R es).length ≤ 42 := Nat.le_trans (List.length_filter_le _ _) ok.len
  have n1 : 1 ≤ es.length := by
    obtain ⟨r, hr, e⟩ := ok.fst
    obtain ⟨u, hu, _⟩ := X.done r hr [] (by rw [e]; rfl) (by rw [sizes]; omega)
    have := (X.ok.dom r.c).mp (by rw [hu]; rfl)
    exact Nat.pos_of_ne_zero fun e => by
      rw [List.length_eq_zero_iff.mp e] at this
      cases this
  have n42 : es.length ≤ 42 := by
    have h1 : es.length ≤ (R.map (·.c)).length := sub_len X.ok.nd fun c hc => by
      obtain ⟨r, hr, e⟩ := X.ok.cl c hc
      exact List.mem_map.mpr ⟨r, hr, e⟩
    rw [List.length_map] at h1
    have := ok.len
    omega
  refine ⟨n1, n42, ?_, ?_, ?_, ?_, ok.ar3, ?_, ?_, ?_, ?_⟩
  · intro r hr
    obtain ⟨r0, h0, rfl⟩ := mT.mp hr
    obtain ⟨h1, h2, h3⟩ := mem_alive.mp h0
    refine ⟨idx_lt h2, fun i hi => ?_⟩
    obtain ⟨j, hj, rfl⟩ := List.mem_map.mp hi
    exact idx_lt (h3 j hj)
  · intro r hr r' hr' e1 e2
    obtain ⟨r0, h0, rfl⟩ := mT.mp hr
    obtain ⟨r1, h1, rfl⟩ := mT.mp hr'
    obtain ⟨a1, a2, a3⟩ := mem_alive.mp h0
    obtain ⟨b1, b2, b3⟩ := mem_alive.mp h1
    rw [uqR r0 a1 r1 b1 e1 (idxL_inj a3 b3 e2)]
  · exact X.pm.nodup_iff.mpr (nodup_map ndA fun a ha b hb e => ren_inj ha hb e)
  · intro r hr
    obtain ⟨r0, h0, rfl⟩ := mT.mp hr
    show (r0.is.map es.idxOf).length = ar r0.s
    rw [List.length_map]
    exact ok.a3 r0 (mem_alive.mp h0).1
  · intro r hr
    obtain ⟨r0, h0, rfl⟩ := mT.mp hr
    exact ok.s5 r0 (mem_alive.mp h0).1
  · rw [X.pm.length_eq, List.length_map]
    exact lenA
  · intro c hc
    obtain ⟨t, hb⟩ := Bs (List.getElem_mem hc)
    have hm := X.ok.mem _ t hb
    have := Mem.ren (T := T) (es := es) (fun r hr => mT.mpr ⟨r, hr, rfl⟩) t _ hm
    rw [idx_of_get X.ok.nd (List.getElem?_eq_getElem hc)] at this
    exact ⟨t, this, X.ok.sz _ t hb⟩
  · rcases bd with ⟨A, N, h1, h2, h3, h4, h5⟩ | ⟨z, h1, h2⟩
    · have hn : es.length ≤ N := by
        have : es.length ≤ (List.range N).length := sub_len X.ok.nd fun c hc => by
          obtain ⟨r, hr, e⟩ := X.ok.cl c hc
          have := h5 r hr
          simp
          omega
        rwa [List.length_range] at this
      refine .inl ⟨A, h1, by omega, Nat.le_trans (full_mono A hn) h3, fun r hr => ?_⟩
      obtain ⟨r0, h0, rfl⟩ := mT.mp hr
      show (r0.is.map es.idxOf).length ≤ A
      rw [List.length_map]
      exact h4 r0 (mem_alive.mp h0).1
    · refine .inr ⟨fun k => z (es.getD k 0), fun r hr => ?_, fun c => h2 _⟩
      obtain ⟨r0, h0, rfl⟩ := mT.mp hr
      obtain ⟨a1, a2, a3⟩ := mem_alive.mp h0
      have gd : ∀ {i}, i ∈ es → es.getD (es.idxOf i) 0 = i := fun {i} hi => by
        rw [List.getD_eq_getElem?_getD, idx_get hi]
        rfl
      show 1 + ((r0.is.map es.idxOf).map fun k => z (es.getD k 0)).sum ≤ z (es.getD (es.idxOf r0.c) 0)
      rw [List.map_map, gd a2]
      have : r0.is.map ((fun k => z (es.getD k 0)) ∘ es.idxOf) = r0.is.map z := List.map_congr_left fun i hi => by
        show z (es.getD (es.idxOf i) 0) = z i
        rw [gd (a3 i hi)]
      rw [this]
      exact h1 r0 a1
end R59
/-! W9 -/
set_option maxHeartbeats 1000000
namespace R59
open PySem PyProof.Rows L2 KB PySem.W
theorem first_at {α : Type} [DecidableEq α] {x : α} : ∀ {l : List α}, x ∈ l → ∃ j : Nat, j < l.length ∧ l[j]? = some x ∧ ∀ m : Nat, m < j → l[m]? ≠ some x
  | y :: l, h => by
    by_cases e : y = x
    · exact ⟨0, by simp, by simp [e], fun m hm => by omega⟩
    · obtain ⟨j, h1, h2, h3⟩ := first_at (l := l) (by rcases List.mem_cons.mp h with q | q; exact absurd q.symm e; exact q)
      refine ⟨j + 1, by simp; omega, by simpa using h2, fun m hm => ?_⟩
      cases m with
      | zero => simpa using e
      | succ m => simpa using h3 m (by omega)
theorem Sig.le3 {sg : List Int} (S : Sig sg) (s : Nat) : arOf sg s ≤ 3 := by
  unfold arOf
  rw [List.getD_eq_getElem?_getD]
  cases e : sg[s]? with
  | none => decide
  | some x =>
    have := S.ar x (List.mem_of_getElem? e)
    show x.toNat ≤ 3
    omega
theorem arOf_at {sg : List Int} {j : Nat} {x : Int} (h : sg[j]? = some x) : arOf sg j = x.toNat := by
  unfold arOf
  rw [List.getD_eq_getElem?_getD, h]
  rfl
theorem Sig.perm {sg ns : List Int} (h : sg.Perm ns) (S : Sig ns) : Sig sg := ⟨by rw [h.length_eq]; exact S.lo, by rw [h.length_eq]; exact S.hi, fun x hx => S.ar x (h.mem_iff.mp hx), h.mem_iff.mpr S.pl⟩
theorem row_made {K : PySem.W.Frag} {H : Hp} {q p : Addr} {s c : Nat} {is : List Nat} (h1 : SqT K H q (is.map fun i : Nat => V.int (i : Int))) (h2 : SqT K H p [.int (s : Int), .ref q, .int (c : Int)]) : Dp K H (.ref p) (rowD ⟨s, is, c⟩) :=
  .tup h2 (.cons (.int _) (.cons (Dp.of_nats h1) (.cons (.int _) .nil)))
theorem SqT.frz {K : PySem.W.Frag} {H : Hp} {p : Addr} {o : Obj} {xs : List V} (h : H p = some (.frz o (.tup xs))) : SqT K H p xs := .inl (.inr ⟨o, h⟩)
/-- a signature and its table, made of draws -/
def spMade (K : PySem.W.Frag) : Sp := fun vs H Q _ => ∃ (b cl : Addr), vs = [.ref b] ∧ Bag H b cl ∧ ∀ (p sa ta : Addr) (sg : List Int) (T : List Row) (n : Nat) (H' : Hp), Bag H' b cl → Fr [b, cl] H H' → SqT K H' p [.ref sa, .ref ta] → SqT K H' sa (sg.map V.int) → Sig sg → Dp K H' (.ref ta) (tabD T) → TabG (arOf sg) T n → (∀ r ∈ T, r.s < sg.length) → Q (.ref p) H'
section
variable {P : Program} {w : World} {K : PySem.W.Frag} {mg : Str → Option Value} {base : Heap} {f : Addr} {fd : FuncData}
/-! ### _law_ring -/
abbrev s_law_ring : Stmt := top 33
abbrev N_law_ring : List Str := ["bag", "signature", "rows", "many", "one", "k"]
theorem sc_law_ring : FnScope N_law_ring ["bag"] (defScope s_law_ring) := ⟨rfl, rfl, rfl, by decide +kernel, rfl, by decide +kernel, by decide +kernel⟩
theorem ok_ring (F : FnP K "_law_ring" "_law_ring" s_law_ring f fd) (T : Nm mg) (h_law_draw : Has P w K mg base CX0 "_law_draw" ["bag", "below"] 1 spDraw) (h_law_shuffled : Has P w K mg base CX0 "_law_shuffled" ["bag", "some"] 2 spShuf) (h_law_table : Has P w K mg base CX0 "_law_table" ["rows"] 2 (spTable K)) :
    FnOk P w K mg base CX0 3 f fd ["bag"] (spMade K) := by
  refine F.ok sc_law_ring (fun vs H Q E h => ?_) (fun cdv A outer s H vs Q E hr h => ?_)
  · obtain ⟨b, cl, rfl, _⟩ := h
    rfl
  obtain ⟨b, cl, rfl, B, k⟩ := h
  have hq := hq_of hr
  have hu := hu_of hr
  refine ⟨_, PSs.nox
  (pss_cons (ps_set (i := 1) sc_law_ring.nd rfl (Or.inl rfl) (pe_callTy (cr_tupleFK K) (by rfl) T.tuple bt_tuple (pa_cons (pe_f h_law_shuffled (hr.mono (by decide)) (by rfl) (pa_cons (pv 0) (pa_cons (pe_lst (pa_cons pe_int (pa_cons pe_int pa_nil))) pa_nil))) pa_nil)))
      (pss_cons (ps_asg (pe_tup (pa_cons (pe_op (op_addK K) pe_int (pe_f h_law_draw (hr.mono (by decide)) (by rfl) (pa_cons (pv 0) (pa_cons pe_int pa_nil)))) (pa_cons (pe_bmF PySem.F.slot_tuple_index PySem.F.type_tuple_index mt_tup_indexI (pv 1) (pa_cons pe_int pa_nil)) pa_nil))) (pg_tupK (n := 2) K rfl (pgs_cons (pg_name (i := 3) sc_law_ring.nd rfl (Or.inr rfl)) (pgs_cons (pg_name (i := 4) sc_law_ring.nd rfl (Or.inr rfl)) pgs_nil))))
      (pss_cons (ps_set (i := 2) sc_law_ring.nd rfl (Or.inl rfl) (pe_op (op_addK K) (pe_lst (pa_cons (pe_tup (pa_cons (pe_bmF PySem.F.slot_tuple_index PySem.F.type_tuple_index mt_tup_indexI (pv 1) (pa_cons pe_int pa_nil)) (pa_cons (pe_tup pa_nil) (pa_cons pe_int pa_nil)))) pa_nil)) (pe_lc (own := [("k", 5)]) rfl sc_law_ring.nd (pi_range1 (by rfl) T.range (pa_cons (pv 3) pa_nil)) (blkOk_by (N := N_law_ring) (sc := defScope s_law_ring) (by decide +kernel)) (fun _ _ _ _ _ => (pg_name (i := 5) sc_law_ring.nd rfl (Or.inl rfl))) (fun _ _ _ _ _ => pts_nil) (fun _ _ _ _ _ => (pe_tup (pa_cons (pv 4) (pa_cons (pe_tup (pa_cons (pv 5) pa_nil)) (pa_cons (pe_op op_mod (pe_op (op_addK K) (pv 5) pe_int) (pv 3)) pa_nil))))))))
      (pss_one (ps_ret (pe_tup (pa_cons (pv 1) (pa_cons (pe_f h_law_table (hr.mono (by decide)) (by rfl) (pa_cons (pv 2) pa_nil)) pa_nil)))))))), ?_⟩
  -- signature = tuple(_law_shuffled(bag, [0, 1]))
  refine seq_cut (fun σ H' => ∃ (sa : Addr) (o : Obj) (sg : List Int), σ = [some (.ref b), some (.ref sa), none, none, none, none] ∧ Bag H' b cl ∧ Fr [b, cl] H H' ∧ H' sa = some (.frz o (.tup (sg.map V.int))) ∧ o.cls = .type "tuple" ∧ o.dict = none ∧ sa ∉ [b, cl] ∧ sg.Perm [0, 1]) (fun Z hZ => ?_) ?_
  · refine ⟨_, rfl, by decide, fun l hl => ?_⟩
    refine ⟨b, cl, l, [0, 1], rfl, B.new hl, upd_same, B.out hl, by decide, fun p ms H1 B1 fr1 p0 hp pm => ?_⟩
    refine ⟨p, _, rfl, SqL.of hp, fun q o hq0 oc od => ?_⟩
    exact hZ _ _ ⟨q, o, ms, rfl, B1.new hq0, ((Fr.new hl).trans fr1).trans (Fr.new hq0), upd_same, oc, od, B1.out hq0, pm⟩
  rintro _ H1 ⟨sa, o, sg, rfl, B1, fr1, hsa, oc, od, nsa, pm⟩
  have S : Sig sg := Sig.perm pm ⟨by decide, by decide, by decide, by decide⟩
  obtain ⟨j1, hj1, ej1, fj1⟩ := first_at (x := (1 : Int)) (l := sg) (pm.mem_iff.mpr (by decide))
  obtain ⟨j0, hj0, ej0, fj0⟩ := first_at (x := (0 : Int)) (l := sg) (pm.mem_iff.mpr (by decide))
  have sl : sg.length = 2 := pm.length_eq
  -- many, one = (2 + _law_draw(bag, 6), signature.index(1))
  refine seq_cut (fun σ H' => ∃ m : Nat, σ = [some (.ref b), some (.ref sa), none, some (.int (m : Nat)), some (.int (j1 : Nat)), none] ∧ Bag H' b cl ∧ Fr [b, cl] H H' ∧ H' sa = some (.frz o (.tup (sg.map V.int))) ∧ 2 ≤ m ∧ m ≤ 7) (fun Z hZ => ?_) ?_
  · refine ⟨_, rfl, b, cl, 6, rfl, B1, by decide, by decide, fun r H2 r0 r1 B2 fr2 => ?_⟩
    have hsa2 := fr2 _ _ hsa nsa
    obtain ⟨m, rfl⟩ := Int.eq_ofNat_of_zero_le r0
    refine .inl ⟨_, _, rfl, rfl, ?_⟩
    refine ⟨_, rfl, ⟨sa, o, _, rfl, hsa2, oc, od⟩, sa, sg, 1, j1, rfl, rfl, SqT.frz hsa2, ej1, fj1, by show 2 ≤ sizeLine; decide, fun t ht => ⟨t, _, rfl, SqT.of upd_same, rfl, _, _, rfl, _, _, rfl, rfl, ?_⟩⟩
    refine hZ _ _ ⟨2 + m, ?_, B2.new ht, (fr1.trans fr2).trans (Fr.new ht), (Fr.new (M := [b, cl]) ht) _ _ hsa2 nsa, by omega, by omega⟩
    have : (2 : Int) + (m : Int) = ((2 + m : Nat) : Int) := by omega
    rw [← this]
    rfl
  rintro _ H2 ⟨m, rfl, B2, fr2, hsa2, m2, m7⟩
  -- rows = [..] + [..]
  refine seq_cut (fun σ H' => ∃ (rp : Addr) (xs : List V) (v5 : Option V), σ = [some (.ref b), some (.ref sa), some (.ref rp), some (.int (m : Nat)), some (.int (j1 : Nat)), v5] ∧ Bag H' b cl ∧ Fr [b, cl] H H' ∧ H' sa = some (.frz o (.tup (sg.map V.int))) ∧ H' rp = some (.lst xs) ∧ DpAll K H' xs ((⟨j0, [], 0⟩ :: (List.range m).map fun k => (⟨j1, [k], (k + 1) % m⟩ : Row)).map rowD)) (fun Z hZ => ?_) ?_
  · refine ⟨_, rfl, ⟨sa, o, _, rfl, hsa2, oc, od⟩, sa, sg, 0, j0, rfl, rfl, SqT.frz hsa2, ej0, fj0, by show 0 ≤ sizeLine; decide, fun t0 ht0 => ?_⟩
    refine ⟨by show 3 ≤ sizeLine; decide, fun t1 ht1 => ⟨by show 1 ≤ sizeLine; decide, fun l hl => ?_⟩⟩
    have s0 : Same H2 (upd H2 t0 (.tup [])) := (Fr.new (M := []) ht0).same
    have h0 : SqT K (upd H2 t0 (.tup [])) t0 [] := SqT.of upd_same
    generalize upd H2 t0 (.tup []) = Ha at s0 h0 ht1 hl
    have s1 : Same Ha (upd Ha t1 (.tup [.int (j0 : Nat), .ref t0, .int 0])) := (Fr.new (M := []) ht1).same
    have h1 : SqT K (upd Ha t1 (.tup [.int (j0 : Nat), .ref t0, .int 0])) t1 [.int (j0 : Nat), .ref t0, .int 0] := SqT.of upd_same
    generalize upd Ha t1 (.tup [.int (j0 : Nat), .ref t0, .int 0]) = Hb at s1 h1 hl
    have s2 : Same Hb (upd Hb l (.lst [.ref t1])) := (Fr.new (M := []) hl).same
    have h2 : (upd Hb l (.lst [.ref t1])) l = some (.lst [.ref t1]) := upd_same
    generalize upd Hb l (.lst [.ref t1]) = Hc at s2 h2
    have s2c := (s0.trans s1).trans s2
    have dr : Dp K Hc (.ref t1) (rowD ⟨j0, [], 0⟩) := row_made (q := t0) ((Tps.same (s1.trans s2)) _ _ h0) ((Tps.same s2) _ _ h1)
    refine ⟨_, rfl, _, rfl, by omega, by omega, fun D hD => ?_⟩
    refine lcM (walk_range (lo := 0) (n := ((m : Nat) : Int).toNat)) [] hD (fun i acc H' => DpAll K H' acc (((List.range i).map fun k => (⟨j1, [k], (k + 1) % m⟩ : Row)).map rowD)) .nil (fun _ _ _ _ _ => trivial) ?_ ?_
    · rintro i x acc Hd He Nx hN hi fr e dA ⟨rfl, rfl⟩
      refine ⟨rfl, ?_⟩
      refine ⟨_, rfl, _, rfl, by show 1 ≤ sizeLine; decide, fun t2 ht2 => ?_⟩
      have s3 : Same He (upd He t2 (.tup [.int (0 + (i : Nat))])) := (Fr.new (M := []) ht2).same
      have h3 : SqT K (upd He t2 (.tup [.int (0 + (i : Nat))])) t2 [.int (0 + (i : Nat))] := SqT.of upd_same
      generalize upd He t2 (.tup [.int (0 + (i : Nat))]) = Hf at s3 h3
      refine ⟨_, rfl, .inl ⟨_, _, rfl, rfl, _, rfl, ?_⟩⟩
      refine ⟨_, _, rfl, rfl, by omega, by show 3 ≤ sizeLine; decide, fun t3 ht3 => ?_⟩
      dsimp only
      have em : (0 + (i : Int) + 1) % (m : Int) = (((i + 1) % m : Nat) : Int) := by
        rw [Int.natCast_emod]
        congr 1
        omega
      rw [em]
      have s4 : Same Hf (upd Hf t3 (.tup [.int (j1 : Nat), .ref t2, .int ((i + 1) % m : Nat)])) := (Fr.new (M := []) ht3).same
      have h4 : SqT K (upd Hf t3 (.tup [.int (j1 : Nat), .ref t2, .int ((i + 1) % m : Nat)])) t3 [.int (j1 : Nat), .ref t2, .int ((i + 1) % m : Nat)] := SqT.of upd_same
      generalize upd Hf t3 (.tup [.int (j1 : Nat), .ref t2, .int ((i + 1) % m : Nat)]) = Hg at s4 h4
      have s34 := s3.trans s4
      have la : acc.length ≤ 7 := by
        rw [DpAll.len dA, List.length_map, List.length_map, List.length_range]
        omega
      have tm : Tps K Hg (upd Hg D (.lst (acc ++ [.ref t3]))) := .mut (s34 _ _ e) trivial
      refine ⟨acc, s34 _ _ e, small_line (by omega), hN _ _ upd_same ((fr.trans (.of_same s34)).put (.inl hD)) ?_⟩
      rw [List.range_succ, List.map_append, List.map_append]
      refine DpAll.app (DpAll.tps ((Tps.same s34).trans tm) _ _ (flatDs_all _ _ rowD_flat) dA) (.cons (row_made (q := t2) (is := [i]) (tm _ _ ((Tps.same s4) _ _ ?_)) (tm _ _ h4)) .nil)
      rw [show (0 + (i : Int)) = (i : Int) by omega] at h3
      exact h3
    · rintro acc He fr e dA
      rw [Int.toNat_natCast] at dA
      have la : acc.length ≤ 7 := by
        rw [DpAll.len dA, List.length_map, List.length_map, List.length_range]
        omega
      refine .inr (.inl ⟨l, D, _, acc, rfl, rfl, fr.same _ _ h2, e, Nat.le_of_lt (small_line (by simp; omega)), fun rp hrp => ?_⟩)
      have s5 := (s2c.trans fr.same).trans (Fr.new (M := []) (o := .lst ([.ref t1] ++ acc)) hrp).same
      have t6 := Tps.same (K := K) (Fr.new (M := []) (o := .lst ([.ref t1] ++ acc)) hrp).same
      exact hZ _ _ ⟨rp, _, none, rfl, B2.same s5, fr2.trans (.of_same s5), s5 _ _ hsa2, upd_same, .cons (Dp.tps ((Tps.same fr.same).trans t6) _ _ (rowD_flat _) dr) (DpAll.tps t6 _ _ (flatDs_all _ _ rowD_flat) dA)⟩
  rintro _ H3 ⟨rp, xs, v5, rfl, B3, fr3, hsa3, hrp, dx⟩
  have ne01 : j0 ≠ j1 := fun e => by
    rw [e, ej1] at ej0
    cases ej0
  have ok : RwOk (arOf sg) (⟨j0, [], 0⟩ :: (List.range m).map fun k => (⟨j1, [k], (k + 1) % m⟩ : Row)) := by
    have mod_lt : ∀ k, (k + 1) % m < m := fun k => Nat.mod_lt _ (by omega)
    refine ⟨by simp; omega, ?_, ?_, S.le3, ?_, ?_, ⟨_, List.mem_cons_self, rfl⟩⟩
    · intro r hr
      rcases List.mem_cons.mp hr with rfl | hr
      · show j0 ≤ 5
        omega
      · obtain ⟨k, hk, rfl⟩ := List.mem_map.mp hr
        show j1 ≤ 5
        omega
    · intro r hr
      rcases List.mem_cons.mp hr with rfl | hr
      · show 0 = arOf sg j0
        rw [arOf_at ej0]
        rfl
      · obtain ⟨k, hk, rfl⟩ := List.mem_map.mp hr
        show 1 = arOf sg j1
        rw [arOf_at ej1]
        rfl
    · refine List.pairwise_cons.mpr ⟨fun r hr e => ?_, List.pairwise_map.mpr (List.pairwise_lt_range.imp fun h e => ?_)⟩
      · obtain ⟨k, hk, rfl⟩ := List.mem_map.mp hr
        exact ne01 e.1
      · have := e.2
        simp at this
        omega
    · intro r hr
      rcases List.mem_cons.mp hr with rfl | hr
      · exact ⟨by show 0 ≤ 99; omega, fun i hi => by cases hi⟩
      · obtain ⟨k, hk, rfl⟩ := List.mem_map.mp hr
        have h1 := mod_lt k
        have h2 := List.mem_range.mp hk
        refine ⟨by show (k + 1) % m ≤ 99; omega, fun i hi => ?_⟩
        rcases List.mem_cons.mp hi with rfl | hi
        · omega
        · cases hi
  have bd : BndR (⟨j0, [], 0⟩ :: (List.range m).map fun k => (⟨j1, [k], (k + 1) % m⟩ : Row)) := by
    refine .inl ⟨1, 7, by decide, by decide, by decide, ?_, ?_⟩
    · intro r hr
      rcases List.mem_cons.mp hr with rfl | hr
      · exact Nat.zero_le _
      · obtain ⟨k, hk, rfl⟩ := List.mem_map.mp hr
        exact Nat.le_refl _
    · intro r hr
      rcases List.mem_cons.mp hr with rfl | hr
      · show 0 < 7
        omega
      · obtain ⟨k, hk, rfl⟩ := List.mem_map.mp hr
        have : (k + 1) % m < m := Nat.mod_lt _ (by omega)
        show (k + 1) % m < 7
        omega
  -- return (signature, _law_table(rows))
  refine ⟨_, rfl, _, rfl, rp, xs, _, arOf sg, rfl, hrp, dx, ok, fun ta Tb es Bs H4 s4 dt X => ⟨by show 2 ≤ sizeLine; decide, fun p hp => ?_⟩⟩
  have s5 := (Fr.new (M := []) (o := .tup [.ref sa, .ref ta]) hp).same
  exact k p sa ta sg Tb es.length _ (B3.same (s4.trans s5)) (fr3.trans (.of_same (s4.trans s5))) (SqT.of upd_same) (SqT.frz ((s4.trans s5) _ _ hsa3)) S (Dp.tps (Tps.same s5) _ _ (tabD_flat _) dt) (X.good ok bd) (X.syms fun r hr => by
    rcases List.mem_cons.mp hr with rfl | hr
    · exact hj0
    · obtain ⟨k, hk, rfl⟩ := List.mem_map.mp hr
      exact hj1)
end
end R59
/-! W10 -/
set_option maxHeartbeats 1000000
namespace R59
open PySem PyProof.Rows L2 KB PySem.W
theorem a_cut {te : TE} {ta : TA} {σ : L2.St} {H : Hp} {Q : List V → Hp → Prop} (Mid : V → Hp → Prop) (h1 : ∀ Z : VK, (∀ v H, Mid v H → Z v H) → te σ H Z) (h2 : ∀ v H, Mid v H → ta σ H fun xs H2 => Q (v :: xs) H2) : tCons te ta σ H Q := h1 _ h2
section
variable {P : Program} {w : World} {K : PySem.W.Frag} {mg : Str → Option Value} {base : Heap} {f : Addr} {fd : FuncData}
/-! ### _law_ties -/
abbrev s_law_ties : Stmt := top 34
abbrev N_law_ties : List Str := ["bag", "signature", "rows", "k", "arity"]
theorem sc_law_ties : FnScope N_law_ties ["bag"] (defScope s_law_ties) := ⟨rfl, rfl, rfl, by decide +kernel, rfl, by decide +kernel, by decide +kernel⟩
theorem ok_ties (F : FnP K "_law_ties" "_law_ties" s_law_ties f fd) (T : Nm mg) (h_law_draw : Has P w K mg base CX0 "_law_draw" ["bag", "below"] 1 spDraw) (h_law_shuffled : Has P w K mg base CX0 "_law_shuffled" ["bag", "some"] 2 spShuf) (h_law_table : Has P w K mg base CX0 "_law_table" ["rows"] 2 (spTable K)) :
    FnOk P w K mg base CX0 3 f fd ["bag"] (spMade K) := by
  refine F.ok sc_law_ties (fun vs H Q E h => ?_) (fun cdv A outer s H vs Q E hr h => ?_)
  · obtain ⟨b, cl, rfl, _⟩ := h
    rfl
  obtain ⟨b, cl, rfl, B, k⟩ := h
  have hq := hq_of hr
  have hu := hu_of hr
  refine ⟨_, PSs.nox
  (pss_cons (ps_set (i := 1) sc_law_ties.nd rfl (Or.inl rfl) (pe_callTy (cr_tupleK K) (by rfl) T.tuple bt_tuple (pa_cons (pe_f h_law_shuffled (hr.mono (by decide)) (by rfl) (pa_cons (pv 0) (pa_cons (pe_lst (pa_cons pe_int (pa_cons pe_int (pa_cons pe_int (pa_cons pe_int (pa_cons pe_int pa_nil)))))) pa_nil))) pa_nil)))
      (pss_cons (ps_setLc (i := 2) (own := [("k", 3), ("arity", 4)]) rfl sc_law_ties.nd rfl rfl (sw_true rfl rfl rfl (by decide +kernel)) (pi_enumT (by rfl) T.enumerate (pa_cons (pv 1) pa_nil)) (blkOk_by (N := N_law_ties) (sc := defScope s_law_ties) (by decide +kernel)) (fun _ _ _ _ _ => (pg_tupK (n := 2) K rfl (pgs_cons (pg_name (i := 3) sc_law_ties.nd rfl (Or.inl rfl)) (pgs_cons (pg_name (i := 4) sc_law_ties.nd rfl (Or.inl rfl)) pgs_nil)))) (fun _ _ _ _ _ => pts_nil) (fun _ _ _ _ _ => (pe_tup (pa_cons (pv 3) (pa_cons (pe_op (op_mulK K) (pe_tup (pa_cons pe_int pa_nil)) (pv 4)) (pa_cons (pe_ifExp (pt_cmpR op_gt (pe_f h_law_draw (hr.mono (by decide)) (by rfl) (pa_cons (pv 0) (pa_cons pe_int pa_nil))) pe_int (nomark _)) pe_int pe_int) pa_nil))))))
      (pss_cons (ps_expr (pe_bm PySem.F.plainAttrs_list PySem.F.slot_list_extend PySem.F.type_list_extend mt_extend (pv 2) (pa_cons (pe_lc (own := [("k", 3), ("arity", 4)]) rfl sc_law_ties.nd (pi_enumT (by rfl) T.enumerate (pa_cons (pv 1) pa_nil)) (blkOk_by (N := N_law_ties) (sc := defScope s_law_ties) (by decide +kernel)) (fun _ _ _ _ _ => (pg_tupK (n := 2) K rfl (pgs_cons (pg_name (i := 3) sc_law_ties.nd rfl (Or.inl rfl)) (pgs_cons (pg_name (i := 4) sc_law_ties.nd rfl (Or.inl rfl)) pgs_nil)))) (fun _ _ _ _ _ => (pts_one (pt_cmpR (op_eqK K hq) (pv 4) pe_int (nomark _)))) (fun _ _ _ _ _ => (pe_tup (pa_cons (pv 3) (pa_cons (pe_tup (pa_cons pe_int pa_nil)) (pa_cons (pe_f h_law_draw (hr.mono (by decide)) (by rfl) (pa_cons (pv 0) (pa_cons pe_int pa_nil))) pa_nil)))))) pa_nil)))
      (pss_one (ps_ret (pe_tup (pa_cons (pv 1) (pa_cons (pe_f h_law_table (hr.mono (by decide)) (by rfl) (pa_cons (pv 2) pa_nil)) pa_nil)))))))), ?_⟩
  -- signature = tuple(_law_shuffled(bag, [0, 0, 1, 1, 2]))
  refine seq_cut (fun σ H' => ∃ (sa : Addr) (sg : List Int), σ = [some (.ref b), some (.ref sa), none, none, none] ∧ Bag H' b cl ∧ Fr [b, cl] H H' ∧ SqT K H' sa (sg.map V.int) ∧ sg.Perm [0, 0, 1, 1, 2]) (fun Z hZ => ?_) ?_
  · refine ⟨_, rfl, by show 5 ≤ sizeLine; decide, fun l hl => ?_⟩
    refine ⟨b, cl, l, [0, 0, 1, 1, 2], rfl, B.new hl, upd_same, B.out hl, by decide, fun p ms H1 B1 fr1 p0 hp pm => ?_⟩
    refine ⟨p, _, rfl, .inl ⟨SqL.of hp, fun q hq0 => ?_⟩⟩
    exact hZ _ _ ⟨q, ms, rfl, B1.new hq0, ((Fr.new hl).trans fr1).trans (Fr.new hq0), SqT.of upd_same, pm⟩
  rintro _ H1 ⟨sa, sg, rfl, B1, fr1, hsa, pm⟩
  have S : Sig sg := Sig.perm pm ⟨by decide, by decide, by decide, by decide⟩
  obtain ⟨j0, hj0, ej0, fj0⟩ := first_at (x := (0 : Int)) (l := sg) (pm.mem_iff.mpr (by decide))
  have sl : sg.length = 5 := pm.length_eq
  have tpF : ∀ {H H' : Hp}, Bag H b cl → Fr [b, cl] H H' → Tps K H H' := fun B fr => fr.tps B.mut
  have giN : ∀ {i : Nat} {x : V}, (sg.map V.int)[i]? = some x → ∃ a, sg[i]? = some a ∧ x = .int a ∧ 0 ≤ a ∧ a ≤ 2 ∧ arOf sg i = a.toNat := fun {i x} h => by
    rw [List.getElem?_map] at h
    cases e : sg[i]? with
    | none =>
      rw [e] at h
      cases h
    | some a =>
      rw [e] at h
      have ha : a ∈ ([0, 0, 1, 1, 2] : List Int) := pm.mem_iff.mp (List.mem_of_getElem? e)
      simp only [List.mem_cons, List.not_mem_nil, or_false] at ha
      exact ⟨a, rfl, (Option.some.inj h).symm, by omega, by omega, arOf_at e⟩
  -- rows = [..]
  refine seq_cut (fun σ H' => ∃ (rp : Addr) (xs : List V) (R : List Row), σ = [some (.ref b), some (.ref sa), some (.ref rp), none, none] ∧ Bag H' b cl ∧ Fr [b, cl] H H' ∧ H rp = none ∧ SqT K H' sa (sg.map V.int) ∧ H' rp = some (.lst xs) ∧ DpAll K H' xs (R.map rowD) ∧
      R.map (·.s) = List.range 5 ∧ ∀ r ∈ R, r.is = List.replicate (arOf sg r.s) 0 ∧ r.c < 2) (fun Z hZ => ?_) ?_
  · refine ⟨_, rfl, sa, _, rfl, hsa, fun D hD => ?_⟩
    refine lcM (walk_enumT (xs := sg.map V.int)) [b, cl] hD (fun i acc H' => ∃ R : List Row, Bag H' b cl ∧ DpAll K H' acc (R.map rowD) ∧ R.map (·.s) = List.range i ∧ ∀ r ∈ R, r.is = List.replicate (arOf sg r.s) 0 ∧ r.c < 2) ⟨[], B1.new hD, .nil, rfl, fun r hr => by cases hr⟩ (fun i acc H' fr _ => tpF B1 fr _ _ hsa) ?_ ?_
    · rintro i x acc Ha Hb Nx hN hi fr e ⟨R, Ba, dA, eR, aR⟩ ⟨q, y, z, rfl, hq0, rfl, ey, ez⟩
      cases ey
      obtain ⟨a, ea, rfl, a0, a2, ar⟩ := giN ez
      have sq : Same Ha (upd Ha q (.tup [.int (i : Nat), .int a])) := (Fr.new (M := []) hq0).same
      have hqq : SqT K (upd Ha q (.tup [.int (i : Nat), .int a])) q [.int (i : Nat), .int a] := SqT.of upd_same
      generalize upd Ha q (.tup [.int (i : Nat), .int a]) = Hb at sq hqq
      refine ⟨q, _, rfl, hqq, rfl, _, _, rfl, _, _, rfl, rfl, rfl, ?_⟩
      refine ⟨_, rfl, ?_⟩
      refine e_cut (fun v H' => ∃ q2, v = .ref q2 ∧ Same Hb H' ∧ SqT K H' q2 ((List.replicate (arOf sg i) 0).map fun i : Nat => V.int (i : Int))) (fun Z hZ => ?_) ?_
      · refine ⟨by show 1 ≤ sizeLine; decide, fun t ht => ⟨_, rfl, .inr (.inr ⟨t, a, [.int 0], rfl, rfl, SqT.of upd_same, by simp, a0, by omega, by decide, fun e1 => ?_, fun e1 p hp => ?_⟩)⟩⟩
        · refine hZ _ _ ⟨t, rfl, (Fr.new (M := []) ht).same, ?_⟩
          rw [ar, e1]
          exact SqT.of upd_same
        · refine hZ _ _ ⟨p, rfl, ((Fr.new (M := []) ht).trans (Fr.new hp)).same, ?_⟩
          rw [ar]
          refine SqT.of ?_
          rw [upd_same]
          have : ∀ n : Nat, (List.replicate n [V.int 0]).flatten = (List.replicate n 0).map fun i : Nat => V.int (i : Int) := fun n => by
            induction n with
            | zero => rfl
            | succ n ih =>
              rw [List.replicate_succ, List.replicate_succ, List.flatten_cons, ih]
              rfl
          rw [this]
      rintro _ Hc ⟨q2, rfl, sbc, h2⟩
      have Bc := (Ba.same sq).same sbc
      refine a_cut (fun v H' => ∃ c : Nat, v = .int (c : Nat) ∧ c < 2 ∧ Bag H' b cl ∧ Fr [b, cl] Hc H') (fun Z hZ => ?_) ?_
      · refine ⟨_, rfl, b, cl, 6, rfl, Bc, by decide, by decide, fun r Hd r0 r1 Bd fd => ?_⟩
        refine ⟨_, _, rfl, rfl, _, rfl, ?_⟩
        refine dec_b (fun h0 => ?_) (fun h0 => ?_)
        · exact hZ _ _ ⟨0, rfl, by decide, Bd, fd⟩
        · exact hZ _ _ ⟨1, rfl, by decide, Bd, fd⟩
      rintro _ Hd ⟨c, rfl, hc, Bd, fd⟩
      refine ⟨by show 3 ≤ sizeLine; decide, fun t3 ht3 => ?_⟩
      have s4 : Same Hd (upd Hd t3 (.tup [.int (i : Nat), .ref q2, .int (c : Nat)])) := (Fr.new (M := []) ht3).same
      have h4 : SqT K (upd Hd t3 (.tup [.int (i : Nat), .ref q2, .int (c : Nat)])) t3 [.int (i : Nat), .ref q2, .int (c : Nat)] := SqT.of upd_same
      generalize upd Hd t3 (.tup [.int (i : Nat), .ref q2, .int (c : Nat)]) = He at s4 h4
      have fae : Fr [b, cl] Ha He := ((Fr.of_same (sq.trans sbc)).trans fd).trans (.of_same s4)
      have nD := B1.out hD
      have eD := fae _ _ e nD
      have tm : Tps K He (upd He D (.lst (acc ++ [.ref t3]))) := .mut eD trivial
      have la : acc.length ≤ 5 := by
        rw [DpAll.len dA, List.length_map, ← List.length_map (f := fun r : Row => r.s), eR, List.length_range]
        rw [List.length_map, sl] at hi
        omega
      refine ⟨acc, eD, small_line (by omega), hN _ _ upd_same ((fr.trans fae).put (.inl hD)) ⟨R ++ [⟨i, List.replicate (arOf sg i) 0, c⟩], (Bd.same s4).upd' B1 hD, ?_, ?_, ?_⟩⟩
      · rw [List.map_append]
        exact DpAll.app (DpAll.tps ((tpF Ba fae).trans tm) _ _ (flatDs_all _ _ rowD_flat) dA) (.cons (row_made (tm _ _ ((Tps.same s4) _ _ (tpF Bc fd _ _ h2))) (tm _ _ h4)) .nil)
      · rw [List.map_append, eR, List.range_succ]
        rfl
      · intro r hr
        rcases List.mem_append.mp hr with hr | hr
        · exact aR r hr
        · rw [List.mem_singleton.mp hr]
          exact ⟨rfl, hc⟩
    · rintro acc H2 fr e ⟨R, B2, dA, eR, aR⟩
      rw [List.length_map, sl] at eR
      exact hZ _ _ ⟨D, acc, R, rfl, B2, fr1.trans fr, fr1.free hD (B1.out hD), tpF B1 fr _ _ hsa, e, dA, eR, aR⟩
  rintro _ H2 ⟨rp, xs, R, rfl, B2, fr2, rp0, hsa2, hrp, dx, eR, aR⟩
  have nrp := B.out rp0
  -- rows.extend([..])
  refine seq_cut (fun σ H' => ∃ (zs : List V) (R2 : List Row), σ = [some (.ref b), some (.ref sa), some (.ref rp), none, none] ∧ Bag H' b cl ∧ Fr [b, cl] H H' ∧ SqT K H' sa (sg.map V.int) ∧ H' rp = some (.lst (xs ++ zs)) ∧ DpAll K H' (xs ++ zs) ((R ++ R2).map rowD) ∧
      (R2.map (·.s)).Pairwise (· < ·) ∧ ∀ r ∈ R2, r.is = [0 + 1] ∧ arOf sg r.s = 1 ∧ r.c < 2 ∧ r.s < 5) (fun Z hZ => ?_) ?_
  · refine ⟨_, rfl, .inl ⟨rfl, _, SqL.of hrp⟩, _, rfl, sa, _, rfl, hsa2, fun D hD => ?_⟩
    refine lcM (walk_enumT (xs := sg.map V.int)) [b, cl] hD (fun i acc H' => ∃ R2 : List Row, Bag H' b cl ∧ DpAll K H' acc (R2.map rowD) ∧ (R2.map (·.s)).Pairwise (· < ·) ∧ R2.length ≤ i ∧ ∀ r ∈ R2, r.is = [0 + 1] ∧ arOf sg r.s = 1 ∧ r.c < 2 ∧ r.s < i) ⟨[], B2.new hD, .nil, .nil, Nat.le_refl _, fun r hr => by cases hr⟩ (fun i acc H' fr _ => tpF B2 fr _ _ hsa2) ?_ ?_
    · rintro i x acc Ha Hb Nx hN hi fr e ⟨R2, Ba, dA, pR, lR, aR2⟩ ⟨q, y, z, rfl, hq0, rfl, ey, ez⟩
      cases ey
      obtain ⟨a, ea, rfl, a0, a2, ar⟩ := giN ez
      rw [List.length_map, sl] at hi
      have nD := B2.out hD
      have sq : Same Ha (upd Ha q (.tup [.int (i : Nat), .int a])) := (Fr.new (M := []) hq0).same
      have hqq : SqT K (upd Ha q (.tup [.int (i : Nat), .int a])) q [.int (i : Nat), .int a] := SqT.of upd_same
      generalize upd Ha q (.tup [.int (i : Nat), .int a]) = Hb at sq hqq
      have Bb := Ba.same sq
      refine ⟨q, _, rfl, hqq, rfl, _, _, rfl, _, _, rfl, rfl, rfl, ?_⟩
      refine ⟨_, rfl, .inl ⟨rfl, _, rfl, ?_⟩⟩
      refine dec_b (fun h1 => ?_) (fun h1 => ?_)
      · have ar1 : arOf sg i = 1 := by
          have : a = 1 := vint_inj h1
          rw [ar, this]
          rfl
        refine ⟨_, rfl, by show 1 ≤ sizeLine; decide, fun t ht => ?_⟩
        have st : Same Hb (upd Hb t (.tup [.int 1])) := (Fr.new (M := []) ht).same
        have h2 : SqT K (upd Hb t (.tup [.int 1])) t [.int 1] := SqT.of upd_same
        generalize upd Hb t (.tup [.int 1]) = Hc at st h2
        have Bc := Bb.same st
        refine ⟨_, rfl, b, cl, 2, rfl, Bc, by decide, by decide, fun c' Hd r0 r1 Bd fd => ?_⟩
        obtain ⟨c, rfl⟩ := Int.eq_ofNat_of_zero_le r0
        refine ⟨by show 3 ≤ sizeLine; decide, fun t3 ht3 => ?_⟩
        have s4 : Same Hd (upd Hd t3 (.tup [.int (i : Nat), .ref t, .int (c : Nat)])) := (Fr.new (M := []) ht3).same
        have h4 : SqT K (upd Hd t3 (.tup [.int (i : Nat), .ref t, .int (c : Nat)])) t3 [.int (i : Nat), .ref t, .int (c : Nat)] := SqT.of upd_same
        generalize upd Hd t3 (.tup [.int (i : Nat), .ref t, .int (c : Nat)]) = He at s4 h4
        have fae : Fr [b, cl] Ha He := ((Fr.of_same (sq.trans st)).trans fd).trans (.of_same s4)
        have eD := fae _ _ e nD
        have tm : Tps K He (upd He D (.lst (acc ++ [.ref t3]))) := .mut eD trivial
        have la : acc.length ≤ 5 := by
          rw [DpAll.len dA, List.length_map]
          omega
        refine ⟨acc, eD, small_line (by omega), hN _ _ upd_same ((fr.trans fae).put (.inl hD)) ⟨R2 ++ [⟨i, [0 + 1], c⟩], (Bd.same s4).upd' B2 hD, ?_, ?_, ?_, ?_⟩⟩
        · rw [List.map_append]
          exact DpAll.app (DpAll.tps ((tpF Ba fae).trans tm) _ _ (flatDs_all _ _ rowD_flat) dA) (.cons (row_made (is := [0 + 1]) (tm _ _ ((Tps.same s4) _ _ (tpF Bc fd _ _ h2))) (tm _ _ h4)) .nil)
        · rw [List.map_append, List.pairwise_append]
          refine ⟨pR, List.pairwise_singleton _ _, fun a ha b hb => ?_⟩
          rw [List.mem_singleton.mp hb]
          obtain ⟨r, hr, rfl⟩ := List.mem_map.mp ha
          exact (aR2 r hr).2.2.2
        · rw [List.length_append]
          show _ + 1 ≤ _
          omega
        · intro r hr
          rcases List.mem_append.mp hr with hr | hr
          · obtain ⟨a1, a2, a3, a4⟩ := aR2 r hr
            exact ⟨a1, a2, a3, by omega⟩
          · rw [List.mem_singleton.mp hr]
            exact ⟨rfl, ar1, by show c < 2; omega, Nat.lt_succ_self i⟩
      · exact hN _ _ (sq _ _ e) (fr.trans (.of_same sq)) ⟨R2, Bb, DpAll.tps (Tps.same sq) _ _ (flatDs_all _ _ rowD_flat) dA, pR, by omega, fun r hr => by
          obtain ⟨a1, a2, a3, a4⟩ := aR2 r hr
          exact ⟨a1, a2, a3, by omega⟩⟩
    · rintro acc H4 fr e ⟨R2, B4, dA, pR, lR, aR2⟩
      rw [List.length_map, sl] at lR aR2
      have hrp4 := fr _ _ hrp nrp
      have tm : Tps K H4 (upd H4 rp (.lst (xs ++ acc))) := .mut hrp4 trivial
      have lx : xs.length = 5 := by
        rw [DpAll.len dx, List.length_map, ← List.length_map (f := fun r : Row => r.s), eR, List.length_range]
      have la : acc.length ≤ 5 := by
        rw [DpAll.len dA, List.length_map]
        exact lR
      refine ⟨rp, D, xs, acc, rfl, rfl, hrp4, e, Nat.le_of_lt (small_line (by omega)), ?_⟩
      refine hZ _ _ ⟨acc, R2, rfl, B4.upd' B rp0, (fr2.trans fr).put (.inl rp0), tm _ _ (tpF B2 fr _ _ hsa2), upd_same, ?_, pR, aR2⟩
      rw [List.map_append]
      exact DpAll.app (DpAll.tps ((tpF B2 fr).trans tm) _ _ (flatDs_all _ _ rowD_flat) dx) (DpAll.tps tm _ _ (flatDs_all _ _ rowD_flat) dA)
  rintro _ H3 ⟨zs, R2, rfl, B3, fr3, hsa3, hrp3, dx3, pR2, aR2⟩
  have lR : R.length = 5 := by rw [← List.length_map (f := fun r : Row => r.s), eR, List.length_range]
  have lR2 : R2.length ≤ 5 := by
    have h1 : (R2.map (·.s)).length ≤ (List.range 5).length := sub_len (pR2.imp fun h => Nat.ne_of_lt h) fun c hc => by
      obtain ⟨r, hr, rfl⟩ := List.mem_map.mp hc
      exact List.mem_range.mpr (aR2 r hr).2.2.2
    rwa [List.length_map, List.length_range] at h1
  have sR : ∀ r ∈ R, r.s < 5 := fun r hr => by
    have : r.s ∈ R.map (·.s) := List.mem_map.mpr ⟨r, hr, rfl⟩
    rw [eR] at this
    exact List.mem_range.mp this
  have arl : ∀ {s}, s < 5 → arOf sg s ≤ 2 := fun {s} hs => by
    have hx : sg[s]? = some (sg[s]'(by omega)) := List.getElem?_eq_getElem _
    obtain ⟨a, _, _, _, h2, h3⟩ := giN (i := s) (x := V.int (sg[s]'(by omega))) (by rw [List.getElem?_map, hx]; rfl)
    omega
  have ok : RwOk (arOf sg) (R ++ R2) := by
    refine ⟨by rw [List.length_append]; omega, ?_, ?_, S.le3, ?_, ?_, ?_⟩
    · intro r hr
      rcases List.mem_append.mp hr with hr | hr
      · have := sR r hr
        omega
      · have := (aR2 r hr).2.2.2
        omega
    · intro r hr
      rcases List.mem_append.mp hr with hr | hr
      · rw [(aR r hr).1, List.length_replicate]
      · rw [(aR2 r hr).1, (aR2 r hr).2.1]
        rfl
    · refine List.pairwise_append.mpr ⟨?_, ?_, fun a ha b hb e => ?_⟩
      · have : (R.map (·.s)).Pairwise (· < ·) := by
          rw [eR]
          exact List.pairwise_lt_range
        exact (List.pairwise_map.mp this).imp fun h e => by omega
      · exact (List.pairwise_map.mp pR2).imp fun h e => by omega
      · have := e.2
        rw [(aR a ha).1, (aR2 b hb).1] at this
        have m : (1 : Nat) ∈ List.replicate (arOf sg a.s) 0 := by
          rw [this]
          simp
        have := List.eq_of_mem_replicate m
        omega
    · intro r hr
      rcases List.mem_append.mp hr with hr | hr
      · refine ⟨by have := (aR r hr).2; omega, fun i hi => ?_⟩
        rw [(aR r hr).1] at hi
        have := List.eq_of_mem_replicate hi
        omega
      · refine ⟨by have := (aR2 r hr).2.2.1; omega, fun i hi => ?_⟩
        rw [(aR2 r hr).1] at hi
        have := List.mem_singleton.mp hi
        omega
    · have : j0 ∈ R.map (·.s) := by
        rw [eR]
        exact List.mem_range.mpr (by omega)
      obtain ⟨r, hr, e⟩ := List.mem_map.mp this
      refine ⟨r, List.mem_append_left _ hr, ?_⟩
      rw [(aR r hr).1, e, arOf_at ej0]
      rfl
  have bd : BndR (R ++ R2) := by
    refine .inl ⟨2, 2, by decide, by decide, by decide, ?_, ?_⟩
    · intro r hr
      rcases List.mem_append.mp hr with hr | hr
      · rw [(aR r hr).1, List.length_replicate]
        exact arl (sR r hr)
      · rw [(aR2 r hr).1]
        decide
    · intro r hr
      rcases List.mem_append.mp hr with hr | hr
      · exact (aR r hr).2
      · exact (aR2 r hr).2.2.1
  refine ⟨_, rfl, _, rfl, rp, _, _, arOf sg, rfl, hrp3, dx3, ok, fun ta Tb es Bs H4 s4 dt X => ⟨by show 2 ≤ sizeLine; decide, fun p hp => ?_⟩⟩
  have s5 := (Fr.new (M := []) (o := .tup [.ref sa, .ref ta]) hp).same
  exact k p sa ta sg Tb es.length _ (B3.same (s4.trans s5)) (fr3.trans (.of_same (s4.trans s5))) (SqT.of upd_same) ((Tps.same (s4.trans s5)) _ _ hsa3) S (Dp.tps (Tps.same s5) _ _ (tabD_flat _) dt) (X.good ok bd) (X.syms fun r hr => by
    rcases List.mem_append.mp hr with hr | hr
    · have := sR r hr
      omega
    · have := (aR2 r hr).2.2.2
      omega)
end
end R59
/-! W11 -/
set_option maxHeartbeats 1000000
namespace R59
open PySem PyProof.Rows L2 KB PySem.W
/-- the places of the plain symbols -/
def lowL (sg : List Int) (n : Nat) : List Nat := (List.range n).filter fun k => decide (sg[k]? = some 0)
def lowOk (sg : List Int) : Bool := match lowL sg sg.length with
  | [x, y] => decide (x ≠ y) && decide (sg[x]? = some 0) && decide (sg[y]? = some 0)
  | _ => false
theorem lowOk_elim {sg : List Int} (h : lowOk sg = true) : ∃ x y, lowL sg sg.length = [x, y] ∧ x ≠ y ∧ sg[x]? = some 0 ∧ sg[y]? = some 0 := by
  unfold lowOk at h
  split at h
  · next x y e =>
    simp only [Bool.and_eq_true, decide_eq_true_eq] at h
    exact ⟨x, y, e, h.1.1, h.1.2, h.2⟩
  · cases h
theorem low3 {sg : List Int} (pm : sg.Perm [0, 0, 1]) : lowOk sg = true := by
  have hl := pm.length_eq
  have hc := pm.count_eq 0
  have hm : ∀ x ∈ sg, x ∈ ([0, 1] : List Int) := fun x hx => by
    have := pm.mem_iff.mp hx
    simp only [List.mem_cons, List.not_mem_nil, or_false] at this ⊢
    omega
  match sg, hl, hc, hm with
  | [a, b, c], _, hc, hm =>
    have D : ∀ a ∈ ([0, 1] : List Int), ∀ b ∈ ([0, 1] : List Int), ∀ c ∈ ([0, 1] : List Int), [a, b, c].count 0 = [0, 0, (1 : Int)].count 0 → lowOk [a, b, c] = true := by decide
    exact D a (hm a (by simp)) b (hm b (by simp)) c (hm c (by simp)) hc
theorem lowL_succ (sg : List Int) (n : Nat) : lowL sg (n + 1) = lowL sg n ++ (if sg[n]? = some 0 then [n] else []) := by
  unfold lowL
  rw [List.range_succ, List.filter_append]
  congr 1
  by_cases h : sg[n]? = some 0
  · simp [h]
  · simp [h]
/-- the signature's frozen tuple -/
structure FT (H : Hp) (a : Addr) (xs : List Int) : Prop where
  ex : ∃ o : Obj, H a = some (.frz o (.tup (xs.map V.int))) ∧ o.cls = .type "tuple" ∧ o.dict = none
theorem FT.sq {K : PySem.W.Frag} {H : Hp} {a : Addr} {xs : List Int} (h : FT H a xs) : SqT K H a (xs.map V.int) := by
  obtain ⟨o, h, _⟩ := h.ex
  exact SqT.frz h
theorem FT.fr {H H' : Hp} {M : List Addr} {a : Addr} {xs : List Int} (h : FT H a xs) (fr : Fr M H H') (n : a ∉ M) : FT H' a xs := by
  obtain ⟨o, h, h1, h2⟩ := h.ex
  exact ⟨o, fr _ _ h n, h1, h2⟩
theorem FT.same {H H' : Hp} {a : Addr} {xs : List Int} (h : FT H a xs) (s : Same H H') : FT H' a xs := h.fr (M := []) (.of_same s) (by simp)
/-- min(1, k) -/
theorem min1 (c : Nat) : ∃ m : Nat, m ≤ 1 ∧ (if (c : Int) < 1 then (c : Int) else 1) = m := by
  by_cases h : (c : Int) < 1
  · exact ⟨0, by omega, by rw [if_pos h]; omega⟩
  · exact ⟨1, by omega, by rw [if_neg h]; rfl⟩
theorem yes_cut {X N : Hp → Prop} {σ : L2.St} {H : Hp} (h : X H) : tYes σ H fun b H3 => if b = true then X H3 else N H3 := by
  show if true = true then X H else N H
  rw [if_pos rfl]
  exact h
theorem lst_asg {ta : TA} {g : TG} {D : Ends} {σ : L2.St} {H : Hp} (h : ta σ H fun xs H1 => xs.length ≤ sizeLine ∧ ∀ p, H1 p = none → g (.ref p) σ (upd H1 p (.lst xs)) D.nx) : tAsg (tLst ta) g D σ H := h
section
variable {P : Program} {w : World} {K : PySem.W.Frag} {mg : Str → Option Value} {base : Heap} {f : Addr} {fd : FuncData}
/-! ### _law_edge -/
abbrev s_law_edge : Stmt := top 31
abbrev N_law_edge : List Str := ["bag", "signature", "low", "rows", "at", "one", "last", "symbol", "k"]
theorem sc_law_edge : FnScope N_law_edge ["bag"] (defScope s_law_edge) := ⟨rfl, rfl, rfl, by decide +kernel, rfl, by decide +kernel, by decide +kernel⟩
theorem ok_edge (F : FnP K "_law_edge" "_law_edge" s_law_edge f fd) (T : Nm mg) (h_law_draw : Has P w K mg base CX0 "_law_draw" ["bag", "below"] 1 spDraw) (h_law_shuffled : Has P w K mg base CX0 "_law_shuffled" ["bag", "some"] 2 spShuf) (h_law_table : Has P w K mg base CX0 "_law_table" ["rows"] 2 (spTable K)) :
    FnOk P w K mg base CX0 3 f fd ["bag"] (spMade K) := by
  refine F.ok sc_law_edge (fun vs H Q E h => ?_) (fun cdv A outer s H vs Q E hr h => ?_)
  · obtain ⟨b, cl, rfl, _⟩ := h
    rfl
  obtain ⟨b, cl, rfl, B, k⟩ := h
  have hq := hq_of hr
  have hu := hu_of hr
  refine ⟨_, PSs.nox
  (pss_cons (ps_set (i := 1) sc_law_edge.nd rfl (Or.inr rfl) (pe_callTy (cr_tupleFK K) (by rfl) T.tuple bt_tuple (pa_cons (pe_f h_law_shuffled (hr.mono (by decide)) (by rfl) (pa_cons (pv 0) (pa_cons (pe_lst (pa_cons pe_int (pa_cons pe_int (pa_cons pe_int pa_nil)))) pa_nil))) pa_nil)))
      (pss_cons (ps_setLc (i := 2) (own := [("symbol", 7)]) rfl sc_law_edge.nd rfl rfl (sw_true rfl rfl rfl (by decide +kernel)) (pi_range1 (by rfl) T.range (pa_cons pe_int pa_nil)) (blkOk_by (N := N_law_edge) (sc := defScope s_law_edge) (by decide +kernel)) (fun _ _ _ _ _ => (pg_name (i := 7) sc_law_edge.nd rfl (Or.inl rfl))) (fun _ _ _ _ _ => (pts_one (pt_cmpR (op_eqK K hq) (pe_ix (ix_K K) (pv 1) (pv 7) (fun _ _ => rfl)) pe_int (nomark _)))) (fun _ _ _ _ _ => (pv 7)))
      (pss_cons (ps_asg (pe_tup (pa_cons (pe_f h_law_draw (hr.mono (by decide)) (by rfl) (pa_cons (pv 0) (pa_cons pe_int pa_nil))) (pa_cons (pe_bmF PySem.F.slot_tuple_index PySem.F.type_tuple_index mt_tup_indexI (pv 1) (pa_cons pe_int pa_nil)) (pa_cons (pe_op (op_addK K) pe_int (pe_callB (call_min2 rfl) (by rfl) T.min bt_min (pa_cons pe_int (pa_cons (pe_f h_law_draw (hr.mono (by decide)) (by rfl) (pa_cons (pv 0) (pa_cons pe_int pa_nil))) pa_nil)))) pa_nil)))) (pg_tupK (n := 3) K rfl (pgs_cons (pg_name (i := 4) sc_law_edge.nd rfl (Or.inl rfl)) (pgs_cons (pg_name (i := 5) sc_law_edge.nd rfl (Or.inr rfl)) (pgs_cons (pg_name (i := 6) sc_law_edge.nd rfl (Or.inl rfl)) pgs_nil)))))
      (pss_cons (ps_set (i := 3) sc_law_edge.nd rfl (Or.inl rfl) (pe_lst (pa_cons (pe_tup (pa_cons (pe_ix (ix_K K) (pv 2) (pv 4) (fun _ _ => rfl)) (pa_cons (pe_tup pa_nil) (pa_cons pe_int pa_nil)))) (pa_cons (pe_tup (pa_cons (pe_ix (ix_K K) (pv 2) (pe_op op_sub pe_int (pv 4)) (fun _ _ => rfl)) (pa_cons (pe_tup pa_nil) (pa_cons pe_int pa_nil)))) (pa_cons (pe_tup (pa_cons (pv 5) (pa_cons (pe_tup (pa_cons (pv 6) pa_nil)) (pa_cons pe_int pa_nil)))) pa_nil)))))
      (pss_one (ps_ret (pe_tup (pa_cons (pv 1) (pa_cons (pe_f h_law_table (hr.mono (by decide)) (by rfl) (pa_cons (pe_op (op_addK K) (pv 3) (pe_lc (own := [("k", 8)]) rfl sc_law_edge.nd (pi_range1 (by rfl) T.range (pa_cons (pv 6) pa_nil)) (blkOk_by (N := N_law_edge) (sc := defScope s_law_edge) (by decide +kernel)) (fun _ _ _ _ _ => (pg_name (i := 8) sc_law_edge.nd rfl (Or.inl rfl))) (fun _ _ _ _ _ => pts_nil) (fun _ _ _ _ _ => (pe_tup (pa_cons (pv 5) (pa_cons (pe_tup (pa_cons (pv 8) pa_nil)) (pa_cons (pe_op (op_addK K) (pv 8) pe_int) pa_nil))))))) pa_nil)) pa_nil))))))))), ?_⟩
  -- signature = tuple(_law_shuffled(bag, [0, 0, 1]))
  refine seq_cut (fun σ H' => ∃ (sa : Addr) (sg : List Int), σ = [some (.ref b), some (.ref sa), none, none, none, none, none, none, none] ∧ Bag H' b cl ∧ Fr [b, cl] H H' ∧ FT H' sa sg ∧ sa ∉ [b, cl] ∧ sg.Perm [0, 0, 1]) (fun Z hZ => ?_) ?_
  · refine ⟨_, rfl, by show 3 ≤ sizeLine; decide, fun l hl => ?_⟩
    refine ⟨b, cl, l, [0, 0, 1], rfl, B.new hl, upd_same, B.out hl, by decide, fun p ms H1 B1 fr1 p0 hp pm => ?_⟩
    refine ⟨p, _, rfl, SqL.of hp, fun q o hq0 oc od => ?_⟩
    exact hZ _ _ ⟨q, ms, rfl, B1.new hq0, ((Fr.new hl).trans fr1).trans (Fr.new hq0), ⟨o, upd_same, oc, od⟩, B1.out hq0, pm⟩
  rintro _ H1 ⟨sa, sg, rfl, B1, fr1, hsa, nsa, pm⟩
  have S : Sig sg := Sig.perm pm ⟨by decide, by decide, by decide, by decide⟩
  obtain ⟨j1, hj1, ej1, fj1⟩ := first_at (x := (1 : Int)) (l := sg) (pm.mem_iff.mpr (by decide))
  obtain ⟨x, y, elow, nxy, ex, ey⟩ := lowOk_elim (low3 pm)
  have sl : sg.length = 3 := pm.length_eq
  rw [sl] at elow
  have hx3 := (List.getElem?_eq_some_iff.mp ex).1
  have hy3 := (List.getElem?_eq_some_iff.mp ey).1
  rw [sl] at hx3 hy3 hj1
  -- low = [..]
  refine seq_cut (fun σ H' => ∃ (lp : Addr), σ = [some (.ref b), some (.ref sa), some (.ref lp), none, none, none, none, none, none] ∧ Bag H' b cl ∧ Fr [b, cl] H H' ∧ FT H' sa sg ∧ H' lp = some (.lst [.int (x : Nat), .int (y : Nat)]) ∧ lp ∉ [b, cl]) (fun Z hZ => ?_) ?_
  · refine ⟨_, rfl, by decide, by decide, fun D hD => ?_⟩
    refine lcM (walk_range (lo := 0) (n := 3)) [] hD (fun i acc H' => acc = (lowL sg i).map fun k : Nat => V.int (k : Int)) rfl (fun _ _ _ _ _ => trivial) ?_ ?_
    · rintro i v acc Hb Ha Nx hN hi fr e rfl ⟨rfl, rfl⟩
      refine ⟨rfl, ?_⟩
      have hsa1 := hsa.fr (M := []) fr (by simp)
      have hv : sg[i]? = some (sg[i]'(by omega)) := List.getElem?_eq_getElem _
      refine ⟨_, rfl, _, rfl, sa, _, _, .int (sg[i]'(by omega)), rfl, rfl, .inr hsa1.sq, ?_, .inl ⟨rfl, _, rfl, ?_⟩⟩
      · rw [show (0 + (i : Int)) = ((i : Nat) : Int) by omega]
        exact atI_nat (by rw [List.getElem?_map, hv]; rfl)
      have la : ((lowL sg i).map fun k : Nat => V.int (k : Int)).length ≤ 3 := by
        rw [List.length_map]
        refine Nat.le_trans (List.length_filter_le _ _) ?_
        rw [List.length_range]
        omega
      refine dec_b (fun h1 => ?_) (fun h1 => ?_)
      · have h1 := vint_inj h1
        refine ⟨_, rfl, _, e, small_line (by omega), hN _ _ upd_same (fr.put (.inl hD)) ?_⟩
        rw [lowL_succ, if_pos (by rw [hv, h1]), List.map_append]
        dsimp only
        rw [show (0 + (i : Int)) = (i : Int) by omega]
        rfl
      · refine hN _ _ e fr ?_
        rw [lowL_succ, if_neg (fun q => h1 (by rw [hv] at q; exact congrArg V.int (Option.some.inj q))), List.append_nil]
    · rintro acc H2 fr e rfl
      rw [elow] at e
      exact hZ _ _ ⟨D, rfl, B1.same fr.same, fr1.trans (.of_same fr.same), hsa.same fr.same, e, B1.out hD⟩
  rintro _ H2 ⟨lp, rfl, B2, fr2, hsa2, hlp, nlp⟩
  -- at, one, last = ..
  refine seq_cut (fun σ H' => ∃ (at_ last : Nat), σ = [some (.ref b), some (.ref sa), some (.ref lp), none, some (.int (at_ : Nat)), some (.int (j1 : Nat)), some (.int (last : Nat)), none, none] ∧ Bag H' b cl ∧ Fr [b, cl] H H' ∧ FT H' sa sg ∧ H' lp = some (.lst [.int (x : Nat), .int (y : Nat)]) ∧ at_ < 2 ∧ last ≤ 39) (fun Z hZ => ?_) ?_
  · refine ⟨_, rfl, b, cl, 2, rfl, B2, by decide, by decide, fun r H3 r0 r1 B3 fr3 => ?_⟩
    obtain ⟨at_, rfl⟩ := Int.eq_ofNat_of_zero_le r0
    have hsa3 := hsa2.fr fr3 nsa
    have hsa3' := hsa3
    obtain ⟨o, ho, oc, od⟩ := hsa3'
    refine ⟨_, rfl, ⟨sa, o, _, rfl, ho, oc, od⟩, sa, sg, 1, j1, rfl, rfl, SqT.frz ho, ej1, fj1, ?_⟩
    refine ⟨_, rfl, b, cl, 3, rfl, B3, by decide, by decide, fun r H4 r0 r1 B4 fr4 => ?_⟩
    obtain ⟨c, rfl⟩ := Int.eq_ofNat_of_zero_le r0
    obtain ⟨m, hm, em⟩ := min1 c
    refine ⟨_, _, rfl, ?_⟩
    dsimp only
    rw [em]
    refine .inl ⟨_, _, rfl, rfl, by show 3 ≤ sizeLine; decide, fun t ht => ⟨t, _, rfl, SqT.of upd_same, rfl, _, _, rfl, _, _, rfl, _, _, rfl, rfl, ?_⟩⟩
    refine hZ _ _ ⟨at_, 38 + m, ?_, B4.new ht, ((fr2.trans fr3).trans fr4).trans (Fr.new ht), (hsa3.fr fr4 nsa).fr (M := []) (Fr.new ht) (by simp), (Fr.new (M := []) ht) _ _ (fr4 _ _ (fr3 _ _ hlp nlp) nlp) (by simp), by omega, by omega⟩
    have : (38 : Int) + (m : Int) = ((38 + m : Nat) : Int) := by omega
    rw [← this]
    rfl
  rintro _ H3 ⟨at_, last, rfl, B3, fr3, hsa3, hlp3, hat, hlast⟩
  -- the two plain ones, by where they stand
  have e2 : ∃ x' y' : Nat, atI [V.int (x : Nat), .int (y : Nat)] (at_ : Nat) = some (.int (x' : Nat)) ∧ atI [V.int (x : Nat), .int (y : Nat)] (1 - (at_ : Nat)) = some (.int (y' : Nat)) ∧ x' ≠ y' ∧ sg[x']? = some 0 ∧ sg[y']? = some 0 ∧ x' < 3 ∧ y' < 3 := by
    rcases (by omega : at_ = 0 ∨ at_ = 1) with rfl | rfl
    · exact ⟨x, y, rfl, rfl, nxy, ex, ey, hx3, hy3⟩
    · exact ⟨y, x, rfl, rfl, nxy.symm, ey, ex, hy3, hx3⟩
  obtain ⟨x', y', ax, ay, nxy', ex', ey', hx', hy'⟩ := e2
  -- rows = [..]
  refine seq_cut (fun σ H' => ∃ (rp : Addr) (xs : List V), σ = [some (.ref b), some (.ref sa), some (.ref lp), some (.ref rp), some (.int (at_ : Nat)), some (.int (j1 : Nat)), some (.int (last : Nat)), none, none] ∧ Same H3 H' ∧ H' rp = some (.lst xs) ∧ DpAll K H' xs ([⟨x', [], 0⟩, ⟨y', [], 99⟩, ⟨j1, [last], 99⟩].map rowD)) (fun Z hZ => ?_) ?_
  · refine lst_asg ?_
    refine a_cut (fun v H' => Same H3 H' ∧ Dp K H' v (rowD ⟨x', [], 0⟩)) (fun Z hZ => ?_) ?_
    · refine ⟨_, rfl, _, rfl, lp, _, _, _, rfl, rfl, .inl (SqL.of hlp3), ax, ?_⟩
      refine ⟨by show 0 ≤ sizeLine; decide, fun t ht => ⟨by show 3 ≤ sizeLine; decide, fun p hp => ?_⟩⟩
      have s1 := (Fr.new (M := []) (o := .tup []) ht).same
      have s2 := (Fr.new (M := []) (o := .tup [.int (x' : Nat), .ref t, .int 0]) hp).same
      exact hZ _ _ ⟨s1.trans s2, row_made (q := t) (is := []) ((Tps.same s2) _ _ (SqT.of upd_same)) (SqT.of upd_same)⟩
    rintro v1 Ha ⟨sa1, d1⟩
    refine a_cut (fun v H' => Same Ha H' ∧ Dp K H' v (rowD ⟨y', [], 99⟩)) (fun Z hZ => ?_) ?_
    · refine ⟨_, rfl, _, rfl, _, _, rfl, rfl, lp, _, _, _, rfl, rfl, .inl (SqL.of (sa1 _ _ hlp3)), ay, ?_⟩
      refine ⟨by show 0 ≤ sizeLine; decide, fun t ht => ⟨by show 3 ≤ sizeLine; decide, fun p hp => ?_⟩⟩
      have s1 := (Fr.new (M := []) (o := .tup []) ht).same
      have s2 := (Fr.new (M := []) (o := .tup [.int (y' : Nat), .ref t, .int 99]) hp).same
      exact hZ _ _ ⟨s1.trans s2, row_made (q := t) (is := []) ((Tps.same s2) _ _ (SqT.of upd_same)) (SqT.of upd_same)⟩
    rintro v2 Hb ⟨sab, d2⟩
    refine a_cut (fun v H' => Same Hb H' ∧ Dp K H' v (rowD ⟨j1, [last], 99⟩)) (fun Z hZ => ?_) ?_
    · refine ⟨_, rfl, _, rfl, by show 1 ≤ sizeLine; decide, fun t ht => ⟨by show 3 ≤ sizeLine; decide, fun p hp => ?_⟩⟩
      have s1 := (Fr.new (M := []) (o := .tup [.int (last : Nat)]) ht).same
      have s2 := (Fr.new (M := []) (o := .tup [.int (j1 : Nat), .ref t, .int 99]) hp).same
      exact hZ _ _ ⟨s1.trans s2, row_made (q := t) (is := [last]) ((Tps.same s2) _ _ (SqT.of upd_same)) (SqT.of upd_same)⟩
    rintro v3 Hc ⟨sbc, d3⟩
    refine ⟨by show 3 ≤ sizeLine; decide, fun rp hrp => ?_⟩
    have s5 := (Fr.new (M := []) (o := .lst [v1, v2, v3]) hrp).same
    exact hZ _ _ ⟨rp, _, rfl, ((sa1.trans sab).trans sbc).trans s5, upd_same, .cons (Dp.tps (Tps.same ((sab.trans sbc).trans s5)) _ _ (rowD_flat _) d1) (.cons (Dp.tps (Tps.same (sbc.trans s5)) _ _ (rowD_flat _) d2) (.cons (Dp.tps (Tps.same s5) _ _ (rowD_flat _) d3) .nil))⟩
  rintro _ H4 ⟨rp, xs, rfl, s34, hrp, dx⟩
  have ok : RwOk (arOf sg) ([⟨x', [], 0⟩, ⟨y', [], 99⟩, ⟨j1, [last], 99⟩] ++ (List.range last).map fun k => (⟨j1, [k], k + 1⟩ : Row)) := by
    have m3 : ∀ {r : Row}, r ∈ [⟨x', [], 0⟩, ⟨y', [], 99⟩, ⟨j1, [last], 99⟩] ++ (List.range last).map (fun k => (⟨j1, [k], k + 1⟩ : Row)) → r = ⟨x', [], 0⟩ ∨ r = ⟨y', [], 99⟩ ∨ ∃ k c, k ≤ last ∧ c ≤ 99 ∧ r = ⟨j1, [k], c⟩ := fun {r} hr => by
      rcases List.mem_append.mp hr with hr | hr
      · simp only [List.mem_cons, List.not_mem_nil, or_false] at hr
        rcases hr with h | h | h
        · exact .inl h
        · exact .inr (.inl h)
        · exact .inr (.inr ⟨last, 99, Nat.le_refl _, Nat.le_refl _, h⟩)
      · obtain ⟨k, hk, rfl⟩ := List.mem_map.mp hr
        have := List.mem_range.mp hk
        exact .inr (.inr ⟨k, k + 1, by omega, by omega, rfl⟩)
    refine ⟨by simp; omega, ?_, ?_, S.le3, ?_, ?_, ⟨⟨x', [], 0⟩, by simp, rfl⟩⟩
    · intro r hr
      rcases m3 hr with rfl | rfl | ⟨k, c, h1, h2, rfl⟩
      · show x' ≤ 5
        omega
      · show y' ≤ 5
        omega
      · show j1 ≤ 5
        omega
    · intro r hr
      rcases m3 hr with rfl | rfl | ⟨k, c, h1, h2, rfl⟩
      · show 0 = arOf sg x'
        rw [arOf_at ex']
        rfl
      · show 0 = arOf sg y'
        rw [arOf_at ey']
        rfl
      · show 1 = arOf sg j1
        rw [arOf_at ej1]
        rfl
    · refine List.pairwise_append.mpr ⟨?_, List.pairwise_map.mpr (List.pairwise_lt_range.imp fun h e => ?_), fun a ha b hb e => ?_⟩
      · simp [nxy']
      · have := e.2
        simp at this
        omega
      · obtain ⟨k, hk, rfl⟩ := List.mem_map.mp hb
        have := List.mem_range.mp hk
        simp only [List.mem_cons, List.not_mem_nil, or_false] at ha
        rcases ha with rfl | rfl | rfl
        · cases e.2
        · cases e.2
        · have := e.2
          simp at this
          omega
    · intro r hr
      rcases m3 hr with rfl | rfl | ⟨k, c, h1, h2, rfl⟩
      · exact ⟨Nat.zero_le _, fun i hi => by cases hi⟩
      · exact ⟨Nat.le_refl _, fun i hi => by cases hi⟩
      · refine ⟨h2, fun i hi => ?_⟩
        have := List.mem_singleton.mp hi
        omega
  have bd : BndR ([⟨x', [], 0⟩, ⟨y', [], 99⟩, ⟨j1, [last], 99⟩] ++ (List.range last).map fun k => (⟨j1, [k], k + 1⟩ : Row)) := by
    refine .inr ⟨fun c => min (c + 1) 41, fun r hr => ?_, fun c => Nat.min_le_right _ _⟩
    rcases List.mem_append.mp hr with hr | hr
    · simp only [List.mem_cons, List.not_mem_nil, or_false] at hr
      rcases hr with rfl | rfl | rfl
      · show 1 + 0 ≤ min (0 + 1) 41
        decide
      · show 1 + 0 ≤ min (99 + 1) 41
        decide
      · show 1 + (min (last + 1) 41 + 0) ≤ min (99 + 1) 41
        omega
    · obtain ⟨k, hk, rfl⟩ := List.mem_map.mp hr
      have := List.mem_range.mp hk
      show 1 + (min (k + 1) 41 + 0) ≤ min (k + 1 + 1) 41
      omega
  -- return (signature, _law_table(rows + [..]))
  refine ⟨_, rfl, _, rfl, _, rfl, _, rfl, by omega, by omega, fun D hD => ?_⟩
  refine lcM (walk_range (lo := 0) (n := ((last : Nat) : Int).toNat)) [] hD (fun i acc H' => DpAll K H' acc (((List.range i).map fun k => (⟨j1, [k], k + 1⟩ : Row)).map rowD)) .nil (fun _ _ _ _ _ => trivial) ?_ ?_
  · rintro i v acc Hb Ha Nx hN hi fr e dA ⟨rfl, rfl⟩
    refine ⟨rfl, ?_⟩
    refine yes_cut ?_
    refine e_cut (fun v H' => Same Ha H' ∧ Dp K H' v (rowD ⟨j1, [i], i + 1⟩)) (fun Z hZ => ?_) ?_
    · refine ⟨_, rfl, _, rfl, by show 1 ≤ sizeLine; decide, fun t ht => ?_⟩
      refine ⟨_, rfl, .inl ⟨_, _, rfl, rfl, by show 3 ≤ sizeLine; decide, fun p hp => ?_⟩⟩
      dsimp only
      rw [show (0 + (i : Int) + 1) = ((i + 1 : Nat) : Int) by omega]
      have s1 := (Fr.new (M := []) (o := .tup [.int (0 + (i : Nat))]) ht).same
      have s2 := (Fr.new (M := []) (o := .tup [.int (j1 : Nat), .ref t, .int (i + 1 : Nat)]) hp).same
      refine hZ _ _ ⟨s1.trans s2, row_made (q := t) (is := [i]) ((Tps.same s2) _ _ ?_) (SqT.of upd_same)⟩
      refine SqT.of ?_
      rw [upd_same]
      dsimp only
      rw [show (0 + (i : Int)) = ((i : Nat) : Int) by omega]
      rfl
    rintro v Hc ⟨sac, dv⟩
    have eD := sac _ _ e
    have la : acc.length ≤ 39 := by
      rw [DpAll.len dA, List.length_map, List.length_map, List.length_range]
      omega
    have tm : Tps K Hc (upd Hc D (.lst (acc ++ [v]))) := .mut eD trivial
    refine ⟨acc, eD, small_line (by omega), hN _ _ upd_same ((fr.trans (.of_same sac)).put (.inl hD)) ?_⟩
    rw [List.range_succ, List.map_append, List.map_append]
    exact DpAll.app (DpAll.tps ((Tps.same sac).trans tm) _ _ (flatDs_all _ _ rowD_flat) dA) (.cons (Dp.tps tm _ _ (rowD_flat _) dv) .nil)
  · rintro acc Ha fr e dA
    rw [Int.toNat_natCast] at dA
    have la : acc.length ≤ 39 := by
      rw [DpAll.len dA, List.length_map, List.length_map, List.length_range]
      omega
    have lx : xs.length = 3 := DpAll.len dx
    refine .inr (.inl ⟨rp, D, xs, acc, rfl, rfl, fr.same _ _ hrp, e, Nat.le_of_lt (small_line (by omega)), fun r2 hr2 => ?_⟩)
    have s5 := (Fr.new (M := []) (o := .lst (xs ++ acc)) hr2).same
    have dx2 : DpAll K (upd Ha r2 (.lst (xs ++ acc))) (xs ++ acc) ((([⟨x', [], 0⟩, ⟨y', [], 99⟩, ⟨j1, [last], 99⟩] : List Row) ++ (List.range last).map fun k => (⟨j1, [k], k + 1⟩ : Row)).map rowD) := by
      rw [List.map_append]
      exact DpAll.app (DpAll.tps (Tps.same (fr.same.trans s5)) _ _ (flatDs_all _ _ rowD_flat) dx) (DpAll.tps (Tps.same s5) _ _ (flatDs_all _ _ rowD_flat) dA)
    refine ⟨r2, _, _, arOf sg, rfl, upd_same, dx2, ok, fun ta Tb es Bs H6 s6 dt X => ⟨by show 2 ≤ sizeLine; decide, fun p hp => ?_⟩⟩
    have s7 := (Fr.new (M := []) (o := .tup [.ref sa, .ref ta]) hp).same
    have sall := ((((s34.trans fr.same).trans s5).trans s6).trans s7)
    exact k p sa ta sg Tb es.length _ (B3.same sall) (fr3.trans (.of_same sall)) (SqT.of upd_same) (hsa3.same sall).sq S (Dp.tps (Tps.same s7) _ _ (tabD_flat _) dt) (X.good ok bd) (X.syms fun r hr => by
      have lx := (List.getElem?_eq_some_iff.mp ex').1
      have ly := (List.getElem?_eq_some_iff.mp ey').1
      have l1 := (List.getElem?_eq_some_iff.mp ej1).1
      rcases List.mem_append.mp hr with hr | hr
      · simp only [List.mem_cons, List.not_mem_nil, or_false] at hr
        rcases hr with h | h | h
        · rw [h]; exact lx
        · rw [h]; exact ly
        · rw [h]; exact l1
      · obtain ⟨k, hk, rfl⟩ := List.mem_map.mp hr
        exact l1)
end
end R59
/-! W12 -/
set_option maxHeartbeats 1000000
namespace R59
open PySem PyProof.Rows L2 KB PySem.W
theorem low4 {sg : List Int} (pm : sg.Perm [0, 0, 1, 2]) : lowOk sg = true := by
  have hl := pm.length_eq
  have hc := pm.count_eq 0
  have hm : ∀ x ∈ sg, x ∈ ([0, 1, 2] : List Int) := fun x hx => by
    have := pm.mem_iff.mp hx
    simp only [List.mem_cons, List.not_mem_nil, or_false] at this ⊢
    omega
  match sg, hl, hc, hm with
  | [a, b, c, d], _, hc, hm =>
    have D : ∀ a ∈ ([0, 1, 2] : List Int), ∀ b ∈ ([0, 1, 2] : List Int), ∀ c ∈ ([0, 1, 2] : List Int), ∀ d ∈ ([0, 1, 2] : List Int), [a, b, c, d].count 0 = [0, 0, 1, (2 : Int)].count 0 → lowOk [a, b, c, d] = true := by decide +kernel
    exact D a (hm a (by simp)) b (hm b (by simp)) c (hm c (by simp)) d (hm d (by simp)) hc
/-- the tower so far -/
structure Tw (one two k size : Nat) (z : Nat → Nat) (R : List Row) : Prop where
  z0 : z 0 = 1
  zk : z k = size
  zb : ∀ c, z c ≤ 40
  ks : k + 1 ≤ size
  len : R.length = k
  rows : ∀ r ∈ R, ∃ j, j < k ∧ r.c = j + 1 ∧ j ∈ r.is ∧ (∀ i ∈ r.is, i ≤ j) ∧ ((r.s = one ∧ r.is.length = 1) ∨ (r.s = two ∧ r.is.length = 2)) ∧ 1 + (r.is.map z).sum ≤ z r.c
  inc : (R.map (·.c)).Pairwise (· < ·)
theorem Tw.nil (one two : Nat) : Tw one two 0 1 (fun _ => 1) [] := ⟨rfl, rfl, fun _ => by omega, Nat.le_refl _, rfl, (fun r hr => by cases hr), .nil⟩
theorem Tw.add {one two k size : Nat} {z : Nat → Nat} {R : List Row} (W : Tw one two k size z R) {s size' : Nat} {is : List Nat} (hk : k ∈ is) (hi : ∀ i ∈ is, i ≤ k) (hs : (s = one ∧ is.length = 1) ∨ (s = two ∧ is.length = 2)) (h1 : 1 + (is.map z).sum ≤ size') (h2 : size' ≤ 40) (h3 : size < size') :
    Tw one two (k + 1) size' (fun c => if c = k + 1 then size' else z c) (R ++ [⟨s, is, k + 1⟩]) := by
  have same : ∀ {is : List Nat}, (∀ i ∈ is, i ≤ k) → is.map (fun c => if c = k + 1 then size' else z c) = is.map z := fun {is} h => List.map_congr_left fun i hi => if_neg (by have := h i hi; omega)
  refine ⟨?_, if_pos rfl, fun c => ?_, by have := W.ks; omega, by rw [List.length_append, W.len]; rfl, fun r hr => ?_, ?_⟩
  · show (if 0 = k + 1 then size' else z 0) = 1
    rw [if_neg (by omega)]
    exact W.z0
  · show (if c = k + 1 then size' else z c) ≤ 40
    split
    · exact h2
    · exact W.zb c
  · rcases List.mem_append.mp hr with hr | hr
    · obtain ⟨j, a1, a2, a3, a4, a5, a6⟩ := W.rows r hr
      refine ⟨j, by omega, a2, a3, a4, a5, ?_⟩
      rw [same fun i hi => by have := a4 i hi; omega, if_neg (by omega)]
      exact a6
    · rw [List.mem_singleton.mp hr]
      refine ⟨k, Nat.lt_succ_self _, rfl, hk, hi, hs, ?_⟩
      rw [same hi]
      dsimp only
      rw [if_pos rfl]
      exact h1
  · rw [List.map_append, List.pairwise_append]
    refine ⟨W.inc, List.pairwise_singleton _ _, fun a ha b hb => ?_⟩
    rw [List.mem_singleton.mp hb]
    obtain ⟨r, hr, rfl⟩ := List.mem_map.mp ha
    obtain ⟨j, a1, a2, _⟩ := W.rows r hr
    show r.c < k + 1
    omega
theorem Tw.syms {one two k size x y : Nat} {z : Nat → Nat} {R : List Row} (W : Tw one two k size z R) {sg : List Int} (e1 : sg[one]? = some 1) (e2 : sg[two]? = some 2) (ex : sg[x]? = some 0) (ey : sg[y]? = some 0) : ∀ r ∈ (⟨x, [], 0⟩ :: ⟨y, [], 99⟩ :: R ++ [⟨one, [k], 99⟩] : List Row), r.s < sg.length := fun r hr => by
  have l1 := (List.getElem?_eq_some_iff.mp e1).1
  have l2 := (List.getElem?_eq_some_iff.mp e2).1
  have lx := (List.getElem?_eq_some_iff.mp ex).1
  have ly := (List.getElem?_eq_some_iff.mp ey).1
  rcases List.mem_append.mp hr with hr | hr
  · rcases List.mem_cons.mp hr with hr | hr
    · rw [hr]; exact lx
    · rcases List.mem_cons.mp hr with hr | hr
      · rw [hr]; exact ly
      · obtain ⟨j, _, _, _, _, h, _⟩ := W.rows r hr
        rcases h with h | h
        · rw [h.1]; exact l1
        · rw [h.1]; exact l2
  · rw [List.mem_singleton.mp hr]; exact l1
theorem Tw.ends {one two k size x y : Nat} {z : Nat → Nat} {R : List Row} (W : Tw one two k size z R) {sg : List Int} (S : Sig sg) (sl : sg.length = 4) (e1 : sg[one]? = some 1) (e2 : sg[two]? = some 2) (ex : sg[x]? = some 0) (ey : sg[y]? = some 0) (nxy : x ≠ y) (hs : size ≤ 40) :
    RwOk (arOf sg) (⟨x, [], 0⟩ :: ⟨y, [], 99⟩ :: R ++ [⟨one, [k], 99⟩]) ∧ BndR (⟨x, [], 0⟩ :: ⟨y, [], 99⟩ :: R ++ [⟨one, [k], 99⟩]) := by
  have l4 : ∀ {j : Nat} {v : Int}, sg[j]? = some v → j ≤ 5 := fun {j v} h => by
    have := (List.getElem?_eq_some_iff.mp h).1
    omega
  have hk39 : k ≤ 39 := by have := W.ks; omega
  have n12 : one ≠ two := fun e => by
    rw [e, e2] at e1
    cases e1
  have n1x : x ≠ one := fun e => by
    rw [e, e1] at ex
    cases ex
  have cases4 : ∀ {r : Row}, r ∈ ⟨x, [], 0⟩ :: ⟨y, [], 99⟩ :: R ++ [⟨one, [k], 99⟩] → r = ⟨x, [], 0⟩ ∨ r = ⟨y, [], 99⟩ ∨ r ∈ R ∨ r = ⟨one, [k], 99⟩ := fun {r} hr => by
    rcases List.mem_append.mp hr with hr | hr
    · rcases List.mem_cons.mp hr with hr | hr
      · exact .inl hr
      · rcases List.mem_cons.mp hr with hr | hr
        · exact .inr (.inl hr)
        · exact .inr (.inr (.inl hr))
    · exact .inr (.inr (.inr (List.mem_singleton.mp hr)))
  refine ⟨⟨?_, ?_, ?_, S.le3, ?_, ?_, ⟨⟨x, [], 0⟩, by simp, rfl⟩⟩, .inr ⟨fun c => if c = 99 then 41 else z c, fun r hr => ?_, fun c => ?_⟩⟩
  · simp only [List.length_append, List.length_cons, List.length_nil, W.len]
    omega
  · intro r hr
    rcases cases4 hr with rfl | rfl | hr | rfl
    · exact l4 ex
    · exact l4 ey
    · obtain ⟨j, _, _, _, _, a5, _⟩ := W.rows r hr
      rcases a5 with ⟨h, _⟩ | ⟨h, _⟩
      · rw [h]
        exact l4 e1
      · rw [h]
        exact l4 e2
    · exact l4 e1
  · intro r hr
    rcases cases4 hr with rfl | rfl | hr | rfl
    · show 0 = arOf sg x
      rw [arOf_at ex]
      rfl
    · show 0 = arOf sg y
      rw [arOf_at ey]
      rfl
    · obtain ⟨j, _, _, _, _, a5, _⟩ := W.rows r hr
      rcases a5 with ⟨h, h'⟩ | ⟨h, h'⟩
      · rw [h, h', arOf_at e1]
        rfl
      · rw [h, h', arOf_at e2]
        rfl
    · show 1 = arOf sg one
      rw [arOf_at e1]
      rfl
  · rw [List.cons_append, List.cons_append, List.pairwise_cons, List.pairwise_cons, List.pairwise_append]
    have ne : ∀ r ∈ R ++ [⟨one, [k], 99⟩], r.is ≠ [] := fun r hr e => by
      rcases List.mem_append.mp hr with hr | hr
      · obtain ⟨j, _, _, a3, _⟩ := W.rows r hr
        rw [e] at a3
        cases a3
      · rw [List.mem_singleton.mp hr] at e
        cases e
    refine ⟨fun r hr e => ?_, fun r hr e => ne r hr e.2.symm, ?_, List.pairwise_singleton _ _, fun a ha b hb e => ?_⟩
    · rcases List.mem_cons.mp hr with rfl | hr
      · exact nxy e.1
      · exact ne r hr e.2.symm
    · refine List.Pairwise.imp_of_mem (fun {a b} ha hb h e => ?_) (List.pairwise_map.mp W.inc)
      obtain ⟨j, a1, a2, a3, a4, _⟩ := W.rows a ha
      obtain ⟨j', b1, b2, b3, b4, _⟩ := W.rows b hb
      have := a4 j' (by rw [e.2]; exact b3)
      omega
    · rw [List.mem_singleton.mp hb] at e
      obtain ⟨j, a1, a2, a3, a4, _⟩ := W.rows a ha
      have := a4 k (by rw [e.2]; simp)
      omega
  · intro r hr
    rcases cases4 hr with rfl | rfl | hr | rfl
    · exact ⟨Nat.zero_le _, fun i hi => by cases hi⟩
    · exact ⟨Nat.le_refl _, fun i hi => by cases hi⟩
    · obtain ⟨j, a1, a2, a3, a4, _⟩ := W.rows r hr
      exact ⟨by omega, fun i hi => by have := a4 i hi; omega⟩
    · refine ⟨Nat.le_refl _, fun i hi => ?_⟩
      have := List.mem_singleton.mp hi
      omega
  · rcases cases4 hr with rfl | rfl | hr | rfl
    · show 1 + 0 ≤ (if 0 = 99 then 41 else z 0)
      rw [if_neg (by decide), W.z0]
      exact Nat.le_refl _
    · show 1 + 0 ≤ (if 99 = 99 then 41 else z 99)
      rw [if_pos rfl]
      decide
    · obtain ⟨j, a1, a2, a3, a4, _, a6⟩ := W.rows r hr
      have : r.is.map (fun c => if c = 99 then 41 else z c) = r.is.map z := List.map_congr_left fun i hi => if_neg (by have := a4 i hi; omega)
      rw [this]
      dsimp only
      rw [if_neg (by omega)]
      exact a6
    · show 1 + ((if k = 99 then 41 else z k) + 0) ≤ (if 99 = 99 then 41 else z 99)
      rw [if_pos rfl, if_neg (by omega), W.zk]
      omega
  · show (if c = 99 then 41 else z c) ≤ 41
    have := W.zb c
    split <;> omega
section
variable {P : Program} {w : World} {K : PySem.W.Frag} {mg : Str → Option Value} {base : Heap} {f : Addr} {fd : FuncData}
/-! ### _law_tower -/
abbrev s_law_tower : Stmt := top 32
abbrev N_law_tower : List Str := ["bag", "signature", "low", "at", "one", "two", "rows", "size", "goal", "k", "symbol"]
theorem sc_law_tower : FnScope N_law_tower ["bag"] (defScope s_law_tower) := ⟨rfl, rfl, rfl, by decide +kernel, rfl, by decide +kernel, by decide +kernel⟩
theorem ok_tower (F : FnP K "_law_tower" "_law_tower" s_law_tower f fd) (T : Nm mg) (h_law_draw : Has P w K mg base CX0 "_law_draw" ["bag", "below"] 1 spDraw) (h_law_pick : Has P w K mg base CX0 "_law_pick" ["bag", "some"] 2 spPick) (h_law_shuffled : Has P w K mg base CX0 "_law_shuffled" ["bag", "some"] 2 spShuf) (h_law_table : Has P w K mg base CX0 "_law_table" ["rows"] 2 (spTable K)) :
    FnOk P w K mg base CX0 3 f fd ["bag"] (spMade K) := by
  refine F.ok sc_law_tower (fun vs H Q E h => ?_) (fun cdv A outer s H vs Q E hr h => ?_)
  · obtain ⟨b, cl, rfl, _⟩ := h
    rfl
  obtain ⟨b, cl, rfl, B, k⟩ := h
  have hq := hq_of hr
  have hu := hu_of hr
  refine ⟨_, PSs.nox
  (pss_cons (ps_set (i := 1) sc_law_tower.nd rfl (Or.inr rfl) (pe_callTy (cr_tupleFK K) (by rfl) T.tuple bt_tuple (pa_cons (pe_f h_law_shuffled (hr.mono (by decide)) (by rfl) (pa_cons (pv 0) (pa_cons (pe_lst (pa_cons pe_int (pa_cons pe_int (pa_cons pe_int (pa_cons pe_int pa_nil))))) pa_nil))) pa_nil)))
      (pss_cons (ps_setLc (i := 2) (own := [("symbol", 10)]) rfl sc_law_tower.nd rfl rfl (sw_true rfl rfl rfl (by decide +kernel)) (pi_range1 (by rfl) T.range (pa_cons pe_int pa_nil)) (blkOk_by (N := N_law_tower) (sc := defScope s_law_tower) (by decide +kernel)) (fun _ _ _ _ _ => (pg_name (i := 10) sc_law_tower.nd rfl (Or.inl rfl))) (fun _ _ _ _ _ => (pts_one (pt_cmpR (op_eqK K hq) (pe_ix (ix_K K) (pv 1) (pv 10) (fun _ _ => rfl)) pe_int (nomark _)))) (fun _ _ _ _ _ => (pv 10)))
      (pss_cons (ps_par (i := 4) (j := 5) rfl sc_law_tower.nd rfl rfl (by decide) rfl rfl (pa_cons (pe_bmF PySem.F.slot_tuple_index PySem.F.type_tuple_index mt_tup_indexI (pv 1) (pa_cons pe_int pa_nil)) (pa_cons (pe_bmF PySem.F.slot_tuple_index PySem.F.type_tuple_index mt_tup_indexI (pv 1) (pa_cons pe_int pa_nil)) pa_nil)) rfl)
      (pss_cons (ps_set (i := 3) sc_law_tower.nd rfl (Or.inl rfl) (pe_f h_law_draw (hr.mono (by decide)) (by rfl) (pa_cons (pv 0) (pa_cons pe_int pa_nil))))
      (pss_cons (ps_asg (pe_tup (pa_cons (pe_lst (pa_cons (pe_tup (pa_cons (pe_ix (ix_K K) (pv 2) (pv 3) (fun _ _ => rfl)) (pa_cons (pe_tup pa_nil) (pa_cons pe_int pa_nil)))) (pa_cons (pe_tup (pa_cons (pe_ix (ix_K K) (pv 2) (pe_op op_sub pe_int (pv 3)) (fun _ _ => rfl)) (pa_cons (pe_tup pa_nil) (pa_cons pe_int pa_nil)))) pa_nil))) (pa_cons pe_int (pa_cons (pe_op (op_addK K) pe_int (pe_callB (call_min2 rfl) (by rfl) T.min bt_min (pa_cons pe_int (pa_cons (pe_f h_law_draw (hr.mono (by decide)) (by rfl) (pa_cons (pv 0) (pa_cons pe_int pa_nil))) pa_nil)))) (pa_cons pe_int pa_nil))))) (pg_tupK (n := 4) K rfl (pgs_cons (pg_name (i := 6) sc_law_tower.nd rfl (Or.inl rfl)) (pgs_cons (pg_name (i := 7) sc_law_tower.nd rfl (Or.inl rfl)) (pgs_cons (pg_name (i := 8) sc_law_tower.nd rfl (Or.inl rfl)) (pgs_cons (pg_name (i := 9) sc_law_tower.nd rfl (Or.inl rfl)) pgs_nil))))))
      (pss_cons (ps_while PassesOwn.never (pt_cmpR (op_ltK K hq) (pv 7) (pv 8) (nomark _)) (pss_cons (ps_if (pt_cmpR op_le (pe_op (op_addK K) (pe_op (op_mulK K) pe_int (pv 7)) pe_int) (pv 8) (nomark _)) (pss_cons (ps_expr (pe_appK K (pv 6) (pe_tup (pa_cons (pv 5) (pa_cons (pe_tup (pa_cons (pv 9) (pa_cons (pv 9) pa_nil))) (pa_cons (pe_op (op_addK K) (pv 9) pe_int) pa_nil))))))
      (pss_one (ps_set (i := 7) sc_law_tower.nd rfl (Or.inl rfl) (pe_op (op_addK K) (pe_op (op_mulK K) pe_int (pv 7)) pe_int)))) (pss_one (ps_if (PW.pt (pw_and (pt_cmpR op_le (pe_op (op_addK K) (pv 7) pe_int) (pv 8) (nomark _)) (pw_and1 (pt_cmpR (op_eqK K hq) (pe_f h_law_draw (hr.mono (by decide)) (by rfl) (pa_cons (pv 0) (pa_cons pe_int pa_nil))) pe_int (nomark _))))) (pss_cons (ps_expr (pe_appK K (pv 6) (pe_tup (pa_cons (pv 5) (pa_cons (pe_f h_law_pick (hr.mono (by decide)) (by rfl) (pa_cons (pv 0) (pa_cons (pe_lst (pa_cons (pe_tup (pa_cons (pv 9) (pa_cons pe_int pa_nil))) (pa_cons (pe_tup (pa_cons pe_int (pa_cons (pv 9) pa_nil))) pa_nil))) pa_nil))) (pa_cons (pe_op (op_addK K) (pv 9) pe_int) pa_nil))))))
      (pss_one (ps_set (i := 7) sc_law_tower.nd rfl (Or.inl rfl) (pe_op (op_addK K) (pv 7) pe_int)))) (pss_cons (ps_expr (pe_appK K (pv 6) (pe_tup (pa_cons (pv 4) (pa_cons (pe_tup (pa_cons (pv 9) pa_nil)) (pa_cons (pe_op (op_addK K) (pv 9) pe_int) pa_nil))))))
      (pss_one (ps_set (i := 7) sc_law_tower.nd rfl (Or.inl rfl) (pe_op (op_addK K) (pv 7) pe_int)))))))
      (pss_one (ps_set (i := 9) sc_law_tower.nd rfl (Or.inl rfl) (pe_op (op_addK K) (pv 9) pe_int)))))
      (pss_cons (ps_expr (pe_appK K (pv 6) (pe_tup (pa_cons (pv 4) (pa_cons (pe_tup (pa_cons (pv 9) pa_nil)) (pa_cons pe_int pa_nil))))))
      (pss_one (ps_ret (pe_tup (pa_cons (pv 1) (pa_cons (pe_f h_law_table (hr.mono (by decide)) (by rfl) (pa_cons (pv 6) pa_nil)) pa_nil)))))))))))), ?_⟩
  -- signature = tuple(_law_shuffled(bag, [0, 0, 1, 2]))
  refine seq_cut (fun σ H' => ∃ (sa : Addr) (sg : List Int), σ = [some (.ref b), some (.ref sa), none, none, none, none, none, none, none, none, none] ∧ Bag H' b cl ∧ Fr [b, cl] H H' ∧ FT H' sa sg ∧ sa ∉ [b, cl] ∧ sg.Perm [0, 0, 1, 2]) (fun Z hZ => ?_) ?_
  · refine ⟨_, rfl, by show 4 ≤ sizeLine; decide, fun l hl => ?_⟩
    refine ⟨b, cl, l, [0, 0, 1, 2], rfl, B.new hl, upd_same, B.out hl, by decide, fun p ms H1 B1 fr1 p0 hp pm => ?_⟩
    refine ⟨p, _, rfl, SqL.of hp, fun q o hq0 oc od => ?_⟩
    exact hZ _ _ ⟨q, ms, rfl, B1.new hq0, ((Fr.new hl).trans fr1).trans (Fr.new hq0), ⟨o, upd_same, oc, od⟩, B1.out hq0, pm⟩
  rintro _ H1 ⟨sa, sg, rfl, B1, fr1, hsa, nsa, pm⟩
  have S : Sig sg := Sig.perm pm ⟨by decide, by decide, by decide, by decide⟩
  obtain ⟨j1, hj1, ej1, fj1⟩ := first_at (x := (1 : Int)) (l := sg) (pm.mem_iff.mpr (by decide))
  obtain ⟨j2, hj2, ej2, fj2⟩ := first_at (x := (2 : Int)) (l := sg) (pm.mem_iff.mpr (by decide))
  obtain ⟨x, y, elow, nxy, ex, ey⟩ := lowOk_elim (low4 pm)
  have sl : sg.length = 4 := pm.length_eq
  rw [sl] at elow
  -- low = [..]
  refine seq_cut (fun σ H' => ∃ (lp : Addr), σ = [some (.ref b), some (.ref sa), some (.ref lp), none, none, none, none, none, none, none, none] ∧ Bag H' b cl ∧ Fr [b, cl] H H' ∧ FT H' sa sg ∧ H' lp = some (.lst [.int (x : Nat), .int (y : Nat)]) ∧ lp ∉ [b, cl]) (fun Z hZ => ?_) ?_
  · refine ⟨_, rfl, by decide, by decide, fun D hD => ?_⟩
    refine lcM (walk_range (lo := 0) (n := 4)) [] hD (fun i acc H' => acc = (lowL sg i).map fun k : Nat => V.int (k : Int)) rfl (fun _ _ _ _ _ => trivial) ?_ ?_
    · rintro i v acc Hb Ha Nx hN hi fr e rfl ⟨rfl, rfl⟩
      refine ⟨rfl, ?_⟩
      have hsa1 := hsa.fr (M := []) fr (by simp)
      have hv : sg[i]? = some (sg[i]'(by omega)) := List.getElem?_eq_getElem _
      refine ⟨_, rfl, _, rfl, sa, _, _, .int (sg[i]'(by omega)), rfl, rfl, .inr hsa1.sq, ?_, .inl ⟨rfl, _, rfl, ?_⟩⟩
      · rw [show (0 + (i : Int)) = ((i : Nat) : Int) by omega]
        exact atI_nat (by rw [List.getElem?_map, hv]; rfl)
      have la : ((lowL sg i).map fun k : Nat => V.int (k : Int)).length ≤ 4 := by
        rw [List.length_map]
        refine Nat.le_trans (List.length_filter_le _ _) ?_
        rw [List.length_range]
        omega
      refine dec_b (fun h1 => ?_) (fun h1 => ?_)
      · have h1 := vint_inj h1
        refine ⟨_, rfl, _, e, small_line (by omega), hN _ _ upd_same (fr.put (.inl hD)) ?_⟩
        rw [lowL_succ, if_pos (by rw [hv, h1]), List.map_append]
        dsimp only
        rw [show (0 + (i : Int)) = (i : Int) by omega]
        rfl
      · refine hN _ _ e fr ?_
        rw [lowL_succ, if_neg (fun q => h1 (by rw [hv] at q; exact congrArg V.int (Option.some.inj q))), List.append_nil]
    · rintro acc H2 fr e rfl
      rw [elow] at e
      exact hZ _ _ ⟨D, rfl, B1.same fr.same, fr1.trans (.of_same fr.same), hsa.same fr.same, e, B1.out hD⟩
  rintro _ H2 ⟨lp, rfl, B2, fr2, hsa2, hlp, nlp⟩
  -- one, two = ..
  refine seq_cut (fun σ H' => H2 = H' ∧ σ = [some (.ref b), some (.ref sa), some (.ref lp), none, some (.int (j1 : Nat)), some (.int (j2 : Nat)), none, none, none, none, none]) (fun Z hZ => ?_) ?_
  · obtain ⟨o, ho, oc, od⟩ := hsa2.ex
    refine ⟨_, rfl, ⟨sa, o, _, rfl, ho, oc, od⟩, sa, sg, 1, j1, rfl, rfl, SqT.frz ho, ej1, fj1, _, rfl, ⟨sa, o, _, rfl, ho, oc, od⟩, sa, sg, 2, j2, rfl, rfl, SqT.frz ho, ej2, fj2, ?_⟩
    exact ⟨_, _, rfl, hZ _ _ ⟨rfl, rfl⟩⟩
  rintro _ _ ⟨rfl, rfl⟩
  -- at = _law_draw(bag, 2)
  refine ⟨_, rfl, b, cl, 2, rfl, B2, by decide, by decide, fun r H3 r0 r1 B3 fr3 => ?_⟩
  obtain ⟨at_, rfl⟩ := Int.eq_ofNat_of_zero_le r0
  have hsa3 := hsa2.fr fr3 nsa
  have hlp3 := fr3 _ _ hlp nlp
  dsimp only [gName]
  have nlp3 := nlp
  have hat : at_ < 2 := by omega
  have e2 : ∃ x' y' : Nat, atI [V.int (x : Nat), .int (y : Nat)] (at_ : Nat) = some (.int (x' : Nat)) ∧ atI [V.int (x : Nat), .int (y : Nat)] (1 - (at_ : Nat)) = some (.int (y' : Nat)) ∧ x' ≠ y' ∧ sg[x']? = some 0 ∧ sg[y']? = some 0 := by
    rcases (by omega : at_ = 0 ∨ at_ = 1) with rfl | rfl
    · exact ⟨x, y, rfl, rfl, nxy, ex, ey⟩
    · exact ⟨y, x, rfl, rfl, nxy.symm, ey, ex⟩
  obtain ⟨x', y', ax, ay, nxy', ex', ey'⟩ := e2
  -- rows, size, goal, k = ..
  refine seq_cut (fun σ H' => ∃ (rp : Addr) (xs : List V) (goal : Nat), σ = [some (.ref b), some (.ref sa), some (.ref lp), some (.int (at_ : Nat)), some (.int (j1 : Nat)), some (.int (j2 : Nat)), some (.ref rp), some (.int (1 : Nat)), some (.int (goal : Nat)), some (.int (0 : Nat)), none] ∧ Bag H' b cl ∧ Fr [b, cl] H H' ∧ FT H' sa sg ∧ H rp = none ∧ H' rp = some (.lst xs) ∧ DpAll K H' xs ((⟨x', [], 0⟩ :: ⟨y', [], 99⟩ :: ([] : List Row)).map rowD) ∧ 39 ≤ goal ∧ goal ≤ 40) (fun Z hZ => ?_) ?_
  · refine e_cut (fun v H' => ∃ t rp goal v1 v2, v = .ref t ∧ Fr [b, cl] H3 H' ∧ Bag H' b cl ∧ H rp = none ∧ SqT K H' t [.ref rp, .int 1, .int (goal : Nat), .int 0] ∧ H' rp = some (.lst [v1, v2]) ∧ Dp K H' v1 (rowD ⟨x', [], 0⟩) ∧ Dp K H' v2 (rowD ⟨y', [], 99⟩) ∧ 39 ≤ goal ∧ goal ≤ 40) (fun Z hZ => ?_) ?_
    · refine a_cut (fun v H' => ∃ rp v1 v2, v = .ref rp ∧ H3 rp = none ∧ Same H3 H' ∧ H' rp = some (.lst [v1, v2]) ∧ Dp K H' v1 (rowD ⟨x', [], 0⟩) ∧ Dp K H' v2 (rowD ⟨y', [], 99⟩)) (fun Z hZ => ?_) ?_
      · refine a_cut (fun v H' => Same H3 H' ∧ Dp K H' v (rowD ⟨x', [], 0⟩)) (fun Z hZ => ?_) ?_
        · refine ⟨_, rfl, _, rfl, lp, _, _, _, rfl, rfl, .inl (SqL.of hlp3), ax, ?_⟩
          refine ⟨by show 0 ≤ sizeLine; decide, fun t ht => ⟨by show 3 ≤ sizeLine; decide, fun p hp => ?_⟩⟩
          have s1 := (Fr.new (M := []) (o := .tup []) ht).same
          have s2 := (Fr.new (M := []) (o := .tup [.int (x' : Nat), .ref t, .int 0]) hp).same
          exact hZ _ _ ⟨s1.trans s2, row_made (q := t) (is := []) ((Tps.same s2) _ _ (SqT.of upd_same)) (SqT.of upd_same)⟩
        rintro v1 Ha ⟨sa1, d1⟩
        refine a_cut (fun v H' => Same Ha H' ∧ Dp K H' v (rowD ⟨y', [], 99⟩)) (fun Z hZ => ?_) ?_
        · refine ⟨_, rfl, _, rfl, _, _, rfl, rfl, lp, _, _, _, rfl, rfl, .inl (SqL.of (sa1 _ _ hlp3)), ay, ?_⟩
          refine ⟨by show 0 ≤ sizeLine; decide, fun t ht => ⟨by show 3 ≤ sizeLine; decide, fun p hp => ?_⟩⟩
          have s1 := (Fr.new (M := []) (o := .tup []) ht).same
          have s2 := (Fr.new (M := []) (o := .tup [.int (y' : Nat), .ref t, .int 99]) hp).same
          exact hZ _ _ ⟨s1.trans s2, row_made (q := t) (is := []) ((Tps.same s2) _ _ (SqT.of upd_same)) (SqT.of upd_same)⟩
        rintro v2 Hb ⟨sab, d2⟩
        refine ⟨by show 2 ≤ sizeLine; decide, fun rp hrp => ?_⟩
        have s5 := (Fr.new (M := []) (o := .lst [v1, v2]) hrp).same
        exact hZ _ _ ⟨rp, v1, v2, rfl, (Fr.of_same (M := []) (sa1.trans sab)).free hrp (by simp), (sa1.trans sab).trans s5, upd_same, Dp.tps (Tps.same (sab.trans s5)) _ _ (rowD_flat _) d1, Dp.tps (Tps.same s5) _ _ (rowD_flat _) d2⟩
      rintro _ Ha ⟨rp, v1, v2, rfl, rp0, s3a, hrp, d1, d2⟩
      have Ba := B3.same s3a
      refine ⟨_, rfl, b, cl, 3, rfl, Ba, by decide, by decide, fun r Hb r0 r1 Bb fr' => ?_⟩
      obtain ⟨c, rfl⟩ := Int.eq_ofNat_of_zero_le r0
      obtain ⟨m, hm, em⟩ := min1 c
      refine ⟨_, _, rfl, ?_⟩
      dsimp only
      rw [em]
      refine .inl ⟨_, _, rfl, rfl, by show 4 ≤ sizeLine; decide, fun t ht => ?_⟩
      have eg : (39 : Int) + (m : Int) = ((39 + m : Nat) : Int) := by omega
      dsimp only
      rw [eg]
      have s6 := (Fr.new (M := []) (o := .tup [.ref rp, .int 1, .int (39 + m : Nat), .int 0]) ht).same
      have nrp : rp ∉ [b, cl] := B3.out rp0
      have tp := (fr'.tps (K := K) Ba.mut).trans (Tps.same s6)
      exact hZ _ _ ⟨t, rp, 39 + m, v1, v2, rfl, ((Fr.of_same s3a).trans fr').trans (.of_same s6), Bb.same s6, (fr2.trans fr3).free rp0 nrp, SqT.of upd_same, s6 _ _ (fr' _ _ hrp nrp), Dp.tps tp _ _ (rowD_flat _) d1, Dp.tps tp _ _ (rowD_flat _) d2, by omega, by omega⟩
    rintro _ Ha ⟨t, rp, goal, v1, v2, rfl, fr, Ba, rp0, ht, hrp, d1, d2, g1, g2⟩
    refine ⟨t, _, rfl, ht, rfl, _, _, rfl, _, _, rfl, _, _, rfl, _, _, rfl, rfl, ?_⟩
    exact hZ _ _ ⟨rp, _, goal, rfl, Ba, ((fr2.trans fr3).trans fr), hsa3.fr fr nsa, rp0, hrp, .cons d1 (.cons d2 .nil), g1, g2⟩
  rintro _ H4 ⟨rp, xs, goal, rfl, B4, fr4, hsa4, rp0, hrp4, dx, g1, g2⟩
  have nrp := B.out rp0
  -- while size < goal
  refine seq_cut (fun σ H' => ∃ (kk size : Nat) (z : Nat → Nat) (R : List Row) (xs : List V), σ = [some (.ref b), some (.ref sa), some (.ref lp), some (.int (at_ : Nat)), some (.int (j1 : Nat)), some (.int (j2 : Nat)), some (.ref rp), some (.int (size : Nat)), some (.int (goal : Nat)), some (.int (kk : Nat)), none] ∧ Bag H' b cl ∧ Fr [b, cl] H H' ∧ FT H' sa sg ∧ H' rp = some (.lst xs) ∧ DpAll K H' xs ((⟨x', [], 0⟩ :: ⟨y', [], 99⟩ :: R).map rowD) ∧ Tw j1 j2 kk size z R ∧ size ≤ 40) (fun Z hZ => ?_) ?_
  · refine while_d (fun m σ H' => ∃ (kk size : Nat) (z : Nat → Nat) (R : List Row) (xs : List V), σ = [some (.ref b), some (.ref sa), some (.ref lp), some (.int (at_ : Nat)), some (.int (j1 : Nat)), some (.int (j2 : Nat)), some (.ref rp), some (.int (size : Nat)), some (.int (goal : Nat)), some (.int (kk : Nat)), none] ∧ Bag H' b cl ∧ Fr [b, cl] H H' ∧ FT H' sa sg ∧ H' rp = some (.lst xs) ∧ DpAll K H' xs ((⟨x', [], 0⟩ :: ⟨y', [], 99⟩ :: R).map rowD) ∧ Tw j1 j2 kk size z R ∧ size ≤ goal ∧ m = goal - size)
      ⟨_, 0, 1, fun _ => 1, [], xs, rfl, B4, fr4, hsa4, hrp4, dx, Tw.nil _ _, by omega, rfl⟩ ?_
    rintro m _ Ha ⟨kk, size, z, R, xs, rfl, Ba, fra, hsaa, hrpa, dxa, W, hg, rfl⟩
    refine ⟨_, rfl, _, rfl, .inl ⟨_, _, rfl, rfl, _, rfl, ?_⟩⟩
    refine dec_b (fun h1 => ?_) (fun h1 => ?_)
    · refine ⟨_, fun σ' H' h => h, ?_⟩
      have h1' : size < goal := by omega
      -- the row that is told
      refine seq_cut (fun σ H' => ∃ (size' : Nat) (z' : Nat → Nat) (R' : List Row) (xs : List V), σ = [some (.ref b), some (.ref sa), some (.ref lp), some (.int (at_ : Nat)), some (.int (j1 : Nat)), some (.int (j2 : Nat)), some (.ref rp), some (.int (size' : Nat)), some (.int (goal : Nat)), some (.int (kk : Nat)), none] ∧ Bag H' b cl ∧ Fr [b, cl] H H' ∧ FT H' sa sg ∧ H' rp = some (.lst xs) ∧ DpAll K H' xs ((⟨x', [], 0⟩ :: ⟨y', [], 99⟩ :: R').map rowD) ∧ Tw j1 j2 (kk + 1) size' z' R' ∧ size' ≤ goal ∧ size < size') (fun Z hZ => ?_) ?_
      · have kk39 : kk ≤ 39 := by have := W.ks; omega
        have lxs : xs.length ≤ 41 := by
          rw [DpAll.len dxa, List.length_map, List.length_cons, List.length_cons, W.len]
          omega
        have fin : ∀ (v : V) (Hc : Hp) (s size' : Nat) (is : List Nat), Fr [b, cl] Ha Hc → Bag Hc b cl → Dp K Hc v (rowD ⟨s, is, kk + 1⟩) → kk ∈ is → (∀ i ∈ is, i ≤ kk) → ((s = j1 ∧ is.length = 1) ∨ (s = j2 ∧ is.length = 2)) → 1 + (is.map z).sum ≤ size' → size' ≤ goal → size < size' →
            Z [some (.ref b), some (.ref sa), some (.ref lp), some (.int (at_ : Nat)), some (.int (j1 : Nat)), some (.int (j2 : Nat)), some (.ref rp), some (.int (size' : Nat)), some (.int (goal : Nat)), some (.int (kk : Nat)), none] (upd Hc rp (.lst (xs ++ [v]))) := by
          intro v Hc s size' is frc Bc dv hk hi hs h2 h3 h4
          have hrpc := frc _ _ hrpa nrp
          have tm : Tps K Hc (upd Hc rp (.lst (xs ++ [v]))) := .mut hrpc trivial
          refine hZ _ _ ⟨size', _, R ++ [⟨s, is, kk + 1⟩], xs ++ [v], rfl, Bc.upd' B rp0, (fra.trans frc).put (.inl rp0), ?_, upd_same, ?_, W.add hk hi hs h2 (by omega) h4, h3, h4⟩
          · obtain ⟨o, ho, oc, od⟩ := (hsaa.fr frc nsa).ex
            refine ⟨o, ?_, oc, od⟩
            rw [upd_ne]
            · exact ho
            · rintro rfl
              rw [hrpc] at ho
              cases ho
          · have : (⟨x', [], 0⟩ :: ⟨y', [], 99⟩ :: (R ++ [⟨s, is, kk + 1⟩]) : List Row).map rowD = (⟨x', [], 0⟩ :: ⟨y', [], 99⟩ :: R : List Row).map rowD ++ [rowD ⟨s, is, kk + 1⟩] := by
              rw [List.map_cons, List.map_cons, List.map_append, List.map_cons, List.map_cons]
              rfl
            rw [this]
            exact DpAll.app (DpAll.tps ((frc.tps Ba.mut).trans tm) _ _ (flatDs_all _ _ rowD_flat) dxa) (.cons (Dp.tps tm _ _ (rowD_flat _) dv) .nil)
        have ek : (kk : Int) + 1 = ((kk + 1 : Nat) : Int) := by omega
        have cm : CMul 2 (size : Nat) := .inl ⟨by decide, by decide⟩
        have rowk : ∀ (s : Nat) (is : List Nat) (q : Addr) (Hd He : Hp) (p : Addr), Fr [b, cl] Ha Hd → Bag Hd b cl → SqT K Hd q (is.map fun i : Nat => V.int (i : Int)) → Hd p = none → He = upd Hd p (.tup [.int (s : Nat), .ref q, .int (kk + 1 : Nat)]) → Fr [b, cl] Ha He ∧ Bag He b cl ∧ Dp K He (.ref p) (rowD ⟨s, is, kk + 1⟩) := by
          rintro s is q Hd He p f B hq' hp rfl
          have s2 := (Fr.new (M := []) (o := .tup [.int (s : Nat), .ref q, .int (kk + 1 : Nat)]) hp).same
          exact ⟨f.trans (.of_same s2), B.same s2, row_made (q := q) ((Tps.same s2) _ _ hq') (SqT.of upd_same)⟩
        refine ⟨_, rfl, .inl ⟨2, size, rfl, rfl, cm, ?_⟩⟩
        refine .inl ⟨_, _, rfl, rfl, _, rfl, _, _, rfl, rfl, _, rfl, ?_⟩
        refine dec_b (fun c1 => ?_) (fun c1 => ?_)
        · refine ⟨_, rfl, .inl ⟨rfl, _, SqL.of hrpa⟩, ?_⟩
          refine a_cut (fun v H' => Fr [b, cl] Ha H' ∧ Bag H' b cl ∧ Dp K H' v (rowD ⟨j2, [kk, kk], kk + 1⟩)) (fun Z hZ => ?_) ?_
          · refine ⟨_, rfl, _, rfl, _, rfl, by show 2 ≤ sizeLine; decide, fun t ht => ⟨_, rfl, .inl ⟨_, _, rfl, rfl, by show 3 ≤ sizeLine; decide, fun p hp => ?_⟩⟩⟩
            dsimp only
            rw [ek]
            have s1 := (Fr.new (M := []) (o := .tup [.int (kk : Nat), .int (kk : Nat)]) ht).same
            exact hZ _ _ (rowk j2 [kk, kk] t _ _ p (.of_same s1) (Ba.same s1) (SqT.of upd_same) hp rfl)
          rintro v Hc ⟨frc, Bc, dv⟩
          refine ⟨rp, xs, v, rfl, rfl, frc _ _ hrpa nrp, small_line (by omega), ?_⟩
          refine ⟨_, rfl, .inl ⟨2, size, rfl, rfl, cm, .inl ⟨_, _, rfl, rfl, ?_⟩⟩⟩
          have e2 : 2 * (size : Int) + 1 = ((2 * size + 1 : Nat) : Int) := by omega
          dsimp only
          rw [e2]
          refine fin v Hc j2 (2 * size + 1) [kk, kk] frc Bc dv (by simp) (by simp) (.inr ⟨rfl, rfl⟩) ?_ (by omega) (by omega)
          simp only [List.map_cons, List.map_nil, List.sum_cons, List.sum_nil, W.zk]
          omega
        · refine if_cut (fun b' H' => Fr [b, cl] Ha H' ∧ Bag H' b cl ∧ (b' = true → size + 2 ≤ goal)) (fun Z hZ => ?_) ?_
          · refine ⟨_, rfl, .inl ⟨_, _, rfl, rfl, _, rfl, _, _, rfl, rfl, _, rfl, ?_⟩⟩
            refine dec_b (fun h2 => ?_) (fun h2 => ?_)
            · refine ⟨_, rfl, b, cl, 2, rfl, Ba, by decide, by decide, fun r Hb r0 r1 Bb frb => ?_⟩
              exact .inl ⟨rfl, _, rfl, hZ _ _ ⟨frb, Bb, fun _ => by omega⟩⟩
            · exact hZ _ _ ⟨Fr.refl _ _, Ba, fun e => by cases e⟩
          rintro b' Hb ⟨frb, Bb, hb⟩
          have hrpb := frb _ _ hrpa nrp
          cases b' with
          | true =>
            have h2 := hb rfl
            refine iteT ?_
            refine ⟨_, rfl, .inl ⟨rfl, _, SqL.of hrpb⟩, ?_⟩
            refine a_cut (fun v H' => ∃ is : List Nat, Fr [b, cl] Ha H' ∧ Bag H' b cl ∧ Dp K H' v (rowD ⟨j2, is, kk + 1⟩) ∧ (is = [kk, 0] ∨ is = [0, kk])) (fun Z hZ => ?_) ?_
            · refine ⟨_, rfl, ?_⟩
              refine a_cut (fun v H' => ∃ (q : Addr) (is : List Nat), v = .ref q ∧ Fr [b, cl] Ha H' ∧ Bag H' b cl ∧ SqT K H' q (is.map fun i : Nat => V.int (i : Int)) ∧ (is = [kk, 0] ∨ is = [0, kk])) (fun Z hZ => ?_) ?_
              · refine ⟨_, rfl, _, rfl, by show 2 ≤ sizeLine; decide, fun t1 ht1 => ⟨_, rfl, by show 2 ≤ sizeLine; decide, fun t2 ht2 => ⟨by show 2 ≤ sizeLine; decide, fun l hl => ?_⟩⟩⟩
                have s1 : Same Hb (upd Hb t1 (.tup [.int (kk : Nat), .int 0])) := (Fr.new (M := []) ht1).same
                have h1 : SqT K (upd Hb t1 (.tup [.int (kk : Nat), .int 0])) t1 ([kk, 0].map fun i : Nat => V.int (i : Int)) := SqT.of upd_same
                generalize upd Hb t1 (.tup [.int (kk : Nat), .int 0]) = Hc at s1 h1 ht2 hl
                have s2 : Same Hc (upd Hc t2 (.tup [.int 0, .int (kk : Nat)])) := (Fr.new (M := []) ht2).same
                have h2 : SqT K (upd Hc t2 (.tup [.int 0, .int (kk : Nat)])) t2 ([0, kk].map fun i : Nat => V.int (i : Int)) := SqT.of upd_same
                generalize upd Hc t2 (.tup [.int 0, .int (kk : Nat)]) = Hd at s2 h2 hl
                have s3 : Same Hd (upd Hd l (.lst [.ref t1, .ref t2])) := (Fr.new (M := []) hl).same
                have s03 := (s1.trans s2).trans s3
                refine ⟨b, cl, l, [.ref t1, .ref t2], rfl, Bb.same s03, upd_same, (Bb.same (s1.trans s2)).out hl, by show 0 < 2; decide, by show 2 ≤ 1000; decide, fun y He hy Be fre => ?_⟩
                have frA := (frb.trans (.of_same s03)).trans fre
                have tpe := fre.tps (K := K) (Bb.same s03).mut
                rcases List.mem_cons.mp hy with rfl | hy
                · exact hZ _ _ ⟨t1, [kk, 0], rfl, frA, Be, tpe _ _ ((Tps.same (s2.trans s3)) _ _ h1), .inl rfl⟩
                · rw [List.mem_singleton.mp hy]
                  exact hZ _ _ ⟨t2, [0, kk], rfl, frA, Be, tpe _ _ ((Tps.same s3) _ _ h2), .inr rfl⟩
              rintro _ Hd ⟨q, is, rfl, frd, Bd, hq', his⟩
              refine ⟨_, rfl, .inl ⟨_, _, rfl, rfl, by show 3 ≤ sizeLine; decide, fun p hp => ?_⟩⟩
              dsimp only
              rw [ek]
              obtain ⟨f1, f2, f3⟩ := rowk j2 is q _ _ p frd Bd hq' hp rfl
              exact hZ _ _ ⟨is, f1, f2, f3, his⟩
            rintro v Hc ⟨is, frc, Bc, dv, his⟩
            refine ⟨rp, xs, v, rfl, rfl, frc _ _ hrpa nrp, small_line (by omega), ?_⟩
            refine ⟨_, rfl, .inl ⟨_, _, rfl, rfl, ?_⟩⟩
            have e2 : (size : Int) + 2 = ((size + 2 : Nat) : Int) := by omega
            dsimp only
            rw [e2]
            refine fin v Hc j2 (size + 2) is frc Bc dv ?_ ?_ (.inr ⟨rfl, ?_⟩) ?_ (by omega) (by omega)
            · rcases his with rfl | rfl <;> simp
            · rcases his with rfl | rfl <;> simp
            · rcases his with rfl | rfl <;> rfl
            · rcases his with rfl | rfl <;> simp only [List.map_cons, List.map_nil, List.sum_cons, List.sum_nil, W.zk, W.z0] <;> omega
          | false =>
            refine ⟨_, rfl, .inl ⟨rfl, _, SqL.of hrpb⟩, ?_⟩
            refine a_cut (fun v H' => Fr [b, cl] Ha H' ∧ Bag H' b cl ∧ Dp K H' v (rowD ⟨j1, [kk], kk + 1⟩)) (fun Z hZ => ?_) ?_
            · refine ⟨_, rfl, _, rfl, by show 1 ≤ sizeLine; decide, fun t ht => ⟨_, rfl, .inl ⟨_, _, rfl, rfl, by show 3 ≤ sizeLine; decide, fun p hp => ?_⟩⟩⟩
              dsimp only
              rw [ek]
              have s1 := (Fr.new (M := []) (o := .tup [.int (kk : Nat)]) ht).same
              exact hZ _ _ (rowk j1 [kk] t _ _ p (frb.trans (.of_same s1)) (Bb.same s1) (SqT.of upd_same) hp rfl)
            rintro v Hc ⟨frc, Bc, dv⟩
            refine ⟨rp, xs, v, rfl, rfl, frc _ _ hrpa nrp, small_line (by omega), ?_⟩
            refine ⟨_, rfl, .inl ⟨_, _, rfl, rfl, ?_⟩⟩
            have e2 : (size : Int) + 1 = ((size + 1 : Nat) : Int) := by omega
            dsimp only
            rw [e2]
            refine fin v Hc j1 (size + 1) [kk] frc Bc dv (by simp) (by simp) (.inl ⟨rfl, rfl⟩) ?_ (by omega) (by omega)
            simp only [List.map_cons, List.map_nil, List.sum_cons, List.sum_nil, W.zk]
            omega
      rintro _ Hb ⟨size', z', R', xs', rfl, Bb, frb, hsab, hrpb, dxb, W', hg', hlt⟩
      refine ⟨_, rfl, .inl ⟨_, _, rfl, rfl, ?_⟩⟩
      refine ⟨goal - size', by omega, kk + 1, size', z', R', xs', ?_, Bb, frb, hsab, hrpb, dxb, W', hg', rfl⟩
      have : (kk : Int) + 1 = ((kk + 1 : Nat) : Int) := by omega
      dsimp only
      rw [this]
      rfl
    · exact hZ _ _ ⟨kk, size, z, R, xs, rfl, Ba, fra, hsaa, hrpa, dxa, W, by omega⟩
  rintro _ H5 ⟨kk, size, z, R, xs5, rfl, B5, fr5, hsa5, hrp5, dx5, W, hs40⟩
  -- rows.append((one, (k,), 99))
  have kk39 : kk ≤ 39 := by have := W.ks; omega
  have lxs : xs5.length ≤ 41 := by
    rw [DpAll.len dx5, List.length_map, List.length_cons, List.length_cons, W.len]
    omega
  refine ⟨_, rfl, .inl ⟨rfl, _, SqL.of hrp5⟩, ?_⟩
  refine a_cut (fun v H' => Same H5 H' ∧ Dp K H' v (rowD ⟨j1, [kk], 99⟩)) (fun Z hZ => ?_) ?_
  · refine ⟨_, rfl, _, rfl, by show 1 ≤ sizeLine; decide, fun t ht => ⟨by show 3 ≤ sizeLine; decide, fun p hp => ?_⟩⟩
    have s1 := (Fr.new (M := []) (o := .tup [.int (kk : Nat)]) ht).same
    have s2 := (Fr.new (M := []) (o := .tup [.int (j1 : Nat), .ref t, .int 99]) hp).same
    exact hZ _ _ ⟨s1.trans s2, row_made (q := t) (is := [kk]) ((Tps.same s2) _ _ (SqT.of upd_same)) (SqT.of upd_same)⟩
  rintro v H6 ⟨s56, dv⟩
  have hrp6 := s56 _ _ hrp5
  refine ⟨rp, xs5, v, rfl, rfl, hrp6, small_line (by omega), ?_⟩
  have tm : Tps K H6 (upd H6 rp (.lst (xs5 ++ [v]))) := .mut hrp6 trivial
  obtain ⟨ok, bd⟩ := W.ends S sl ej1 ej2 ex' ey' nxy' hs40
  have dx6 : DpAll K (upd H6 rp (.lst (xs5 ++ [v]))) (xs5 ++ [v]) ((⟨x', [], 0⟩ :: ⟨y', [], 99⟩ :: R ++ [⟨j1, [kk], 99⟩] : List Row).map rowD) := by
    rw [List.map_append]
    exact DpAll.app (DpAll.tps ((Tps.same s56).trans tm) _ _ (flatDs_all _ _ rowD_flat) dx5) (.cons (Dp.tps tm _ _ (rowD_flat _) dv) .nil)
  have hsa6 : FT (upd H6 rp (.lst (xs5 ++ [v]))) sa sg := by
    obtain ⟨o, ho, oc, od⟩ := (hsa5.same s56).ex
    refine ⟨o, ?_, oc, od⟩
    rw [upd_ne]
    · exact ho
    · rintro rfl
      rw [hrp6] at ho
      cases ho
  have B6 : Bag (upd H6 rp (.lst (xs5 ++ [v]))) b cl := (B5.same s56).upd' B rp0
  have fr6 : Fr [b, cl] H (upd H6 rp (.lst (xs5 ++ [v]))) := (fr5.trans (.of_same s56)).put (.inl rp0)
  have hrp7 : (upd H6 rp (.lst (xs5 ++ [v]))) rp = some (.lst (xs5 ++ [v])) := upd_same
  generalize upd H6 rp (.lst (xs5 ++ [v])) = H7 at dx6 hsa6 B6 fr6 hrp7
  refine ⟨_, rfl, _, rfl, rp, _, _, arOf sg, rfl, hrp7, dx6, ok, fun ta Tb es Bs H8 s8 dt X => ⟨by show 2 ≤ sizeLine; decide, fun p hp => ?_⟩⟩
  have s9 := (Fr.new (M := []) (o := .tup [.ref sa, .ref ta]) hp).same
  have sall := s8.trans s9
  exact k p sa ta sg Tb es.length _ (B6.same sall) (fr6.trans (.of_same sall)) (SqT.of upd_same) (hsa6.same sall).sq S (Dp.tps (Tps.same s9) _ _ (tabD_flat _) dt) (X.good ok bd) (X.syms (W.syms ej1 ej2 ex' ey'))
end
end R59
/-! W13 -/
set_option maxHeartbeats 1000000
namespace R59
open PySem PyProof.Rows L2 KB PySem.W
section
variable {P : Program} {w : World} {K : PySem.W.Frag} {mg : Str → Option Value} {base : Heap} {f : Addr} {fd : FuncData}
/-! ### _law_many -/
abbrev s_law_many : Stmt := top 30
abbrev N_law_many : List Str := ["table", "row"]
theorem sc_law_many : FnScope N_law_many ["table"] (defScope s_law_many) := ⟨rfl, rfl, rfl, by decide +kernel, rfl, by decide +kernel, by decide +kernel⟩
def spMany (K : PySem.W.Frag) : Sp := fun vs H Q _ => ∃ (ta : Addr) (T : List Row) (n : Nat) (ar : Nat → Nat), vs = [.ref ta] ∧ Dp K H (.ref ta) (tabD T) ∧ TabG ar T n ∧ ∀ H', Same H H' → Q (.int (n : Nat)) H'
theorem ok_many (F : FnP K "_law_many" "_law_many" s_law_many f fd) (T : Nm mg) : FnOk P w K mg base CX0 1 f fd ["table"] (spMany K) := by
  refine F.ok sc_law_many (fun vs H Q E h => ?_) (fun cdv A outer s H vs Q E hr h => ?_)
  · obtain ⟨ta, T, n, ar, rfl, _⟩ := h
    rfl
  obtain ⟨ta, Tb, n, ar, rfl, dt, G, k⟩ := h
  have hq := hq_of hr
  have hu := hu_of hr
  obtain ⟨a, xs, ea, hta, dx⟩ := Dp.tupOf dt
  cases ea
  refine ⟨_, PSs.nox
  (pss_one (ps_ret (pe_ifExp (pt_cmpR (op_neK K hq) (pv 0) (pe_tup pa_nil) (nomark _)) (pe_op (op_addK K) (pe_callB (cr_maxK K rfl) (by rfl) T.max bt_max (pa_cons (pe_lc (own := [("row", 1)]) rfl sc_law_many.nd (pi_tupK K (pv 0)) (blkOk_by (N := N_law_many) (sc := defScope s_law_many) (by decide +kernel)) (fun _ _ _ _ _ => (pg_name (i := 1) sc_law_many.nd rfl (Or.inl rfl))) (fun _ _ _ _ _ => pts_nil) (fun _ _ _ _ _ => (pe_ix (ix_K K) (pv 1) pe_int (fun _ _ => rfl)))) pa_nil)) pe_int) pe_int))), ?_⟩
  refine ⟨_, rfl, by show 0 ≤ sizeLine; decide, fun p hp => .inr ⟨tabD Tb, .tuple [], ?_⟩⟩
  have s1 : Same H (upd H p (.tup [])) := (Fr.new (M := []) hp).same
  refine ⟨Dp.tps (Tps.same s1) _ _ (tabD_flat _) dt, .tup (SqT.of upd_same) .nil, by have := depth_tabD Tb; omega, _, rfl, ?_⟩
  have ene : (!(tabD Tb).eqv (.tuple [])) = true := by
    have := G.ne
    cases Tb with
    | nil => exact absurd rfl this
    | cons r T => rfl
  rw [ene]
  refine iteT ?_
  generalize upd H p (.tup []) = H1 at s1
  have hta1 := (Tps.same s1) _ _ hta
  have dx1 := DpAll.tps (Tps.same s1) _ _ (flatDs_all _ _ rowD_flat) dx
  refine ⟨_, rfl, ta, rfl, ⟨_, hta1⟩, fun D hD => ?_⟩
  refine lcM (walk_tup (xs := xs)) [] hD (fun i acc H' => acc = (Tb.take i).map fun r => V.int (r.c : Int)) rfl (fun i acc H' fr _ => (Tps.same fr.same) _ _ hta1) ?_ ?_
  · rintro j y acc Hb Ha Nx hN hj fr e rfl ⟨rfl, hy⟩
    obtain ⟨dd, ed, dr⟩ := DpAll.get' (DpAll.tps (Tps.same fr.same) _ _ (flatDs_all _ _ rowD_flat) dx1) hy
    rw [List.getElem?_map] at ed
    cases er : Tb[j]? with
    | none =>
      rw [er] at ed
      cases ed
    | some r =>
    rw [er] at ed
    obtain rfl := Option.some.inj ed
    obtain ⟨ra, ia, rfl, hra, hia⟩ := Dp.row dr
    have la : ((Tb.take j).map fun r => V.int (r.c : Int)).length ≤ 42 := by
      rw [List.length_map, List.length_take]
      have := G.len
      omega
    refine ⟨rfl, ?_⟩
    refine ⟨_, rfl, ra, _, 2, _, rfl, rfl, .inr hra, rfl, _, e, small_line (by omega), hN _ _ upd_same (fr.put (.inl hD)) ?_⟩
    rw [take_get er, List.map_append]
    rfl
  · rintro acc Ha fr e rfl
    have lx : xs.length = Tb.length := by rw [DpAll.len dx, List.length_map]
    rw [lx, List.take_of_length_le (Nat.le_refl _)] at e
    refine ⟨D, Tb.map fun r => (r.c : Int), rfl, SqL.of (by rw [e, List.map_map]; rfl), ?_, fun m hm hmax => ?_⟩
    · rw [List.length_map]
      exact List.length_pos_iff.mpr G.ne
    obtain ⟨r, hr, rfl⟩ := List.mem_map.mp hm
    obtain ⟨r', hr', e'⟩ := G.row (c := n - 1) (by have := G.n1; omega)
    have h1 := (G.cl r hr).1
    have h2 := hmax (r'.c : Int) (List.mem_map.mpr ⟨r', hr', rfl⟩)
    have h3 := G.n1
    have h4 : (r.c : Int) + 1 = (n : Nat) := by omega
    refine .inl ⟨_, _, rfl, rfl, ?_⟩
    dsimp only
    rw [h4]
    exact k _ (s1.trans fr.same)
end
end R59
/-! W14 -/
set_option maxHeartbeats 1000000
namespace R59
open PySem PyProof.Rows L2 KB PySem.W
/-- a row that is half filled: (cost, size, signs, begun term) -/
def partD (co : Nat → Nat) (s : Nat) (ts : List Tm) : PyData := .tuple [.int ((co s + KB.costs co ts : Nat) : Int), .int ((1 + sizes ts : Nat) : Int), .tuple (((s : Int) :: symsL ts).map .int), .tuple (.int (s : Int) :: tmDs ts)]
theorem partD_flat (co : Nat → Nat) (s : Nat) (ts : List Tm) : flatD (partD co s ts) = true := by
  unfold partD
  simp only [flatD, flatDs, flat_ints, tmDs_flat]
  decide
theorem costs_app (co : Nat → Nat) : ∀ a b : List Tm, KB.costs co (a ++ b) = KB.costs co a + KB.costs co b
  | [], b => by rw [List.nil_append, KB.costs, Nat.zero_add]
  | t :: a, b => by rw [List.cons_append, KB.costs, KB.costs, costs_app co a b, Nat.add_assoc]
theorem sizes_app : ∀ a b : List Tm, sizes (a ++ b) = sizes a + sizes b
  | [], b => by rw [List.nil_append, sizes, Nat.zero_add]
  | t :: a, b => by rw [List.cons_append, sizes, sizes, sizes_app a b, Nat.add_assoc]
theorem fm_len {α β γ : Type} (g : α → β → γ) (M : List β) : ∀ L : List α, (L.flatMap fun a => M.map (g a)).length = L.length * M.length
  | [] => by simp
  | a :: L => by rw [List.flatMap_cons, List.length_append, fm_len g M L, List.length_map, List.length_cons, Nat.succ_mul, Nat.add_comm]
theorem Dp.part {K : PySem.W.Frag} {H : Hp} {v : V} {co : Nat → Nat} {s : Nat} {ts : List Tm} (h : Dp K H v (partD co s ts)) : ∃ a sa ta ws, v = .ref a ∧ SqT K H a [.int ((co s + KB.costs co ts : Nat) : Int), .int ((1 + sizes ts : Nat) : Int), .ref sa, .ref ta] ∧ SqT K H sa (((s : Int) :: symsL ts).map V.int) ∧ SqT K H ta (.int (s : Int) :: ws) ∧ DpAll K H ws (tmDs ts) := by
  obtain ⟨a, ys, rfl, h1, h2⟩ := Dp.tupOf h
  cases h2 with
  | cons d1 h2 =>
  cases h2 with
  | cons d2 h2 =>
  cases h2 with
  | cons d3 h2 =>
  cases h2 with
  | cons d4 h2 =>
  cases h2
  cases d1
  cases d2
  obtain ⟨sa, rfl, q⟩ := Dp.tupInts d3
  obtain ⟨ta, ws, rfl, h3, h4⟩ := Dp.tupOf d4
  cases h4 with
  | cons e1 h4 =>
  cases e1
  exact ⟨a, sa, ta, _, rfl, h1, q, h3, h4⟩
theorem Dp.lb {K : PySem.W.Frag} {H : Hp} {v : V} {co : Nat → Nat} {e : Nat × Tm} (h : Dp K H v (lbD co e)) : ∃ a sa w, v = .ref a ∧ SqT K H a [.int (e.2.cost co : Int), .int (e.2.size : Int), .ref sa, .int (e.1 : Int), w] ∧ SqT K H sa (e.2.syms.map V.int) ∧ Dp K H w (tmD e.2) := by
  obtain ⟨a, ys, rfl, h1, h2⟩ := Dp.tupOf h
  cases h2 with
  | cons d1 h2 =>
  cases h2 with
  | cons d2 h2 =>
  cases h2 with
  | cons d3 h2 =>
  cases h2 with
  | cons d4 h2 =>
  cases h2 with
  | cons d5 h2 =>
  cases h2
  cases d1
  cases d2
  cases d4
  obtain ⟨sa, rfl, q⟩ := Dp.tupInts d3
  exact ⟨a, sa, _, rfl, h1, q, d5⟩
section
variable {P : Program} {w : World} {K : PySem.W.Frag} {mg : Str → Option Value} {base : Heap} {f : Addr} {fd : FuncData}
/-! ### _law_joined -/
abbrev s_law_joined : Stmt := top 35
abbrev N_law_joined : List Str := ["some", "parts", "found", "ahead", "part"]
theorem sc_law_joined : FnScope N_law_joined ["some", "parts"] (defScope s_law_joined) := ⟨rfl, rfl, rfl, by decide +kernel, rfl, by decide +kernel, by decide +kernel⟩
def spJoined (K : PySem.W.Frag) : Sp := fun vs H Q _ => ∃ (sp pp : Addr) (xs ys : List V) (co : Nat → Nat) (s : Nat) (L : List (List Tm)) (M : List (Nat × Tm)), vs = [.ref sp, .ref pp] ∧ H sp = some (.lst xs) ∧ H pp = some (.lst ys) ∧
  DpAll K H xs (L.map (partD co s)) ∧ DpAll K H ys (M.map (lbD co)) ∧ L.length * M.length ≤ 10000 ∧ (∀ ts ∈ L, sizes ts ≤ 2000000 ∧ ts.length ≤ 3) ∧ (∀ e ∈ M, e.2.size ≤ 2000000) ∧
  ∀ (p : Addr) (zs : List V) (H' : Hp), Same H H' → H p = none → H' p = some (.lst zs) → DpAll K H' zs ((L.flatMap fun ts => M.map fun e => ts ++ [e.2]).map (partD co s)) → Q (.ref p) H'
theorem ok_joined (F : FnP K "_law_joined" "_law_joined" s_law_joined f fd) (T : Nm mg) : FnOk P w K mg base CX0 1 f fd ["some", "parts"] (spJoined K) := by
  refine F.ok sc_law_joined (fun vs H Q E h => ?_) (fun cdv A outer s H vs Q E hr h => ?_)
  · obtain ⟨sp, pp, xs, ys, co, s, L, M, rfl, _⟩ := h
    rfl
  obtain ⟨sp, pp, xs, ys, co, s, L, M, rfl, hsp, hpp, dx, dy, lLM, bL, bM, k⟩ := h
  have hq := hq_of hr
  have hu := hu_of hr
  refine ⟨_, PSs.nox
  (pss_cons (ps_set (i := 2) sc_law_joined.nd rfl (Or.inl rfl) (pe_lst pa_nil))
      (pss_cons (ps_for PassesOwn.never rfl (pi_listK K (pv 0)) (pg_name (i := 3) sc_law_joined.nd rfl (Or.inr rfl)) (pss_one (ps_expr (pe_bm PySem.F.plainAttrs_list PySem.F.slot_list_extend PySem.F.type_list_extend mt_extend (pv 2) (pa_cons (pe_lc (own := [("part", 4)]) rfl sc_law_joined.nd (pi_listK K (pv 1)) (blkOk_by (N := N_law_joined) (sc := defScope s_law_joined) (by decide +kernel)) (fun _ _ _ _ _ => (pg_name (i := 4) sc_law_joined.nd rfl (Or.inl rfl))) (fun _ _ _ _ _ => pts_nil) (fun _ _ _ _ _ => (pe_tup (pa_cons (pe_op (op_addK K) (pe_ix (ix_K K) (pv 3) pe_int (fun _ _ => rfl)) (pe_ix (ix_K K) (pv 4) pe_int (fun _ _ => rfl))) (pa_cons (pe_op (op_addK K) (pe_ix (ix_K K) (pv 3) pe_int (fun _ _ => rfl)) (pe_ix (ix_K K) (pv 4) pe_int (fun _ _ => rfl))) (pa_cons (pe_op (op_addK K) (pe_ix (ix_K K) (pv 3) pe_int (fun _ _ => rfl)) (pe_ix (ix_K K) (pv 4) pe_int (fun _ _ => rfl))) (pa_cons (pe_op (op_addK K) (pe_ix (ix_K K) (pv 3) pe_int (fun _ _ => rfl)) (pe_tup (pa_cons (pe_ix (ix_K K) (pv 4) pe_int (fun _ _ => rfl)) pa_nil))) pa_nil))))))) pa_nil)))))
      (pss_one (ps_ret (pv 2))))), ?_⟩
  refine ⟨by decide, fun D hD => ?_⟩
  dsimp only [gName]
  have s1 : Same H (upd H D (.lst [])) := (Fr.new (M := []) hD).same
  have lxL : xs.length = L.length := by rw [DpAll.len dx, List.length_map]
  have lyM : ys.length = M.length := by rw [DpAll.len dy, List.length_map]
  refine seq_cut (fun σ H' => ∃ v3 v4 zs, σ = [some (.ref sp), some (.ref pp), some (.ref D), v3, v4] ∧ Same H H' ∧ H' D = some (.lst zs) ∧ DpAll K H' zs ((L.flatMap fun ts => M.map fun e => ts ++ [e.2]).map (partD co s))) (fun Z hZ => ?_) ?_
  · refine ⟨_, rfl, sp, rfl, ⟨_, SqL.of (s1 _ _ hsp)⟩, ?_⟩
    refine for_it (walk_list (xs := xs)) (fun i σ H' => ∃ v3 v4 zs, σ = [some (.ref sp), some (.ref pp), some (.ref D), v3, v4] ∧ Same H H' ∧ H' D = some (.lst zs) ∧ DpAll K H' zs (((L.take i).flatMap fun ts => M.map fun e => ts ++ [e.2]).map (partD co s))) ⟨none, none, [], rfl, s1, upd_same, .nil⟩ (fun i σ H' _ ⟨_, _, _, _, s', _⟩ => SqL.of (s' _ _ hsp)) ?_ ?_
    · rintro i v _ Hb Ha hi ⟨v3, v4, zs, rfl, sa, hDa, dA⟩ ⟨rfl, hv⟩
      obtain ⟨dd, ed, dr⟩ := DpAll.get' (DpAll.tps (Tps.same sa) _ _ (flatDs_all _ _ (partD_flat co s)) dx) hv
      rw [List.getElem?_map] at ed
      cases er : L[i]? with
      | none =>
        rw [er] at ed
        cases ed
      | some ts =>
      rw [er] at ed
      obtain rfl := Option.some.inj ed
      obtain ⟨a1, sg1, tm1, ws, rfl, ha1, hsg1, htm1, dws⟩ := Dp.part dr
      obtain ⟨b1, b2⟩ := bL ts (List.mem_of_getElem? er)
      refine ⟨_, rfl, .inl ⟨rfl, _, SqL.of hDa⟩, _, rfl, pp, rfl, ⟨_, SqL.of (sa _ _ hpp)⟩, fun D2 hD2 => ?_⟩
      refine lcM (walk_list (xs := ys)) [] hD2 (fun i acc H' => DpAll K H' acc (((M.take i).map fun e => ts ++ [e.2]).map (partD co s))) .nil (fun i acc H' fr _ => SqL.of (fr.same _ _ (sa _ _ hpp))) ?_ ?_
      · rintro j v acc Hd Hc Nx hN hj fr e dc ⟨rfl, hv2⟩
        refine ⟨rfl, ?_⟩
        have sc := sa.trans fr.same
        obtain ⟨dd, ed, dr2⟩ := DpAll.get' (DpAll.tps (Tps.same sc) _ _ (flatDs_all _ _ (lbD_flat co)) dy) hv2
        rw [List.getElem?_map] at ed
        cases er2 : M[j]? with
        | none =>
          rw [er2] at ed
          cases ed
        | some en =>
        rw [er2] at ed
        obtain rfl := Option.some.inj ed
        obtain ⟨pa, psa, pt, rfl, hpa, hpsa, dpt⟩ := Dp.lb dr2
        have b3 := bM en (List.mem_of_getElem? er2)
        have ha := (Tps.same fr.same) _ _ ha1
        have hsg := (Tps.same fr.same) _ _ hsg1
        have htm := (Tps.same fr.same) _ _ htm1
        refine yes_cut ?_
        refine ⟨_, rfl, a1, _, 0, _, rfl, rfl, .inr ha, rfl, _, rfl, pa, _, 0, _, rfl, rfl, .inr hpa, rfl, .inl ⟨_, _, rfl, rfl, ?_⟩⟩
        refine ⟨_, rfl, a1, _, 1, _, rfl, rfl, .inr ha, rfl, _, rfl, pa, _, 1, _, rfl, rfl, .inr hpa, rfl, .inl ⟨_, _, rfl, rfl, ?_⟩⟩
        refine a_cut (fun v H' => ∃ q, v = .ref q ∧ Same Hc H' ∧ SqT K H' q (((s : Int) :: symsL (ts ++ [en.2])).map V.int)) (fun Z hZ => ?_) ?_
        · refine ⟨_, rfl, a1, _, 2, _, rfl, rfl, .inr ha, rfl, _, rfl, pa, _, 2, _, rfl, rfl, .inr hpa, rfl, .inr (.inr ⟨sg1, psa, _, _, rfl, rfl, hsg, hpsa, ?_, (fun e => by simp at e), (fun _ e => ?_), fun _ _ p hp => ?_⟩)⟩
          · have h1 := symsL_len ts
            have h2 := syms_len en.2
            simp only [List.length_map, List.length_cons]
            have hz : sizeLine = 16777216 := rfl
            omega
          · have h2 := syms_len en.2
            have := Tm.size_pos en.2
            have e' := congrArg List.length e
            rw [List.length_map] at e'
            simp at e'
            rw [e'] at h2
            simp at h2
            omega
          · refine hZ _ _ ⟨p, rfl, (Fr.new (M := []) hp).same, SqT.of ?_⟩
            rw [upd_same, symsL_app]
            simp [symsL]
        rintro _ Hd ⟨q, rfl, scd, hq'⟩
        refine a_cut (fun v H' => Same Hd H' ∧ Dp K H' v (.tuple (.int (s : Int) :: tmDs (ts ++ [en.2])))) (fun Z hZ => ?_) ?_
        · have had := (Tps.same scd) _ _ ha
          have hpad := (Tps.same scd) _ _ hpa
          refine ⟨_, rfl, a1, _, 3, _, rfl, rfl, .inr had, rfl, _, rfl, pa, _, 4, _, rfl, rfl, .inr hpad, rfl, by show 1 ≤ sizeLine; decide, fun t ht => ?_⟩
          have st : Same Hd (upd Hd t (.tup [pt])) := (Fr.new (M := []) ht).same
          have hts : SqT K (upd Hd t (.tup [pt])) t [pt] := SqT.of upd_same
          generalize upd Hd t (.tup [pt]) = He at st hts
          have sce := scd.trans st
          refine .inr (.inr ⟨tm1, t, _, _, rfl, rfl, (Tps.same sce) _ _ htm, hts, ?_, (fun e => by cases e), (fun _ e => by cases e), fun _ _ p hp => ?_⟩)
          · have := DpAll.len dws
            rw [tmDs_map, List.length_map] at this
            simp only [List.length_cons, List.length_nil]
            exact Nat.le_of_lt (small_line (by omega))
          · have sp := (Fr.new (M := []) (o := .tup ([.int (s : Int)] ++ ws ++ [pt])) hp).same
            have tpp := Tps.same (K := K) (Fr.new (M := []) (o := .tup (V.int (s : Int) :: ws ++ [pt])) hp).same
            refine hZ _ _ ⟨st.trans (Fr.new (M := []) hp).same, .tup (SqT.of upd_same) (.cons (.int _) ?_)⟩
            rw [tmDs_app]
            exact DpAll.app (DpAll.tps ((Tps.same (fr.same.trans sce)).trans tpp) _ _ (tmDs_flat _) dws) (.cons (Dp.tps ((Tps.same sce).trans tpp) _ _ (tmD_flat _) dpt) .nil)
        rintro v4' He ⟨sde, dv⟩
        refine ⟨by show 4 ≤ sizeLine; decide, fun p hp => ?_⟩
        dsimp only
        have ec : ((co s + KB.costs co ts : Nat) : Int) + (en.2.cost co : Int) = ((co s + KB.costs co (ts ++ [en.2]) : Nat) : Int) := by
          rw [costs_app, KB.costs, KB.costs]
          omega
        have ez : ((1 + sizes ts : Nat) : Int) + (en.2.size : Int) = ((1 + sizes (ts ++ [en.2]) : Nat) : Int) := by
          rw [sizes_app, sizes, sizes]
          omega
        rw [ec, ez]
        have sp := (Fr.new (M := []) (o := .tup [.int ((co s + KB.costs co (ts ++ [en.2]) : Nat) : Int), .int ((1 + sizes (ts ++ [en.2]) : Nat) : Int), .ref q, v4']) hp).same
        have hp' : SqT K (upd He p (.tup [.int ((co s + KB.costs co (ts ++ [en.2]) : Nat) : Int), .int ((1 + sizes (ts ++ [en.2]) : Nat) : Int), .ref q, v4'])) p [.int ((co s + KB.costs co (ts ++ [en.2]) : Nat) : Int), .int ((1 + sizes (ts ++ [en.2]) : Nat) : Int), .ref q, v4'] := SqT.of upd_same
        generalize upd He p (.tup [.int ((co s + KB.costs co (ts ++ [en.2]) : Nat) : Int), .int ((1 + sizes (ts ++ [en.2]) : Nat) : Int), .ref q, v4']) = Hf at sp hp'
        have scf := (scd.trans sde).trans sp
        have eD := scf _ _ e
        have lacc : acc.length ≤ 10000 := by
          rw [DpAll.len dc, List.length_map, List.length_map, List.length_take]
          have hL : 1 ≤ L.length := Nat.lt_of_le_of_lt (Nat.zero_le _) (List.getElem?_eq_some_iff.mp er).1
          have := Nat.mul_le_mul_right M.length hL
          omega
        have tm : Tps K Hf (upd Hf D2 (.lst (acc ++ [.ref p]))) := .mut eD trivial
        refine ⟨acc, eD, small_line (by omega), hN _ _ upd_same ((fr.trans (.of_same scf)).put (.inl hD2)) ?_⟩
        rw [take_get er2, List.map_append, List.map_append]
        refine DpAll.app (DpAll.tps ((Tps.same scf).trans tm) _ _ (flatDs_all _ _ (partD_flat co s)) dc) (.cons ?_ .nil)
        exact .tup (tm _ _ hp') (.cons (.int _) (.cons (.int _) (.cons (.tup (tm _ _ ((Tps.same (sde.trans sp)) _ _ hq')) (DpAll.ints _)) (.cons (Dp.tps ((Tps.same sp).trans tm) _ _ (by simp only [flatD, flatDs, tmDs_flat]; decide) dv) .nil))))
      · rintro acc Hc fr e dc
        rw [lyM, List.take_of_length_le (Nat.le_refl _)] at dc
        have hDc := fr.same _ _ hDa
        have sc := sa.trans fr.same
        have tm : Tps K Hc (upd Hc D (.lst (zs ++ acc))) := .mut hDc trivial
        have lz : zs.length + acc.length ≤ 20000 := by
          rw [DpAll.len dA, DpAll.len dc, List.length_map, List.length_map, List.length_map, fm_len (fun ts (e : Nat × Tm) => ts ++ [e.2]) M (L.take i), List.length_take]
          have hL : 1 ≤ L.length := Nat.lt_of_le_of_lt (Nat.zero_le _) (List.getElem?_eq_some_iff.mp er).1
          have h1 := Nat.mul_le_mul_right M.length hL
          have h2 := Nat.mul_le_mul_right M.length (Nat.min_le_right i L.length)
          omega
        refine ⟨D, D2, zs, acc, rfl, rfl, hDc, e, Nat.le_of_lt (small_line (by omega)), ?_⟩
        refine ⟨_, _, zs ++ acc, rfl, ((Fr.of_same (M := []) sc).put (.inl hD)).same, upd_same, ?_⟩
        rw [take_get er, List.flatMap_append, List.map_append]
        refine DpAll.app (DpAll.tps ((Tps.same fr.same).trans tm) _ _ (flatDs_all _ _ (partD_flat co s)) dA) ?_
        have := DpAll.tps tm _ _ (flatDs_all _ _ (partD_flat co s)) dc
        simpa using this
    · rintro _ H2 ⟨v3, v4, zs, rfl, s2, hD2, d2⟩
      rw [lxL, List.take_of_length_le (Nat.le_refl _)] at d2
      exact hZ _ _ ⟨_, _, zs, rfl, s2, hD2, d2⟩
  rintro _ H2 ⟨v3, v4, zs, rfl, s2, hD2, d2⟩
  exact ⟨_, rfl, k D zs H2 s2 hD hD2 d2⟩
end
end R59
/-! KN -/
set_option autoImplicit false
/-! the entries that a newest best makes, plain -/
namespace KB
theorem All2.snoc {α β : Type} {R : α → β → Prop} {as : List α} {bs : List β} {a : α} {b : β} (h : All2 R as bs) (r : R a b) : All2 R (as ++ [a]) (bs ++ [b]) := by
  induction h with
  | nil => exact .cons r .nil
  | cons r' _ ih => exact .cons r' ih
theorem All2.unsnoc {α β : Type} {R : α → β → Prop} : ∀ {as : List α} {bs : List β} {b : β}, All2 R as (bs ++ [b]) → ∃ as' a, as = as' ++ [a] ∧ All2 R as' bs ∧ R a b
  | _, [], b, .cons r h => by
    cases h
    exact ⟨[], _, rfl, .nil, r⟩
  | _, _ :: bs, b, .cons r h => by
    obtain ⟨as', a, rfl, h', r'⟩ := All2.unsnoc (bs := bs) h
    exact ⟨_ :: as', a, rfl, .cons r h', r'⟩
/-- the lists that take one of each of ls -/
structure Pick (ls : List (List Tm)) (L : List (List Tm)) : Prop where
  mem : ∀ ts, ts ∈ L ↔ All2 (fun t l => t ∈ l) ts ls
  nd : L.Nodup
theorem Pick.nil : Pick [] [[]] := ⟨fun ts => by
  constructor
  · intro h
    rw [List.mem_singleton.mp h]
    exact .nil
  · intro h
    cases h
    simp, by simp⟩
theorem nodup_flatMap {α β : Type} {g : α → List β} : ∀ {l : List α}, l.Nodup → (∀ a ∈ l, (g a).Nodup) → (∀ a ∈ l, ∀ b ∈ l, ∀ x, x ∈ g a → x ∈ g b → a = b) → (l.flatMap g).Nodup
  | [], _, _, _ => by simp
  | a :: l, h, h1, h2 => by
    rw [List.flatMap_cons, List.nodup_append]
    rw [List.nodup_cons] at h
    refine ⟨h1 a (by simp), nodup_flatMap h.2 (fun b hb => h1 b (by simp [hb])) (fun b hb c hc => h2 b (by simp [hb]) c (by simp [hc])), fun x hx y hy e => ?_⟩
    subst e
    obtain ⟨b, hb, hxb⟩ := List.mem_flatMap.mp hy
    have := h2 a (by simp) b (by simp [hb]) x hx hxb
    subst this
    exact h.1 hb
theorem nodup_mapI {α β : Type} {g : α → β} : ∀ {l : List α}, l.Nodup → (∀ a ∈ l, ∀ b ∈ l, g a = g b → a = b) → (l.map g).Nodup
  | [], _, _ => by simp
  | a :: l, h, i => by
    rw [List.map_cons, List.nodup_cons]
    rw [List.nodup_cons] at h
    refine ⟨fun m => ?_, nodup_mapI h.2 fun x hx y hy => i x (by simp [hx]) y (by simp [hy])⟩
    obtain ⟨y, hy, e⟩ := List.mem_map.mp m
    rw [i y (by simp [hy]) a (by simp) e] at hy
    exact h.1 hy
theorem Pick.add {ls L : List (List Tm)} (p : Pick ls L) {M : List (Nat × Tm)} (nd : (M.map (·.2)).Nodup) : Pick (ls ++ [M.map (·.2)]) (L.flatMap fun ts => M.map fun e => ts ++ [e.2]) := by
  refine ⟨fun ts => ⟨fun h => ?_, fun h => ?_⟩, nodup_flatMap p.nd (fun ts _ => ?_) (fun a _ b _ x hx hy => ?_)⟩
  · obtain ⟨us, hu, h⟩ := List.mem_flatMap.mp h
    obtain ⟨e, he, rfl⟩ := List.mem_map.mp h
    exact ((p.mem us).mp hu).snoc (List.mem_map.mpr ⟨e, he, rfl⟩)
  · obtain ⟨us, u, rfl, h1, h2⟩ := h.unsnoc
    obtain ⟨e, he, rfl⟩ := List.mem_map.mp h2
    exact List.mem_flatMap.mpr ⟨us, (p.mem us).mpr h1, List.mem_map.mpr ⟨e, he, rfl⟩⟩
  · have : (M.map fun e => ts ++ [e.2]) = (M.map (·.2)).map fun t => ts ++ [t] := by
      rw [List.map_map]
      rfl
    rw [this]
    exact nodup_mapI nd fun a _ b _ e => by simpa using e
  · obtain ⟨e, _, rfl⟩ := List.mem_map.mp hx
    obtain ⟨e', _, q⟩ := List.mem_map.mp hy
    exact (List.append_inj q.symm (by
      have := congrArg List.length q
      simp at this
      omega)).1
theorem All2.get1 {α β : Type} {R : α → β → Prop} : ∀ {as : List α} {bs : List β}, All2 R as bs → ∀ {k : Nat} {b : β}, bs[k]? = some b → ∃ a, as[k]? = some a ∧ R a b
  | _, _, .nil, k, b, h => by simp at h
  | _, _, .cons r h, 0, b, e => by
    cases e
    exact ⟨_, rfl, r⟩
  | _, _, .cons r h, k + 1, b, e => by
    obtain ⟨a, h1, h2⟩ := All2.get1 h (k := k) (b := b) (by simpa using e)
    exact ⟨a, by simpa using h1, h2⟩
section
variable (f : Fnd) (c : Nat) (u : Tm)
/-- what a row may take at a place, if the newest one stands first at place p -/
def slot (p a i : Nat) : List Tm := if a = p then [u] else if a < p ∧ i = c then f c else addF f c u i
def slots (p : Nat) (is : List Nat) : List (List Tm) := is.mapIdx fun a i => slot f c u p a i
structure PickP (is : List Nat) (p : Nat) (E : List (List Tm)) : Prop where
  mem : ∀ ts, ts ∈ E ↔ Kids (addF f c u) ts is ∧ ∃ k, k < p ∧ is[k]? = some c ∧ ts[k]? = some u
  nd : E.Nodup
end
section
variable {f : Fnd} {c : Nat} {u : Tm}
theorem slots_get {p : Nat} {is : List Nat} {k : Nat} : (slots f c u p is)[k]? = is[k]?.map fun i => slot f c u p k i := by
  unfold slots
  rw [List.getElem?_mapIdx]
theorem slots_len {p : Nat} {is : List Nat} : (slots f c u p is).length = is.length := by
  unfold slots
  rw [List.length_mapIdx]
theorem PickP.zero (is : List Nat) : PickP f c u is 0 [] := ⟨fun ts => Iff.intro (fun h => by cases h) (fun h => by
  obtain ⟨_, k, h, _⟩ := h
  omega), List.nodup_nil⟩
theorem PickP.skip {is : List Nat} {p : Nat} {E : List (List Tm)} (P : PickP f c u is p E) (h : is[p]? ≠ some c) : PickP f c u is (p + 1) E := ⟨fun ts => by
  rw [P.mem ts]
  refine ⟨fun ⟨h1, k, h2, h3⟩ => ⟨h1, k, by omega, h3⟩, fun ⟨h1, k, h2, h3, h4⟩ => ⟨h1, k, ?_, h3, h4⟩⟩
  rcases Nat.lt_or_ge k p with q | q
  · exact q
  · have : k = p := by omega
    subst this
    exact absurd h3 h, P.nd⟩
theorem slot_sub {p a i : Nat} {t : Tm} (hp : a = p → i = c) (h : t ∈ slot f c u p a i) : t ∈ addF f c u i := by
  unfold slot at h
  split at h
  · next e =>
    rw [hp e, List.mem_singleton.mp h]
    exact mem_addF.mpr (.inr ⟨rfl, rfl⟩)
  · split at h
    · next _ e =>
      rw [e.2]
      exact mem_addF.mpr (.inl h)
    · exact h
theorem PickP.step (un : u ∉ f c) {is : List Nat} {p : Nat} {E L : List (List Tm)} (P : PickP f c u is p E) (h : is[p]? = some c) (Q : Pick (slots f c u p is) L) : PickP f c u is (p + 1) (E ++ L) := by
  have inL : ∀ {ts}, ts ∈ L → ts.length = is.length ∧ ∀ (k i : Nat) (t : Tm), is[k]? = some i → ts[k]? = some t → t ∈ slot f c u p k i := fun {ts} ht => by
    have h2 := (Q.mem ts).mp ht
    refine ⟨by rw [h2.len, slots_len], fun k i t hi hk => ?_⟩
    exact h2.get k t _ hk (by rw [slots_get, hi]; rfl)
  refine ⟨fun ts => ⟨fun ht => ?_, fun ⟨h1, k, h2, h3, h4⟩ => ?_⟩, List.nodup_append.mpr ⟨P.nd, Q.nd, fun a ha b hb e => ?_⟩⟩
  · rcases List.mem_append.mp ht with ht | ht
    · obtain ⟨h1, k, h2, h3⟩ := (P.mem ts).mp ht
      exact ⟨h1, k, by omega, h3⟩
    · obtain ⟨l, g⟩ := inL ht
      refine ⟨All2.of_get l fun k t i hk hi => slot_sub (fun e => ?_) (g k i t hi hk), p, Nat.lt_succ_self p, h, ?_⟩
      · subst e
        rw [h] at hi
        exact (Option.some.inj hi).symm
      · have hp := (List.getElem?_eq_some_iff.mp h).1
        have e : ts[p]? = some (ts[p]'(by omega)) := List.getElem?_eq_getElem _
        have := g p c _ h e
        unfold slot at this
        rw [if_pos rfl] at this
        rw [e, List.mem_singleton.mp this]
  · by_cases q : ∃ k, k < p ∧ is[k]? = some c ∧ ts[k]? = some u
    · exact List.mem_append_left _ ((P.mem ts).mpr ⟨h1, q⟩)
    · have : k = p := by
        rcases Nat.lt_or_ge k p with z | z
        · exact absurd ⟨k, z, h3, h4⟩ q
        · omega
      subst this
      refine List.mem_append_right _ ((Q.mem ts).mpr (All2.of_get (by rw [slots_len]; exact h1.len) fun a t l ha hl => ?_))
      rw [slots_get] at hl
      cases hi : is[a]? with
      | none =>
        rw [hi] at hl
        cases hl
      | some i =>
      rw [hi] at hl
      obtain rfl := Option.some.inj hl
      have hm := h1.get a t i ha hi
      show t ∈ slot f c u k a i
      unfold slot
      by_cases e : a = k
      · subst e
        rw [if_pos rfl]
        rw [h4] at ha
        exact List.mem_singleton.mpr (Option.some.inj ha).symm
      · rw [if_neg e]
        by_cases e2 : a < k ∧ i = c
        · rw [if_pos e2]
          obtain ⟨e3, e4⟩ := e2
          subst e4
          rcases mem_addF.mp hm with z | ⟨_, z⟩
          · exact z
          · subst z
            exact absurd ⟨a, e3, hi, ha⟩ q
        · rw [if_neg e2]
          exact hm
  · subst e
    obtain ⟨_, k, hk, h3, h4⟩ := (P.mem a).mp ha
    obtain ⟨l, g⟩ := inL hb
    have := g k c u h3 h4
    unfold slot at this
    rw [if_neg (by omega), if_pos ⟨hk, rfl⟩] at this
    exact un this
end
/-- the new entries of the rows S -/
structure NewL (S : List Row) (f : Fnd) (c : Nat) (u : Tm) (m : Nat) (E : List (Nat × Tm)) : Prop where
  new : ∀ e ∈ E, IsNew S f c u e
  all : ∀ (d s : Nat) (is : List Nat) (ts : List Tm), (⟨s, is, d⟩ : Row) ∈ S → Kids (addF f c u) ts is → (∃ k : Nat, is[k]? = some c ∧ ts[k]? = some u) → (addF f c u d).length < m → (d, Tm.node s ts) ∈ E
  nd : E.Nodup
theorem NewL.nil (f : Fnd) (c : Nat) (u : Tm) (m : Nat) : NewL [] f c u m [] := ⟨(fun e h => by cases h), (fun d s is ts h => by cases h), List.nodup_nil⟩
theorem NewL.skip {S : List Row} {f : Fnd} {c : Nat} {u : Tm} {m : Nat} {E : List (Nat × Tm)} (N : NewL S f c u m E) {r : Row} (h : c ∉ r.is ∨ m ≤ (addF f c u r.c).length) : NewL (S ++ [r]) f c u m E := by
  refine ⟨fun e he => ?_, fun d s is ts hr hk hex hl => ?_, N.nd⟩
  · obtain ⟨s, ts, is, h1, h2, h3⟩ := N.new e he
    exact ⟨s, ts, is, h1, List.mem_append_left _ h2, h3⟩
  · rcases List.mem_append.mp hr with hr | hr
    · exact N.all d s is ts hr hk hex hl
    · have := List.mem_singleton.mp hr
      subst this
      rcases h with h | h
      · obtain ⟨k, h1, _⟩ := hex
        exact absurd (List.mem_of_getElem? h1) h
      · exact absurd hl (by show ¬ _ < m; exact Nat.not_lt.mpr h)
theorem NewL.add {S T : List Row} {f : Fnd} {c : Nat} {u : Tm} {m : Nat} {E : List (Nat × Tm)} (N : NewL S f c u m E) (U : Uniq T) (fm : ∀ d t, t ∈ addF f c u d → Mem T t d) {r : Row} (hS : ∀ r ∈ S, r ∈ T) (hr : r ∈ T) (hn : r ∉ S) {L : List (List Tm)} (P : PickP f c u r.is r.is.length L) :
    NewL (S ++ [r]) f c u m (E ++ L.map fun ts => (r.c, Tm.node r.s ts)) := by
  refine ⟨fun e he => ?_, fun d s is ts hr' hk hex hl => ?_, List.nodup_append.mpr ⟨N.nd, nodup_mapI P.nd (fun a _ b _ e => ?_), fun a ha b hb e => ?_⟩⟩
  · rcases List.mem_append.mp he with he | he
    · obtain ⟨s, ts, is, h1, h2, h3⟩ := N.new e he
      exact ⟨s, ts, is, h1, List.mem_append_left _ h2, h3⟩
    · obtain ⟨ts, ht, rfl⟩ := List.mem_map.mp he
      obtain ⟨h1, k, h2, h3, h4⟩ := (P.mem ts).mp ht
      exact ⟨r.s, ts, r.is, rfl, List.mem_append_right _ (List.mem_singleton.mpr rfl), h1, k, h3, h4⟩
  · rcases List.mem_append.mp hr' with hr' | hr'
    · exact List.mem_append_left _ (N.all d s is ts hr' hk hex hl)
    · have := List.mem_singleton.mp hr'
      subst this
      obtain ⟨k, h1, h2⟩ := hex
      exact List.mem_append_right _ (List.mem_map.mpr ⟨ts, (P.mem ts).mpr ⟨hk, k, (List.getElem?_eq_some_iff.mp h1).1, h1, h2⟩, rfl⟩)
  · have := congrArg Prod.snd e
    simpa using this
  · subst e
    obtain ⟨ts, ht, e2⟩ := List.mem_map.mp hb
    obtain ⟨h1, _⟩ := (P.mem ts).mp ht
    obtain ⟨s, ts', is, e1, h2, h3, _⟩ := N.new a ha
    subst e2
    injection e1 with e3 e4
    subst e4
    have k1 := Kids.mem fm h1
    have k2 := Kids.mem fm h3
    have e5 := MemL.one U _ _ _ k1 k2
    have := U _ hr _ (hS _ h2) e3 e5
    rw [this] at hn
    exact hn h2
end KB
/-! KU -/
set_option autoImplicit false
/-! how many entries there can be, plain -/
namespace KB
def univ (T : List Row) (f : Fnd) : List (Nat × Tm) := T.flatMap fun r => (prodL (r.is.map f)).map fun ts => (r.c, Tm.node r.s ts)
def wid (m : Nat) (T : List Row) : Nat := (T.map fun r => m ^ r.is.length).sum
theorem prods_pow {f : Fnd} {m : Nat} (h : ∀ c, (f c).length ≤ m) : ∀ is : List Nat, prods ((is.map f).map List.length) ≤ m ^ is.length
  | [] => Nat.le_refl _
  | i :: is => by
    rw [List.map_cons, List.map_cons, prods, List.length_cons, Nat.pow_succ, Nat.mul_comm]
    exact Nat.mul_le_mul (prods_pow h is) (h i)
theorem univ_len {f : Fnd} {m : Nat} (h : ∀ c, (f c).length ≤ m) : ∀ T : List Row, (univ T f).length ≤ wid m T
  | [] => Nat.le_refl _
  | r :: T => by
    have h1 := univ_len h T
    have h2 := prods_pow h r.is
    unfold univ wid at *
    rw [List.flatMap_cons, List.length_append, List.length_map, prodL_len, List.map_cons, List.sum_cons]
    omega
theorem mem_univ {T : List Row} {f : Fnd} {s d : Nat} {is : List Nat} {ts : List Tm} (hr : (⟨s, is, d⟩ : Row) ∈ T) (hk : Kids f ts is) : (d, Tm.node s ts) ∈ univ T f := by
  refine List.mem_flatMap.mpr ⟨_, hr, List.mem_map.mpr ⟨ts, mem_prodL.mpr ?_, rfl⟩⟩
  clear hr
  induction hk with
  | nil => exact .nil
  | cons h _ ih => exact .cons h ih
theorem NewL.len {S T : List Row} {f : Fnd} {c : Nat} {u : Tm} {m : Nat} {E : List (Nat × Tm)} (N : NewL S f c u m E) (hS : ∀ r ∈ S, r ∈ T) {M : Nat} (h : ∀ d, (addF f c u d).length ≤ M) : E.length ≤ wid M T := by
  refine Nat.le_trans (sub_len N.nd fun e he => ?_) (univ_len h T)
  obtain ⟨s, ts, is, h1, h2, h3, _⟩ := N.new e he
  obtain ⟨d, t⟩ := e
  dsimp only at *
  subst h1
  exact mem_univ (hS _ h2) h3
theorem Good.flen {T : List Row} {big : Nat → Prop} {co : Nat → Nat} {m : Nat} {f : Fnd} {fr : List (Nat × Tm)} (G : Good T big co m f fr) : fr.length ≤ wid m T := by
  refine Nat.le_trans (sub_len G.fnd fun e he => ?_) (univ_len G.len T)
  obtain ⟨d, t⟩ := e
  obtain ⟨s, ts⟩ := t
  obtain ⟨is, h1, h2⟩ := G.fkid d s ts he
  exact mem_univ h1 h2
theorem All2.map_right {α β γ : Type} {R : α → γ → Prop} {g : β → γ} : ∀ {as : List α} {bs : List β}, All2 R as (bs.map g) → All2 (fun a b => R a (g b)) as bs
  | _, [], h => by cases h; exact .nil
  | _, b :: bs, h => by
    cases h with
    | cons r h => exact .cons r (All2.map_right h)
theorem Pick.len {ls L : List (List Tm)} (P : Pick ls L) : L.length ≤ prods (ls.map List.length) := by
  have := sub_len (l := L) (m := prodL ls) P.nd fun ts hts => mem_prodL.mpr ((P.mem ts).mp hts)
  rwa [prodL_len] at this
theorem prods_le {k : Nat} : ∀ {ns : List Nat}, (∀ n ∈ ns, n ≤ k) → prods ns ≤ k ^ ns.length
  | [], _ => Nat.le_refl _
  | n :: ns, h => by
    rw [prods, List.length_cons, Nat.pow_succ, Nat.mul_comm]
    exact Nat.mul_le_mul (prods_le fun x hx => h x (by simp [hx])) (h n (by simp))
theorem PickP.len {f : Fnd} {c : Nat} {u : Tm} {is : List Nat} {p : Nat} {L : List (List Tm)} (P : PickP f c u is p L) {m : Nat} (h : ∀ d, (addF f c u d).length ≤ m) : L.length ≤ m ^ is.length := by
  have := sub_len (l := L) (m := prodL (is.map (addF f c u))) P.nd fun ts hts => by
    refine mem_prodL.mpr ?_
    have hk := ((P.mem ts).mp hts).1
    clear hts P
    induction hk with
    | nil => exact .nil
    | cons h _ ih => exact .cons h ih
  rw [prodL_len] at this
  exact Nat.le_trans this (prods_pow h is)
theorem addF_nodup {f : Fnd} {c : Nat} {u : Tm} (h : ∀ d, (f d).Nodup) (un : u ∉ f c) (d : Nat) : (addF f c u d).Nodup := by
  by_cases e : d = c
  · subst e
    rw [addF_same]
    exact List.nodup_append.mpr ⟨h d, by simp, fun a ha b hb q => by
      rw [List.mem_singleton.mp hb] at q
      subst q
      exact un ha⟩
  · rw [addF_ne f u e]
    exact h d
theorem slot_nodup {f : Fnd} {c : Nat} {u : Tm} (h : ∀ d, (f d).Nodup) (un : u ∉ f c) (p a i : Nat) : (slot f c u p a i).Nodup := by
  unfold slot
  split
  · simp
  · split
    · exact h c
    · exact addF_nodup h un i
theorem slot_len {f : Fnd} {c : Nat} {u : Tm} {m : Nat} (h : ∀ d, (addF f c u d).length ≤ m) (p a i : Nat) : (slot f c u p a i).length ≤ m := by
  have h1 := h c
  rw [addF_same, List.length_append, List.length_singleton] at h1
  unfold slot
  split
  · rw [List.length_singleton]
    omega
  · split
    · omega
    · exact h i
theorem slots_take {f : Fnd} {c : Nat} {u : Tm} {p q i : Nat} {is : List Nat} (h : is[q]? = some i) : (slots f c u p is).take (q + 1) = (slots f c u p is).take q ++ [slot f c u p q i] := by
  have hl := (List.getElem?_eq_some_iff.mp h).1
  have e : (slots f c u p is)[q]? = some (slot f c u p q i) := by rw [slots_get, h]; rfl
  rw [List.take_add_one, e]
  rfl
end KB
/-! W15 -/
set_option maxHeartbeats 1000000
namespace R59
open PySem PyProof.Rows L2 KB PySem.W
/-- a list or a tuple -/
def SqA (K : PySem.W.Frag) (H : Hp) (a : Addr) (xs : List V) : Prop := SqL K H a xs ∨ SqT K H a xs
theorem SqA.same {K : PySem.W.Frag} {H H' : Hp} {a : Addr} {xs : List V} (h : SqA K H a xs) (s : Same H H') : SqA K H' a xs := h.elim (fun q => .inl (s.seq q)) fun q => .inr ((Tps.same s) _ _ q)
/-- the lists of what is found, class by class -/
structure FndH (K : PySem.W.Frag) (H : Hp) (fp : Addr) (ls : List Addr) (f : Fnd) (n : Nat) (co : Nat → Nat) : Prop where
  hp : H fp = some (.lst (ls.map V.ref))
  len : ls.length = n
  at_ : ∀ (i : Nat) a, ls[i]? = some a → ∃ ys, H a = some (.lst ys) ∧ DpAll K H ys ((f i).map fun t => lbD co (i, t))
theorem FndH.same {K : PySem.W.Frag} {H H' : Hp} {fp : Addr} {ls : List Addr} {f : Fnd} {n : Nat} {co : Nat → Nat} (h : FndH K H fp ls f n co) (s : Same H H') : FndH K H' fp ls f n co := ⟨s _ _ h.hp, h.len, fun i a e => by
  obtain ⟨ys, h1, h2⟩ := h.at_ i a e
  exact ⟨ys, s _ _ h1, DpAll.tps (Tps.same s) _ _ (flatDs_all _ _ fun t => lbD_flat co (i, t)) h2⟩⟩
theorem FndH.get {K : PySem.W.Frag} {H : Hp} {fp : Addr} {ls : List Addr} {f : Fnd} {n : Nat} {co : Nat → Nat} (h : FndH K H fp ls f n co) {i : Nat} (hi : i < n) : ∃ a ys, atI (ls.map V.ref) (i : Nat) = some (.ref a) ∧ H a = some (.lst ys) ∧ DpAll K H ys ((f i).map fun t => lbD co (i, t)) := by
  have e : ls[i]? = some (ls[i]'(by rw [h.len]; exact hi)) := List.getElem?_eq_getElem _
  obtain ⟨ys, h1, h2⟩ := h.at_ i _ e
  exact ⟨_, ys, atI_nat (by rw [List.getElem?_map, e]; rfl), h1, h2⟩
theorem any_nat (is : List Nat) (c : Nat) : ((is.map fun i : Nat => PyData.int (i : Int)).any fun z => PyData.eqv z (.int (c : Int))) = decide (c ∈ is) := by
  induction is with
  | nil => rfl
  | cons i is ih =>
    rw [List.map_cons, List.any_cons, ih, PyData.eqv]
    by_cases h : i = c
    · subst h
      simp
    · have h1 : ¬ (i : Int) = (c : Int) := by omega
      have h2 : ¬ c = i := fun e => h e.symm
      simp [h1, h2]
theorem get_natI {is : List Nat} {k : Nat} {y : V} (h : (is.map fun i : Nat => V.int (i : Int))[k]? = some y) : ∃ i : Nat, is[k]? = some i ∧ y = .int (i : Nat) := by
  rw [List.getElem?_map] at h
  obtain ⟨i, h1, h2⟩ := Option.map_eq_some_iff.mp h
  exact ⟨i, h1, h2.symm⟩
theorem cutV_m1 (xs : List V) : cutV xs none (some (-1)) = xs.dropLast := by
  unfold cutV
  rw [HT.sIx_none, List.drop_zero, Nat.sub_zero, List.dropLast_eq_take]
  congr 1
  show (if (-1 : Int) < 0 then ((-1 : Int) + (xs.length : Int)).toNat else min (-1 : Int).toNat xs.length) = xs.length - 1
  rw [if_pos (by decide)]
  omega
theorem DpAll.dropLast {K : PySem.W.Frag} {H : Hp} : ∀ {vs : List V} {ds : List PyData}, DpAll K H vs ds → DpAll K H vs.dropLast ds.dropLast
  | _, _, .nil => .nil
  | _, _, .cons _ .nil => .nil
  | _, _, .cons a (.cons b h) => by
    rw [List.dropLast_cons₂, List.dropLast_cons₂]
    exact .cons a (DpAll.dropLast (.cons b h))
theorem partD_nil (co : Nat → Nat) (s : Nat) : partD co s [] = .tuple [.int (co s : Nat), .int 1, .tuple [.int (s : Nat)], .tuple [.int (s : Nat)]] := by
  unfold partD
  rw [KB.costs, sizes, symsL, tmDs]
  rfl
theorem part0_made {K : PySem.W.Frag} {co : Nat → Nat} {s : Nat} {H0 : Hp} {t1 t2 t3 l : Addr} (h1 : H0 t1 = none) (h2 : upd H0 t1 (.tup [.int (s : Nat)]) t2 = none) (h3 : upd (upd H0 t1 (.tup [.int (s : Nat)])) t2 (.tup [.int (s : Nat)]) t3 = none)
    (h4 : upd (upd (upd H0 t1 (.tup [.int (s : Nat)])) t2 (.tup [.int (s : Nat)])) t3 (.tup [.int (co s : Nat), .int 1, .ref t1, .ref t2]) l = none) :
    Same H0 (upd (upd (upd (upd H0 t1 (.tup [.int (s : Nat)])) t2 (.tup [.int (s : Nat)])) t3 (.tup [.int (co s : Nat), .int 1, .ref t1, .ref t2])) l (.lst [.ref t3])) ∧
    upd (upd (upd (upd H0 t1 (.tup [.int (s : Nat)])) t2 (.tup [.int (s : Nat)])) t3 (.tup [.int (co s : Nat), .int 1, .ref t1, .ref t2])) l (.lst [.ref t3]) l = some (.lst [.ref t3]) ∧
    DpAll K (upd (upd (upd (upd H0 t1 (.tup [.int (s : Nat)])) t2 (.tup [.int (s : Nat)])) t3 (.tup [.int (co s : Nat), .int 1, .ref t1, .ref t2])) l (.lst [.ref t3])) [.ref t3] ([[]].map (partD co s)) := by
  have s1 : Same H0 (upd H0 t1 (.tup [.int (s : Nat)])) := (Fr.new (M := []) h1).same
  have e1 : SqT K (upd H0 t1 (.tup [.int (s : Nat)])) t1 [.int (s : Nat)] := SqT.of upd_same
  generalize upd H0 t1 (.tup [.int (s : Nat)]) = H1 at *
  have s2 : Same H1 (upd H1 t2 (.tup [.int (s : Nat)])) := (Fr.new (M := []) h2).same
  have e2 : SqT K (upd H1 t2 (.tup [.int (s : Nat)])) t2 [.int (s : Nat)] := SqT.of upd_same
  generalize upd H1 t2 (.tup [.int (s : Nat)]) = H2 at *
  have s3 : Same H2 (upd H2 t3 (.tup [.int (co s : Nat), .int 1, .ref t1, .ref t2])) := (Fr.new (M := []) h3).same
  have e3 : SqT K (upd H2 t3 (.tup [.int (co s : Nat), .int 1, .ref t1, .ref t2])) t3 [.int (co s : Nat), .int 1, .ref t1, .ref t2] := SqT.of upd_same
  generalize upd H2 t3 (.tup [.int (co s : Nat), .int 1, .ref t1, .ref t2]) = H3 at *
  have s4 : Same H3 (upd H3 l (.lst [.ref t3])) := (Fr.new (M := []) h4).same
  refine ⟨((s1.trans s2).trans s3).trans s4, upd_same, ?_⟩
  generalize upd H3 l (.lst [.ref t3]) = H4 at *
  rw [List.map_singleton, partD_nil]
  exact .cons (.tup ((Tps.same s4) _ _ e3) (.cons (.int _) (.cons (.int _) (.cons (.tup ((Tps.same ((s2.trans s3).trans s4)) _ _ e1) (.cons (.int _) .nil)) (.cons (.tup ((Tps.same (s3.trans s4)) _ _ e2) (.cons (.int _) .nil)) .nil))))) .nil
section
variable {P : Program} {w : World} {K : PySem.W.Frag} {mg : Str → Option Value} {base : Heap} {f : Addr} {fd : FuncData}
/-! ### _law_new -/
abbrev s_law_new : Stmt := top 36
abbrev N_law_new : List Str := ["table", "costs", "found", "best", "most", "c", "new", "symbol", "inner", "made", "place", "here", "some", "at", "one", "parts"]
theorem sc_law_new : FnScope N_law_new ["table", "costs", "found", "best", "most"] (defScope s_law_new) := ⟨rfl, rfl, rfl, by decide +kernel, rfl, by decide +kernel, by decide +kernel⟩
/-- the costs that a tuple tells -/
def CoOk (cs : List Int) (co : Nat → Nat) (T : List Row) : Prop := ∀ r ∈ T, cs[r.s]? = some ((co r.s : Nat) : Int)
def spNew (K : PySem.W.Frag) : Sp := fun vs H Q _ => ∃ (ta ca fp : Addr) (bv : V) (m : Nat) (T : List Row) (n : Nat) (ar : Nat → Nat) (cs : List Int) (co : Nat → Nat) (ls : List Addr) (g : Fnd) (c : Nat) (u : Tm),
  vs = [.ref ta, .ref ca, .ref fp, bv, .int (m : Nat)] ∧ Dp K H (.ref ta) (tabD T) ∧ TabG ar T n ∧ SqA K H ca (cs.map V.int) ∧ CoOk cs co T ∧ FndH K H fp ls (addF g c u) n co ∧ Dp K H bv (lbD co (c, u)) ∧
  m ≤ 20 ∧ c < n ∧ u ∉ g c ∧ (∀ d, (g d).Nodup) ∧ (∀ d, (addF g c u d).length ≤ m) ∧ (∀ d t, t ∈ addF g c u d → Mem T t d ∧ t.size ≤ 600000) ∧ wid m T ≤ 5000 ∧
  ∀ (p : Addr) (zs : List V) (E : List (Nat × Tm)) (H' : Hp), Same H H' → H p = none → H' p = some (.lst zs) → DpAll K H' zs (E.map (lbD co)) → NewL T g c u m E → Q (.ref p) H'
theorem ok_new (F : FnP K "_law_new" "_law_new" s_law_new f fd) (T : Nm mg) (h_law_joined : Has P w K mg base CX0 "_law_joined" ["some", "parts"] 1 (spJoined K)) : FnOk P w K mg base CX0 2 f fd ["table", "costs", "found", "best", "most"] (spNew K) := by
  refine F.ok sc_law_new (fun vs H Q E h => ?_) (fun cdv A outer s H vs Q E hr h => ?_)
  · obtain ⟨ta, ca, fp, bv, m, T, n, ar, cs, co, ls, g, c, u, rfl, _⟩ := h
    rfl
  obtain ⟨ta, ca, fp, bv, m, Tb, n, ar, cs, co, ls, g, c, u, rfl, dt, G, hca, hco, FH, dbv, hm, hcn, un, gnd, gl, gm, hw, k⟩ := h
  have hq := hq_of hr
  have hu := hu_of hr
  refine ⟨_, PSs.nox
  (pss_cons (ps_par (i := 5) (j := 6) rfl sc_law_new.nd rfl rfl (by decide) rfl rfl (pa_cons (pe_ix (ix_K K) (pv 3) pe_int (fun _ _ => rfl)) (pa_cons (pe_lst pa_nil) pa_nil)) rfl)
      (pss_cons (ps_for PassesOwn.never rfl (pi_tupK K (pv 0)) (pg_tupK (n := 3) K rfl (pgs_cons (pg_name (i := 7) sc_law_new.nd rfl (Or.inl rfl)) (pgs_cons (pg_name (i := 8) sc_law_new.nd rfl (Or.inl rfl)) (pgs_cons (pg_name (i := 9) sc_law_new.nd rfl (Or.inr rfl)) pgs_nil)))) (pss_one (ps_if (PW.pt (pw_and (pt_cmpR (op_inK K hq) (pv 5) (pv 8) (by rfl)) (pw_and1 (pt_cmpR (op_ltK K hq) (pe_callB (cr_lenK K) (by rfl) T.len bt_len (pa_cons (pe_ix (ix_K K) (pv 2) (pv 9) (fun _ _ => rfl)) pa_nil)) (pv 4) (nomark _))))) (pss_one (ps_for PassesOwn.never rfl (pi_enumT (by rfl) T.enumerate (pa_cons (pv 8) pa_nil)) (pg_tupK (n := 2) K rfl (pgs_cons (pg_name (i := 10) sc_law_new.nd rfl (Or.inl rfl)) (pgs_cons (pg_name (i := 11) sc_law_new.nd rfl (Or.inl rfl)) pgs_nil))) (pss_one (ps_if (pt_cmpR (op_eqK K hq) (pv 11) (pv 5) (nomark _)) (pss_cons (ps_set (i := 12) sc_law_new.nd rfl (Or.inl rfl) (pe_lst (pa_cons (pe_tup (pa_cons (pe_ix (ix_K K) (pv 1) (pv 7) (fun _ _ => rfl)) (pa_cons pe_int (pa_cons (pe_tup (pa_cons (pv 7) pa_nil)) (pa_cons (pe_tup (pa_cons (pv 7) pa_nil)) pa_nil))))) pa_nil)))
      (pss_cons (ps_for PassesOwn.never rfl (pi_enumT (by rfl) T.enumerate (pa_cons (pv 8) pa_nil)) (pg_tupK (n := 2) K rfl (pgs_cons (pg_name (i := 13) sc_law_new.nd rfl (Or.inl rfl)) (pgs_cons (pg_name (i := 14) sc_law_new.nd rfl (Or.inl rfl)) pgs_nil))) (pss_cons (ps_set (i := 15) sc_law_new.nd rfl (Or.inl rfl) (pe_ifExp (PW.pt (pw_and (pt_cmpR (op_ltK K hq) (pv 13) (pv 10) (nomark _)) (pw_and1 (pt_cmpR (op_eqK K hq) (pv 14) (pv 5) (nomark _))))) (pe_slice (sl_listK K) (pe_ix (ix_K K) (pv 2) (pv 14) (fun _ _ => rfl)) po_none (po_some (pe_un un_neg pe_int))) (pe_ix (ix_K K) (pv 2) (pv 14) (fun _ _ => rfl))))
      (pss_one (ps_set (i := 12) sc_law_new.nd rfl (Or.inl rfl) (pe_f h_law_joined (hr.mono (by decide)) (by rfl) (pa_cons (pv 12) (pa_cons (pe_ifExp (pt_cmpR (op_eqK K hq) (pv 13) (pv 10) (nomark _)) (pe_lst (pa_cons (pv 3) pa_nil)) (pv 15)) pa_nil)))))))
      (pss_one (ps_expr (pe_bm PySem.F.plainAttrs_list PySem.F.slot_list_extend PySem.F.type_list_extend mt_extend (pv 6) (pa_cons (pe_lc (own := [("one", 14)]) rfl sc_law_new.nd (pi_listK K (pv 12)) (blkOk_by (N := N_law_new) (sc := defScope s_law_new) (by decide +kernel)) (fun _ _ _ _ _ => (pg_name (i := 14) sc_law_new.nd rfl (Or.inl rfl))) (fun _ _ _ _ _ => pts_nil) (fun _ _ _ _ _ => (pe_tup (pa_cons (pe_ix (ix_K K) (pv 14) pe_int (fun _ _ => rfl)) (pa_cons (pe_ix (ix_K K) (pv 14) pe_int (fun _ _ => rfl)) (pa_cons (pe_ix (ix_K K) (pv 14) pe_int (fun _ _ => rfl)) (pa_cons (pv 9) (pa_cons (pe_ix (ix_K K) (pv 14) pe_int (fun _ _ => rfl)) pa_nil)))))))) pa_nil)))))) pss_nil)))) pss_nil)))
      (pss_one (ps_ret (pv 6))))), ?_⟩
  obtain ⟨bp, bsa, bt, rfl, hbp, hbsa, dbt⟩ := Dp.lb dbv
  obtain ⟨a', xs, ea, hta, dx⟩ := Dp.tupOf dt
  cases ea
  have lxT : xs.length = Tb.length := by rw [DpAll.len dx, List.length_map]
  -- c, new = (best[3], [])
  refine ⟨_, rfl, bp, _, 3, _, rfl, rfl, .inr hbp, rfl, by decide, fun D hD => ⟨_, _, rfl, ?_⟩⟩
  dsimp only
  have s1 : Same H (upd H D (.lst [])) := (Fr.new (M := []) hD).same
  have Dne : ∀ {a : Addr} {o : HO}, H a = some o → a ≠ D := fun h e => by
    rw [e, hD] at h
    cases h
  refine seq_cut (fun σ H' => ∃ (zs : List V) (E : List (Nat × Tm)) (v7 v8 v9 v10 v11 v12 v13 v14 v15 : Option V), σ = [some (.ref ta), some (.ref ca), some (.ref fp), some (.ref bp), some (.int (m : Nat)), some (.int (c : Nat)), some (.ref D), v7, v8, v9, v10, v11, v12, v13, v14, v15] ∧ Same H H' ∧ H' D = some (.lst zs) ∧ DpAll K H' zs (E.map (lbD co)) ∧ NewL Tb g c u m E) (fun Z hZ => ?_) ?_
  · refine ⟨_, rfl, ta, rfl, ⟨_, (Tps.same s1) _ _ hta⟩, ?_⟩
    refine for_it (walk_tup (xs := xs)) (fun i σ H' => ∃ (zs : List V) (E : List (Nat × Tm)) (v7 v8 v9 v10 v11 v12 v13 v14 v15 : Option V), σ = [some (.ref ta), some (.ref ca), some (.ref fp), some (.ref bp), some (.int (m : Nat)), some (.int (c : Nat)), some (.ref D), v7, v8, v9, v10, v11, v12, v13, v14, v15] ∧ Same H H' ∧ H' D = some (.lst zs) ∧ DpAll K H' zs (E.map (lbD co)) ∧ NewL (Tb.take i) g c u m E)
      ⟨[], [], _, _, _, _, _, _, _, _, _, rfl, s1, upd_same, .nil, NewL.nil _ _ _ _⟩ (fun i σ H' _ h => ?_) ?_ ?_
    · obtain ⟨_, _, _, _, _, _, _, _, _, _, _, _, s', _⟩ := h
      exact (Tps.same s') _ _ hta
    · rintro i v _ Hb Ha hi ⟨zs, E, v7, v8, v9, v10, v11, v12, v13, v14, v15, rfl, sa, hDa, dE, N⟩ ⟨rfl, hv⟩
      obtain ⟨dd, ed, dr⟩ := DpAll.get' dx hv
      rw [List.getElem?_map] at ed
      cases er : Tb[i]? with
      | none =>
        rw [er] at ed
        cases ed
      | some r =>
      rw [er] at ed
      obtain rfl := Option.some.inj ed
      have hrT := List.mem_of_getElem? er
      obtain ⟨ra, ia, rfl, hra, hia⟩ := Dp.row dr
      refine ⟨ra, _, rfl, (Tps.same sa) _ _ hra, rfl, _, _, rfl, _, _, rfl, _, _, rfl, rfl, ?_⟩
      dsimp only [gName]
      have ilen : r.is.length ≤ 3 := by
        rw [G.a3 r hrT]
        exact G.ar3 _
      have hkeep : ∀ (v9 v10 v11 v12 v13 v14 v15 : Option V) (H' : Hp), Same Ha H' → (c ∉ r.is ∨ m ≤ (addF g c u r.c).length) → ∃ (zs : List V) (E : List (Nat × Tm)) (v7 v8 v9' v10' v11' v12' v13' v14' v15' : Option V), [some (V.ref ta), some (.ref ca), some (.ref fp), some (.ref bp), some (.int (m : Nat)), some (.int (c : Nat)), some (.ref D), some (.int (r.s : Nat)), some (.ref ia), v9, v10, v11, v12, v13, v14, v15] = [some (.ref ta), some (.ref ca), some (.ref fp), some (.ref bp), some (.int (m : Nat)), some (.int (c : Nat)), some (.ref D), v7, v8, v9', v10', v11', v12', v13', v14', v15'] ∧ Same H H' ∧ H' D = some (.lst zs) ∧ DpAll K H' zs (E.map (lbD co)) ∧ NewL (Tb.take (i + 1)) g c u m E := by
        intro v9 v10 v11 v12 v13 v14 v15 H' s' hh
        refine ⟨zs, E, _, _, _, _, _, _, _, _, _, rfl, sa.trans s', s' _ _ hDa, DpAll.tps (Tps.same s') _ _ (flatDs_all _ _ (lbD_flat co)) dE, ?_⟩
        rw [take_get er]
        exact N.skip hh
      refine if_cut (fun b H' => Ha = H' ∧ (b = true ↔ c ∈ r.is ∧ (addF g c u r.c).length < m)) (fun Z hZ => ?_) ?_
      · have dia : Dp K Ha (.ref ia) (isD r.is) := Dp.of_nats ((Tps.same sa) _ _ hia)
        refine ⟨_, rfl, _, rfl, .int (c : Nat), _, .int _, .inl dia, by simp [PyData.depth], _, rfl, ?_⟩
        rw [any_nat]
        refine dec_b (fun h1 => ?_) (fun h1 => ?_)
        · obtain ⟨a, ys, e1, e2, e3⟩ := (FH.same sa).get (i := r.c) (G.cl r hrT).1
          refine ⟨_, rfl, _, rfl, fp, _, _, _, rfl, rfl, .inl (SqL.of (FH.same sa).hp), e1, a, ys, rfl, .inl (SqL.of e2), _, rfl, .inl ⟨_, _, rfl, rfl, _, rfl, hZ _ _ ⟨rfl, ?_⟩⟩⟩
          have := DpAll.len e3
          rw [List.length_map] at this
          rw [decide_eq_true_iff, this]
          exact ⟨fun h => ⟨h1, by omega⟩, fun h => by have := h.2; omega⟩
        · exact hZ _ _ ⟨rfl, fun e => (by cases e), fun e => absurd e.1 h1⟩
      rintro b _ ⟨rfl, hb⟩
      cases b with
      | false => 
        refine hkeep _ _ _ _ _ _ _ Ha (Same.refl _) ?_
        by_cases h1 : c ∈ r.is
        · refine .inr (Nat.le_of_not_lt fun h2 => ?_)
          have := hb.mpr ⟨h1, h2⟩
          cases this
        · exact .inl h1
      | true =>
        obtain ⟨hcr, hlr⟩ := hb.mp rfl
        refine iteT ?_
        refine ⟨_, rfl, ia, _, rfl, (Tps.same sa) _ _ hia, ?_⟩
        refine for_it (walk_enumT (xs := r.is.map fun i : Nat => V.int (i : Int))) (fun p σ H' => ∃ (zs' : List V) (L : List (List Tm)) (v10 v11 v12 v13 v14 v15 : Option V), σ = [some (.ref ta), some (.ref ca), some (.ref fp), some (.ref bp), some (.int (m : Nat)), some (.int (c : Nat)), some (.ref D), some (.int (r.s : Nat)), some (.ref ia), some (.int (r.c : Nat)), v10, v11, v12, v13, v14, v15] ∧ Same H H' ∧ H' D = some (.lst zs') ∧ DpAll K H' zs' ((E ++ L.map fun ts => (r.c, Tm.node r.s ts)).map (lbD co)) ∧ PickP g c u r.is p L) ?_ ?_ ?_ ?_
        · exact ⟨zs, [], _, _, _, _, _, _, rfl, sa, hDa, by simpa using dE, PickP.zero _⟩
        · rintro p σ H' _ ⟨zs', L, v10, v11, v12, v13, v14, v15, rfl, sb, _⟩
          exact (Tps.same sb) _ _ hia
        · rintro p v _ Hb Hc hp ⟨zs', L, v10, v11, v12, v13, v14, v15, rfl, sb, hDb, dEL, PL⟩ ⟨t, y1, y2, rfl, ht0, rfl, e1, e2⟩
          rw [List.length_map] at hp
          cases e1
          obtain ⟨i0, ei, rfl⟩ := get_natI e2
          have sb1 : Same Hb (upd Hb t (.tup [.int (p : Nat), .int (i0 : Nat)])) := (Fr.new (M := []) ht0).same
          have ht1 : SqT K (upd Hb t (.tup [.int (p : Nat), .int (i0 : Nat)])) t [.int (p : Nat), .int (i0 : Nat)] := SqT.of upd_same
          generalize upd Hb t (.tup [.int (p : Nat), .int (i0 : Nat)]) = Hc at sb1 ht1
          have sc := sb.trans sb1
          refine ⟨t, _, rfl, ht1, rfl, _, _, rfl, _, _, rfl, rfl, ?_⟩
          dsimp only [gName]
          refine ⟨_, rfl, _, rfl, .inl ⟨rfl, _, rfl, ?_⟩⟩
          have dELc := DpAll.tps (Tps.same sb1) _ _ (flatDs_all _ _ (lbD_flat co)) dEL
          refine dec_b (fun h1 => ?_) (fun h1 => ?_)
          rotate_left
          · exact ⟨zs', L, _, _, _, _, _, _, rfl, sc, sb1 _ _ hDb, dELc, PL.skip (fun e => h1 (by
              rw [ei] at e
              cases e
              rfl))⟩
          have eic : i0 = c := by
            have := vint_inj h1
            omega
          subst eic
          have hDc := sb1 _ _ hDb
          -- some = [(costs[symbol], 1, (symbol,), (symbol,))]
          refine seq_cut (fun σ H' => ∃ (l : Addr) (x : V), σ = [some (.ref ta), some (.ref ca), some (.ref fp), some (.ref bp), some (.int (m : Nat)), some (.int (i0 : Nat)), some (.ref D), some (.int (r.s : Nat)), some (.ref ia), some (.int (r.c : Nat)), some (.int (p : Nat)), some (.int (i0 : Nat)), some (.ref l), v13, v14, v15] ∧ Same Hc H' ∧ H' l = some (.lst [x]) ∧ DpAll K H' [x] ([[]].map (partD co r.s))) (fun Z hZ => ?_) ?_
          · refine ⟨_, rfl, _, rfl, ca, _, (r.s : Nat), _, rfl, rfl, hca.same sc, atI_nat (by rw [List.getElem?_map, hco r hrT]; rfl), _, rfl, by show 1 ≤ sizeLine; decide, fun t1 h1 => ⟨_, rfl, by show 1 ≤ sizeLine; decide, fun t2 h2 => ⟨by show 4 ≤ sizeLine; decide, fun t3 h3 => ⟨by show 1 ≤ sizeLine; decide, fun l h4 => ?_⟩⟩⟩⟩
            obtain ⟨q1, q2, q3⟩ := part0_made (K := K) (co := co) (s := r.s) h1 h2 h3 h4
            exact hZ _ _ ⟨l, _, rfl, q1, q2, q3⟩
          rintro _ Hd ⟨l, x, rfl, scd, hl, dl⟩
          have sd := sc.trans scd
          -- for at, one in enumerate(inner)
          refine seq_cut (fun σ H' => ∃ (l : Addr) (xs : List V) (Lq : List (List Tm)) (v13 v14 v15 : Option V), σ = [some (.ref ta), some (.ref ca), some (.ref fp), some (.ref bp), some (.int (m : Nat)), some (.int (i0 : Nat)), some (.ref D), some (.int (r.s : Nat)), some (.ref ia), some (.int (r.c : Nat)), some (.int (p : Nat)), some (.int (i0 : Nat)), some (.ref l), v13, v14, v15] ∧ Same Hd H' ∧ H' l = some (.lst xs) ∧ DpAll K H' xs (Lq.map (partD co r.s)) ∧ Pick (slots g i0 u p r.is) Lq) (fun Z hZ => ?_) ?_
          · refine ⟨_, rfl, ia, _, rfl, (Tps.same sd) _ _ hia, ?_⟩
            refine for_it (walk_enumT (xs := r.is.map fun i : Nat => V.int (i : Int))) (fun q σ H' => ∃ (l : Addr) (xs : List V) (Lq : List (List Tm)) (v13 v14 v15 : Option V), σ = [some (.ref ta), some (.ref ca), some (.ref fp), some (.ref bp), some (.int (m : Nat)), some (.int (i0 : Nat)), some (.ref D), some (.int (r.s : Nat)), some (.ref ia), some (.int (r.c : Nat)), some (.int (p : Nat)), some (.int (i0 : Nat)), some (.ref l), v13, v14, v15] ∧ Same Hd H' ∧ H' l = some (.lst xs) ∧ DpAll K H' xs (Lq.map (partD co r.s)) ∧ Pick ((slots g i0 u p r.is).take q) Lq)
              ⟨l, [x], [[]], _, _, _, rfl, Same.refl _, hl, dl, Pick.nil⟩ ?_ ?_ ?_
            · rintro q σ H' _ ⟨_, _, _, _, _, _, rfl, s', _⟩
              exact (Tps.same (sd.trans s')) _ _ hia
            · rintro q v _ He Hf hq ⟨l, xs, Lq, v13, v14, v15, rfl, se, hl, dl, Pq⟩ ⟨t', y1, y2, rfl, ht0', rfl, e1', e2'⟩
              rw [List.length_map] at hq
              cases e1'
              obtain ⟨i1, ei1, rfl⟩ := get_natI e2'
              have se1 : Same He (upd He t' (.tup [.int (q : Nat), .int (i1 : Nat)])) := (Fr.new (M := []) ht0').same
              have ht1' : SqT K (upd He t' (.tup [.int (q : Nat), .int (i1 : Nat)])) t' [.int (q : Nat), .int (i1 : Nat)] := SqT.of upd_same
              generalize upd He t' (.tup [.int (q : Nat), .int (i1 : Nat)]) = Hf at se1 ht1'
              have sdf := se.trans se1
              have sf := sd.trans sdf
              have hlf := se1 _ _ hl
              have dlf := DpAll.tps (Tps.same se1) _ _ (flatDs_all _ _ (partD_flat co r.s)) dl
              refine ⟨t', _, rfl, ht1', rfl, _, _, rfl, _, _, rfl, rfl, ?_⟩
              dsimp only [gName]
              have hi1n : i1 < n := (G.cl r hrT).2 i1 (List.mem_of_getElem? ei1)
              -- parts
              refine seq_cut (fun σ H' => ∃ (pa : Addr) (ys : List V), σ = [some (.ref ta), some (.ref ca), some (.ref fp), some (.ref bp), some (.int (m : Nat)), some (.int (i0 : Nat)), some (.ref D), some (.int (r.s : Nat)), some (.ref ia), some (.int (r.c : Nat)), some (.int (p : Nat)), some (.int (i0 : Nat)), some (.ref l), some (.int (q : Nat)), some (.int (i1 : Nat)), some (.ref pa)] ∧ Same Hf H' ∧ H' pa = some (.lst ys) ∧ DpAll K H' ys ((if q < p ∧ i1 = i0 then g i0 else addF g i0 u i1).map fun t => lbD co (i1, t))) (fun Z hZ => ?_) ?_
              · obtain ⟨a, ys, f1, f2, f3⟩ := (FH.same sf).get hi1n
                have fhp := (FH.same sf).hp
                refine ⟨_, rfl, _, rfl, .inl ⟨_, _, rfl, rfl, _, rfl, ?_⟩⟩
                refine dec_b (fun h1 => ?_) (fun h1 => ?_)
                · refine ⟨_, rfl, _, rfl, .inl ⟨rfl, _, rfl, ?_⟩⟩
                  refine dec_b (fun h2 => ?_) (fun h2 => ?_)
                  · have h2' : i1 = i0 := by
                      have := vint_inj h2
                      omega
                    subst h2'
                    refine ⟨_, rfl, _, rfl, fp, _, _, _, rfl, rfl, .inl (SqL.of fhp), f1, _, rfl, _, rfl, a, ys, rfl, SqL.of f2, fun pa hpa => ?_⟩
                    have sp : Same Hf (upd Hf pa (.lst (cutV ys none (some (-1))))) := (Fr.new (M := []) hpa).same
                    refine hZ _ _ ⟨pa, _, rfl, sp, upd_same, ?_⟩
                    have tq := Tps.same (K := K) sp
                    rw [if_pos ⟨by omega, rfl⟩, cutV_m1]
                    rw [cutV_m1] at tq
                    rw [addF_same, List.map_append] at f3
                    have := DpAll.dropLast f3
                    rw [List.map_singleton, List.dropLast_concat] at this
                    exact DpAll.tps tq _ _ (flatDs_all _ _ fun t => lbD_flat co (i1, t)) this
                  · refine ⟨_, rfl, _, rfl, fp, _, _, _, rfl, rfl, .inl (SqL.of fhp), f1, hZ _ _ ⟨a, ys, rfl, Same.refl _, f2, ?_⟩⟩
                    rw [if_neg (fun e => h2 (by rw [e.2]))]
                    exact f3
                · refine ⟨_, rfl, _, rfl, fp, _, _, _, rfl, rfl, .inl (SqL.of fhp), f1, hZ _ _ ⟨a, ys, rfl, Same.refl _, f2, ?_⟩⟩
                  rw [if_neg (fun e => h1 (by omega))]
                  exact f3
              rintro _ Hg ⟨pa, ys, rfl, sfg, hpa, dpa⟩
              have sg := sf.trans sfg
              -- some = _law_joined(some, ..)
              refine ⟨_, rfl, ?_⟩
              refine a_cut (fun v H' => ∃ (pb : Addr) (ws : List V), v = .ref pb ∧ Same Hg H' ∧ H' pb = some (.lst ws) ∧ DpAll K H' ws ((slot g i0 u p q i1).map fun t => lbD co (i1, t))) (fun Z hZ => ?_) ?_
              · refine ⟨_, rfl, _, rfl, .inl ⟨rfl, _, rfl, ?_⟩⟩
                refine dec_b (fun h1 => ?_) (fun h1 => ?_)
                · have h1' : q = p := by
                    have := vint_inj h1
                    omega
                  subst h1'
                  have h2' : i1 = i0 := by
                    rw [ei] at ei1
                    exact (Option.some.inj ei1).symm
                  subst h2'
                  refine ⟨_, rfl, by show 1 ≤ sizeLine; decide, fun pb hpb => ?_⟩
                  have sp : Same Hg (upd Hg pb (.lst [.ref bp])) := (Fr.new (M := []) hpb).same
                  refine hZ _ _ ⟨pb, _, rfl, sp, upd_same, ?_⟩
                  unfold slot
                  rw [if_pos rfl]
                  exact .cons (Dp.tps (Tps.same (sg.trans sp)) _ _ (lbD_flat co _) dbv) .nil
                · refine ⟨_, rfl, hZ _ _ ⟨pa, ys, rfl, Same.refl _, hpa, ?_⟩⟩
                  unfold slot
                  rw [if_neg (fun e => h1 (by rw [e]))]
                  exact dpa
              rintro _ Hh ⟨pb, ws, rfl, sgh, hpb, dpb⟩
              have hs2 : ∀ k t i, r.is[k]? = some i → t ∈ slot g i0 u p k i → t.size ≤ 600000 := fun k t i hk ht => (gm i t (slot_sub (fun e => by
                subst e
                rw [ei] at hk
                exact (Option.some.inj hk).symm) ht)).2
              have q3 : q ≤ 2 := by omega
              have Lq_len : Lq.length ≤ 20 ^ q := by
                refine Nat.le_trans Pq.len (Nat.le_trans (prods_le (k := 20) fun k hk => ?_) ?_)
                · obtain ⟨sl, h1, rfl⟩ := List.mem_map.mp hk
                  obtain ⟨k, hk⟩ := List.mem_iff_getElem?.mp (List.mem_of_mem_take h1)
                  rw [slots_get] at hk
                  obtain ⟨i, _, rfl⟩ := Option.map_eq_some_iff.mp hk
                  exact Nat.le_trans (slot_len gl p k i) hm
                · rw [List.length_map, List.length_take, slots_len, Nat.min_eq_left (by omega)]
                  exact Nat.le_refl _
              refine ⟨l, pb, xs, ws, co, r.s, Lq, (slot g i0 u p q i1).map fun t => (i1, t), rfl, sgh _ _ (sfg _ _ hlf), hpb, DpAll.tps (Tps.same (sfg.trans sgh)) _ _ (flatDs_all _ _ (partD_flat co r.s)) dlf, (by rw [List.map_map]; exact dpb), ?_, fun ts hts => ?_, fun e he => ?_, fun l' zs2 Hi shi hl0 hl' dl' => ?_⟩
              · rw [List.length_map]
                have h1 := slot_len gl p q i1
                have h2 : Lq.length * (slot g i0 u p q i1).length ≤ 20 ^ q * 20 := Nat.mul_le_mul Lq_len (by omega)
                have h3 : 20 ^ q * 20 ≤ 20 ^ 2 * 20 := Nat.mul_le_mul_right _ (Nat.pow_le_pow_right (by decide) q3)
                exact Nat.le_trans h2 (Nat.le_trans h3 (by decide))
              · have h1 := (Pq.mem ts).mp hts
                have hlen : ts.length = q := by
                  rw [h1.len, List.length_take, slots_len, Nat.min_eq_left (by omega)]
                have h2 : ∀ t ∈ ts, t.size ≤ 600000 := fun t ht => by
                  obtain ⟨k, hk⟩ := List.mem_iff_getElem?.mp ht
                  have hkl := (List.getElem?_eq_some_iff.mp hk).1
                  have e : r.is[k]? = some (r.is[k]'(by omega)) := List.getElem?_eq_getElem _
                  refine hs2 k t _ e (h1.get k t _ hk ?_)
                  rw [List.getElem?_take, if_pos (by omega), slots_get, e]
                  rfl
                have h3 := sizes_le h2
                have h4 : ts.length * 600000 ≤ 3 * 600000 := Nat.mul_le_mul_right _ (by omega)
                exact ⟨by omega, by omega⟩
              · obtain ⟨t, ht, rfl⟩ := List.mem_map.mp he
                have := hs2 q t i1 ei1 ht
                show t.size ≤ 2000000
                omega
              · have shd := ((sdf.trans sfg).trans sgh).trans shi
                refine ⟨l', zs2, _, _, _, _, rfl, shd, hl', dl', ?_⟩
                rw [slots_take ei1]
                have := Pq.add (M := (slot g i0 u p q i1).map fun t => (i1, t)) (by
                  rw [List.map_map]
                  have : (slot g i0 u p q i1).map ((fun e : Nat × Tm => e.2) ∘ fun t => (i1, t)) = slot g i0 u p q i1 := List.map_id _
                  rw [this]
                  exact slot_nodup gnd un p q i1)
                have e5 : ((slot g i0 u p q i1).map fun t => (i1, t)).map (fun e : Nat × Tm => e.2) = slot g i0 u p q i1 := by
                  rw [List.map_map]
                  exact List.map_id _
                rw [e5] at this
                exact this
            · rintro _ He ⟨l, xs, Lq, v13, v14, v15, rfl, se, hl, dl, Pq⟩
              rw [List.length_map, ← slots_len (f := g) (c := i0) (u := u) (p := p), List.take_of_length_le (Nat.le_refl _)] at Pq
              exact hZ _ _ ⟨l, xs, Lq, _, _, _, rfl, se, hl, dl, Pq⟩
          rintro _ He ⟨l, xs, Lq, v13', v14', v15', rfl, sde, hl, dl, Pq⟩
          have se := sd.trans sde
          have hDe := sde _ _ (scd _ _ hDc)
          have lxL : xs.length = Lq.length := by rw [DpAll.len dl, List.length_map]
          have Lq_len : Lq.length ≤ 8000 := by
            refine Nat.le_trans Pq.len (Nat.le_trans (prods_le (k := 20) fun k hk => ?_) ?_)
            · obtain ⟨sl, h1, rfl⟩ := List.mem_map.mp hk
              obtain ⟨k, hk⟩ := List.mem_iff_getElem?.mp h1
              rw [slots_get] at hk
              obtain ⟨i, _, rfl⟩ := Option.map_eq_some_iff.mp hk
              exact Nat.le_trans (slot_len gl p k i) hm
            · rw [List.length_map, slots_len]
              exact Nat.le_trans (Nat.pow_le_pow_right (by decide) ilen) (by decide)
          -- new.extend(..)
          refine ⟨_, rfl, .inl ⟨rfl, _, SqL.of hDe⟩, _, rfl, l, rfl, ⟨_, SqL.of hl⟩, fun D2 hD2 => ?_⟩
          refine lcM (walk_list (xs := xs)) [] hD2 (fun i acc H' => DpAll K H' acc (((Lq.take i).map fun ts => (r.c, Tm.node r.s ts)).map (lbD co))) .nil (fun i acc H' fr _ => SqL.of (fr.same _ _ hl)) ?_ ?_
          · rintro j v acc Hf Hg Nx hN hj fr e dc ⟨rfl, hv2⟩
            refine ⟨rfl, ?_⟩
            obtain ⟨dd, ed, dr2⟩ := DpAll.get' (DpAll.tps (Tps.same fr.same) _ _ (flatDs_all _ _ (partD_flat co r.s)) dl) hv2
            rw [List.getElem?_map] at ed
            cases er2 : Lq[j]? with
            | none =>
              rw [er2] at ed
              cases ed
            | some ts =>
            rw [er2] at ed
            obtain rfl := Option.some.inj ed
            obtain ⟨a1, sg1, tm1, ws, rfl, ha1, hsg1, htm1, dws⟩ := Dp.part dr2
            refine yes_cut ?_
            refine ⟨_, rfl, a1, _, 0, _, rfl, rfl, .inr ha1, rfl, _, rfl, a1, _, 1, _, rfl, rfl, .inr ha1, rfl, _, rfl, a1, _, 2, _, rfl, rfl, .inr ha1, rfl, _, rfl, _, rfl, a1, _, 3, _, rfl, rfl, .inr ha1, rfl, by show 5 ≤ sizeLine; decide, fun p5 hp5 => ?_⟩
            dsimp only
            have s5 := (Fr.new (M := []) (o := .tup [.int ((co r.s + KB.costs co ts : Nat) : Int), .int ((1 + sizes ts : Nat) : Int), .ref sg1, .int (r.c : Nat), .ref tm1]) hp5).same
            have e5 : SqT K (upd Hg p5 (.tup [.int ((co r.s + KB.costs co ts : Nat) : Int), .int ((1 + sizes ts : Nat) : Int), .ref sg1, .int (r.c : Nat), .ref tm1])) p5 [.int ((co r.s + KB.costs co ts : Nat) : Int), .int ((1 + sizes ts : Nat) : Int), .ref sg1, .int (r.c : Nat), .ref tm1] := SqT.of upd_same
            generalize upd Hg p5 (.tup [.int ((co r.s + KB.costs co ts : Nat) : Int), .int ((1 + sizes ts : Nat) : Int), .ref sg1, .int (r.c : Nat), .ref tm1]) = Hi at s5 e5
            have eD := s5 _ _ e
            have lacc : acc.length ≤ 8000 := by
              rw [DpAll.len dc, List.length_map, List.length_map, List.length_take]
              omega
            have tm : Tps K Hi (upd Hi D2 (.lst (acc ++ [.ref p5]))) := .mut eD trivial
            refine ⟨acc, eD, small_line (by omega), hN _ _ upd_same ((fr.trans (.of_same s5)).put (.inl hD2)) ?_⟩
            rw [take_get er2, List.map_append, List.map_append]
            refine DpAll.app (DpAll.tps ((Tps.same s5).trans tm) _ _ (flatDs_all _ _ (lbD_flat co)) dc) (.cons ?_ .nil)
            have tq := (Tps.same s5).trans tm
            show Dp K _ _ (lbD co (r.c, Tm.node r.s ts))
            unfold lbD
            rw [Tm.cost, Tm.size, Tm.syms, tmD]
            exact .tup (tm _ _ e5) (.cons (.int _) (.cons (.int _) (.cons (.tup (tq _ _ hsg1) (DpAll.ints _)) (.cons (.int _) (.cons (.tup (tq _ _ htm1) (.cons (.int _) (DpAll.tps tq _ _ (tmDs_flat _) dws))) .nil)))))
          · rintro acc Hf fr e dc
            rw [lxL, List.take_of_length_le (Nat.le_refl _)] at dc
            have hDf := fr.same _ _ hDe
            have sf := se.trans fr.same
            have tm : Tps K Hf (upd Hf D (.lst (zs' ++ acc))) := .mut hDf trivial
            have l1 : E.length ≤ 5000 := Nat.le_trans (N.len (T := Tb) (fun r' h => List.mem_of_mem_take h) gl) hw
            have l2 : L.length ≤ 8000 := Nat.le_trans (PL.len gl) (Nat.le_trans (Nat.pow_le_pow_left hm _) (Nat.le_trans (Nat.pow_le_pow_right (by decide) ilen) (by decide)))
            have lz : zs'.length = E.length + L.length := by
              rw [DpAll.len dEL, List.length_map, List.length_append, List.length_map]
            have la : acc.length = Lq.length := by rw [DpAll.len dc, List.length_map, List.length_map]
            refine ⟨D, D2, zs', acc, rfl, rfl, hDf, e, Nat.le_of_lt (small_line (by omega)), ?_⟩
            refine ⟨zs' ++ acc, L ++ Lq, _, _, _, _, _, _, rfl, ((Fr.of_same (M := []) sf).put (.inl hD)).same, upd_same, ?_, PL.step un ei Pq⟩
            have h1 := DpAll.tps ((Tps.same ((scd.trans sde).trans fr.same)).trans tm) _ _ (flatDs_all _ _ (lbD_flat co)) dELc
            have h2 := DpAll.tps tm _ _ (flatDs_all _ _ (lbD_flat co)) dc
            have := DpAll.app h1 h2
            simpa [List.map_append, List.append_assoc] using this
        · rintro _ H2 ⟨zs', L, v10, v11, v12, v13, v14, v15, rfl, s2, hD2, dEL, PL⟩
          rw [List.length_map] at PL
          refine ⟨zs', _, _, _, _, _, _, _, _, _, _, rfl, s2, hD2, dEL, ?_⟩
          rw [take_get er]
          refine N.add G.uq (fun d t h => (gm d t h).1) (fun r' h => List.mem_of_mem_take h) hrT (fun hin => ?_) PL
          obtain ⟨j, hj⟩ := List.mem_iff_getElem?.mp hin
          rw [List.getElem?_take] at hj
          split at hj
          · obtain ⟨z1, z2⟩ := List.getElem?_eq_some_iff.mp hj
            obtain ⟨z3, z4⟩ := List.getElem?_eq_some_iff.mp er
            have := (List.getElem_inj G.nd).mp (z2.trans z4.symm)
            omega
          · cases hj
    · rintro _ H2 ⟨zs, E, v7, v8, v9, v10, v11, v12, v13, v14, v15, rfl, s2, hD2, dE, N⟩
      rw [lxT, List.take_of_length_le (Nat.le_refl _)] at N
      exact hZ _ _ ⟨zs, E, _, _, _, _, _, _, _, _, _, rfl, s2, hD2, dE, N⟩
  rintro _ H2 ⟨zs, E, v7, v8, v9, v10, v11, v12, v13, v14, v15, rfl, s2, hD2, dE, N⟩
  exact ⟨_, rfl, k D zs E H2 s2 hD hD2 dE N⟩
end
end R59
/-! KV -/
/-! one turn of the law's own search, plain -/
namespace R59
open PySem PyProof.Rows L2 KB PySem.W
abbrev nob : Nat → Prop := fun _ => False
/-- what bounds the sizes of what is found -/
def BndG (T : List Row) (n : Nat) (g : Fnd) : Prop := (∃ A, A ≤ 3 ∧ n ≤ 7 ∧ full A n ≤ 40 ∧ (∀ r ∈ T, r.is.length ≤ A) ∧ SB A 40 n g) ∨ ∃ z : Nat → Nat, (∀ r ∈ T, 1 + (r.is.map z).sum ≤ z r.c) ∧ ∀ c, z c ≤ 41
theorem BndG.start {T : List Row} {n : Nat} (b : Bnd T n) : BndG T n (fun _ => []) := by
  rcases b with ⟨A, h1, h2, h3, h4⟩ | h
  · exact .inl ⟨A, h1, h2, h3, h4, SB.start _ _ _⟩
  · exact .inr h
theorem BndG.pop {ar : Nat → Nat} {T : List Row} {n m : Nat} {co : Nat → Nat} {g : Fnd} {fr : List (Nat × Tm)} (TG : TabG ar T n) (pos : ∀ s, 1 ≤ co s) (hm1 : 1 ≤ m) (B : BndG T n g) (G : Good T nob co m g fr) {c : Nat} {u : Tm} (hu : (c, u) ∈ fr) (hmin : ∀ e ∈ fr, Le nob co u e.2) (room : (g c).length < m) : BndG T n (addF g c u) := by
  rcases B with ⟨A, h1, h2, h3, h4, h5⟩ | h
  · exact .inl ⟨A, h1, h2, h3, h4, h5.pop h1 h3 (by decide) (fun _ _ h => h.elim) pos hm1 TG.a3 h4 (fun r hr => (TG.cl r hr).1) (fun _ h => h) G hu hmin room⟩
  · exact .inr h
theorem BndG.all {T : List Row} {n m : Nat} {g : Fnd} (B : BndG T n g) (mem : ∀ c t, t ∈ g c → Mem T t c) (len : ∀ c, (g c).length ≤ m) (hm : m ≤ 20) {c : Nat} {t : Tm} (h : t ∈ g c) : t.size ≤ 340000 ∧ t.depth ≤ 140 := by
  rcases B with ⟨A, h1, h2, h3, h4, h5⟩ | ⟨z, h1, h2⟩
  · obtain ⟨a, b⟩ := h5.all len h
    have e1 : n * m ≤ 7 * 20 := Nat.mul_le_mul h2 hm
    have e2 : 3 * 40 * (n * m) * m ≤ 3 * 40 * (7 * 20) * 20 := Nat.mul_le_mul (Nat.mul_le_mul_left _ e1) hm
    exact ⟨by omega, by omega⟩
  · have a := Mem.weight z h1 t c (mem c t h)
    have b := h2 c
    have d := depth_le_size t
    exact ⟨by omega, by omega⟩
theorem Good.fdep {T : List Row} {big : Nat → Prop} {m : Nat} {co : Nat → Nat} {g : Fnd} {fr : List (Nat × Tm)} (G : Good T big co m g fr) {k : Nat} (h : ∀ c t, t ∈ g c → t.depth ≤ k) {e : Nat × Tm} (he : e ∈ fr) : e.2.depth ≤ k + 1 := by
  obtain ⟨d, s, ts⟩ := e
  obtain ⟨is, _, hk⟩ := G.fkid d s ts he
  show (Tm.node s ts).depth ≤ k + 1
  rw [Tm.depth]
  have := depths_max (k := k) (ts := ts) fun t ht => by
    obtain ⟨i, hi⟩ := List.mem_iff_getElem?.mp ht
    have hl := (List.getElem?_eq_some_iff.mp hi).1
    have e : is[i]? = some (is[i]'(by rw [← hk.len]; exact hl)) := List.getElem?_eq_getElem _
    exact h _ t (hk.get i t _ hi e)
  omega
theorem mem_eraseN {α : Type} {l : List α} (nd : l.Nodup) {j : Nat} {x y : α} (hj : l[j]? = some x) : y ∈ l.eraseIdx j ↔ y ∈ l ∧ y ≠ x := by
  rw [List.mem_eraseIdx_iff_getElem?]
  obtain ⟨h1, h2⟩ := List.getElem?_eq_some_iff.mp hj
  constructor
  · rintro ⟨i, hi, e⟩
    refine ⟨List.mem_of_getElem? e, fun q => hi ?_⟩
    obtain ⟨h3, h4⟩ := List.getElem?_eq_some_iff.mp e
    exact (List.getElem_inj nd).mp (h4.trans (q.trans h2.symm))
  · rintro ⟨h, q⟩
    obtain ⟨i, e⟩ := List.mem_iff_getElem?.mp h
    refine ⟨i, fun z => q ?_, e⟩
    subst z
    rw [e] at hj
    exact Option.some.inj hj
theorem step_law {T : List Row} {m : Nat} {co : Nat → Nat} {g : Fnd} {fr E fr' : List (Nat × Tm)} {c j : Nat} {u : Tm} (U : Uniq T) (pos : ∀ s, 1 ≤ co s) (hm1 : 1 ≤ m) (G : Good T nob co m g fr) (hj : fr[j]? = some (c, u)) (hmin : ∀ e ∈ fr, Le nob co u e.2) (room : (g c).length < m) (N : NewL T g c u m E)
    (h1 : ∀ e ∈ fr', e ∈ fr.eraseIdx j ++ E) (h2 : (fr.eraseIdx j ++ E).Nodup → fr'.Nodup) (h3 : ∀ e ∈ fr.eraseIdx j ++ E, (addF g c u e.1).length < m → e ∈ fr') : Good T nob co m (addF g c u) fr' := by
  have hu := List.mem_of_getElem? hj
  have hum := G.fmem c u hu
  have kidm : ∀ d t, t ∈ addF g c u d → Mem T t d := fun d t h => by
    rcases mem_addF.mp h with h | ⟨rfl, rfl⟩
    · exact G.mem d t h
    · exact hum
  refine Good.pop (fun _ _ h _ => h) pos hm1 U G hu hmin room (fun e he => ?_) (h2 ?_) (fun e he hne hl => ?_) (fun d s is ts js hr ha hp hk hl => ?_)
  · rcases List.mem_append.mp (h1 e he) with h | h
    · exact .inl ((mem_eraseN G.fnd hj).mp h)
    · exact .inr (N.new e h)
  · refine List.nodup_append.mpr ⟨G.fnd.sublist (List.eraseIdx_sublist _ _), N.nd, fun a ha b hb e => ?_⟩
    subst e
    obtain ⟨ha1, _⟩ := (mem_eraseN G.fnd hj).mp ha
    obtain ⟨s, ts, is, e1, hr, hk, k, hk1, hk2⟩ := N.new a hb
    obtain ⟨d, t⟩ := a
    dsimp only at e1
    subst e1
    obtain ⟨is', hr', hk'⟩ := G.fkid d s ts ha1
    have ei : is' = is := MemL.one U ts _ _ (hk'.mem G.mem) (hk.mem kidm)
    subst ei
    exact G.fnew c u hu (hk'.get k u c hk2 hk1)
  · exact h3 e (List.mem_append_left _ ((mem_eraseN G.fnd hj).mpr ⟨he, hne⟩)) hl
  · obtain ⟨k, q1, q2, q3⟩ := hk
    exact h3 _ (List.mem_append_right _ (N.all d s is ts hr ha.kids ⟨k, q1, q3⟩ hl)) hl
/-- the least of the front -/
theorem lbD_lt {co : Nat → Nat} {a b : Nat × Tm} (h : dataLt (lbD co a) (lbD co b) = true) : Le nob co a.2 b.2 := by
  refine Classical.byContradiction fun q => ?_
  have : Le nob co b.2 a.2 := (Le.total (a := a.2) (b := b.2)).resolve_left q
  unfold lbD at h
  rw [lt_int_cons, lt_int_cons, lt_ints_cons] at h
  simp only [Bool.or_eq_true, Bool.and_eq_true, decide_eq_true_eq] at h
  apply q
  unfold Le KLe
  rcases h with h | ⟨e1, h | ⟨e2, h | ⟨e3, h⟩⟩⟩
  · exact .inl (by omega)
  · exact .inr ⟨by omega, .inl (by omega)⟩
  · exact .inr ⟨by omega, .inr ⟨by omega, .inr (.inl h)⟩⟩
  · exact .inr ⟨by omega, .inr ⟨by omega, .inr (.inr e3)⟩⟩
theorem minD_lb {co : Nat → Nat} : ∀ (fr : List (Nat × Tm)) (a : Nat × Tm), ∃ e ∈ a :: fr, minD (lbD co a) (fr.map (lbD co)) = lbD co e ∧ ∀ x ∈ a :: fr, Le nob co e.2 x.2
  | [], a => ⟨a, List.mem_cons_self, rfl, fun x hx => by
    rw [List.mem_singleton.mp hx]
    exact Le.refl _⟩
  | b :: fr, a => by
    have e : minD (lbD co a) ((b :: fr).map (lbD co)) = minD (if dataLt (lbD co b) (lbD co a) then lbD co b else lbD co a) (fr.map (lbD co)) := rfl
    rw [e]
    by_cases h : dataLt (lbD co b) (lbD co a) = true
    · rw [if_pos h]
      obtain ⟨e, h1, h2, h3⟩ := minD_lb (co := co) fr b
      refine ⟨e, List.mem_cons_of_mem _ h1, h2, fun x hx => ?_⟩
      rcases List.mem_cons.mp hx with q | q
      · subst q
        exact (h3 b List.mem_cons_self).trans (lbD_lt h)
      · exact h3 x q
    · rw [if_neg h]
      obtain ⟨e, h1, h2, h3⟩ := minD_lb (co := co) fr a
      refine ⟨e, ?_, h2, fun x hx => ?_⟩
      · rcases List.mem_cons.mp h1 with q | q
        · rw [q]; exact List.mem_cons_self
        · exact List.mem_cons_of_mem _ (List.mem_cons_of_mem _ q)
      · rcases List.mem_cons.mp hx with q | q
        · subst q
          exact h3 x List.mem_cons_self
        · rcases List.mem_cons.mp q with q | q
          · subst q
            exact (h3 a List.mem_cons_self).trans (lbD_le (by simpa using h))
          · exact h3 x (List.mem_cons_of_mem _ q)
theorem place_lb {co : Nat → Nat} {fr : List (Nat × Tm)} (nd : fr.Nodup) {e : Nat × Tm} {j : Nat} (hj : fr[j]? = some e) : SeqAt.dataPlace (fr.map (lbD co)) (lbD co e) = some j := by
  unfold SeqAt.dataPlace
  obtain ⟨h1, h2⟩ := List.getElem?_eq_some_iff.mp hj
  rw [List.findIdx?_map]
  rw [List.findIdx?_eq_some_iff_getElem]
  refine ⟨h1, ?_, fun k hk => ?_⟩
  · show PyData.eqv (lbD co fr[j]) (lbD co e) = true
    rw [lbD_eqv, h2]
    simp
  · show ¬ PyData.eqv (lbD co (fr[k]'(by omega))) (lbD co e) = true
    rw [lbD_eqv]
    intro q
    have q := of_decide_eq_true q
    have := (List.getElem_inj nd).mp (q.trans h2.symm)
    omega
theorem lb_depth (co : Nat → Nat) (e : Nat × Tm) : (lbD co e).depth ≤ 2 + e.2.depth := by
  unfold lbD
  simp only [PyData.depth, PyData.depthAll, ints_depth, tmD_depth]
  omega
theorem lb_depthAll {co : Nat → Nat} {fr : List (Nat × Tm)} {k : Nat} (h : ∀ e ∈ fr, e.2.depth ≤ k) : PyData.depthAll (fr.map (lbD co)) ≤ 2 + k := depthAll_le fun d hd => by
  obtain ⟨e, he, rfl⟩ := List.mem_map.mp hd
  have := lb_depth co e
  have := h e he
  omega
theorem lb_alike (co : Nat → Nat) (fr : List (Nat × Tm)) : AlikeAll (fr.map (lbD co)) := ⟨fun x hx y hy => by
  obtain ⟨a, _, rfl⟩ := List.mem_map.mp hx
  obtain ⟨b, _, rfl⟩ := List.mem_map.mp hy
  exact lbD_alike co a b, fun x hx => by
  obtain ⟨a, _, rfl⟩ := List.mem_map.mp hx
  unfold lbD
  intro h
  cases h⟩
/-- the measure -/
def lmu (T : List Row) (n m : Nat) (g : Fnd) (fr : List (Nat × Tm)) : Nat := (n * m - tot g n) * (wid m T + 1) + fr.length
theorem lmu_drop {T : List Row} {n m : Nat} {g : Fnd} {fr fr' : List (Nat × Tm)} (h : fr'.length < fr.length) : lmu T n m g fr' < lmu T n m g fr := by
  unfold lmu
  omega
theorem lmu_add {T : List Row} {n m : Nat} {big : Nat → Prop} {co : Nat → Nat} {g : Fnd} {fr fr' : List (Nat × Tm)} {c : Nat} {u : Tm} (hc : c < n) (G : Good T big co m (addF g c u) fr') : lmu T n m (addF g c u) fr' < lmu T n m g fr := by
  have h1 := G.flen
  have h2 : tot (addF g c u) n = tot g n + 1 := tot_add hc
  have h3 : tot (addF g c u) n ≤ n * m := tot_le G.len
  unfold lmu
  have h4 : (n * m - tot g n) = (n * m - tot (addF g c u) n) + 1 := by omega
  rw [h4, Nat.add_mul, Nat.one_mul]
  omega
/-- the front at the start -/
def frt (T : List Row) : List (Nat × Tm) := (T.filter fun r => decide (r.is = [])).map fun r => (r.c, Tm.node r.s [])
theorem frt_good {ar : Nat → Nat} {T : List Row} {n m : Nat} {big : Nat → Prop} {co : Nat → Nat} (G : TabG ar T n) : Good T big co m (fun _ => []) (frt T) := by
  refine Good.start (fun e he => ?_) ?_ (fun s c h => ?_)
  · obtain ⟨r, hr, rfl⟩ := List.mem_map.mp he
    obtain ⟨h1, h2⟩ := List.mem_filter.mp hr
    have h3 := of_decide_eq_true h2
    refine ⟨r.s, rfl, ?_⟩
    obtain ⟨s, is, c⟩ := r
    dsimp only at h3
    subst h3
    exact h1
  · refine KB.nodup_mapI (G.nd.sublist List.filter_sublist) fun a ha b hb e => ?_
    obtain ⟨h1, h2⟩ := List.mem_filter.mp ha
    obtain ⟨h3, h4⟩ := List.mem_filter.mp hb
    have h2 := of_decide_eq_true h2
    have h4 := of_decide_eq_true h4
    injection e with e1 e2
    injection e2 with e3 _
    exact G.uq a h1 b h3 e3 (h2.trans h4.symm)
  · exact List.mem_map.mpr ⟨⟨s, [], c⟩, List.mem_filter.mpr ⟨h, by simp⟩, rfl⟩
end R59
/-! W16 -/
set_option maxHeartbeats 1000000
namespace R59
open PySem PyProof.Rows L2 KB PySem.W
/-- found, made since H0 -/
structure FndN (K : PySem.W.Frag) (H0 H : Hp) (fp : Addr) (ls : List Addr) (f : Fnd) (n : Nat) (co : Nat → Nat) : Prop where
  h : FndH K H fp ls f n co
  nd : ls.Nodup
  nfp : fp ∉ ls
  newf : H0 fp = none
  newl : ∀ a ∈ ls, H0 a = none
theorem FndN.same {K : PySem.W.Frag} {H0 H H' : Hp} {fp : Addr} {ls : List Addr} {f : Fnd} {n : Nat} {co : Nat → Nat} (h : FndN K H0 H fp ls f n co) (s : Same H H') : FndN K H0 H' fp ls f n co := ⟨h.h.same s, h.nd, h.nfp, h.newf, h.newl⟩
/-- another list is changed -/
theorem FndN.upd {K : PySem.W.Frag} {H0 H : Hp} {fp : Addr} {ls : List Addr} {f : Fnd} {n : Nat} {co : Nat → Nat} (h : FndN K H0 H fp ls f n co) {p : Addr} {xs ys : List V} (hp : H p = some (.lst xs)) (h1 : p ≠ fp) (h2 : p ∉ ls) : FndN K H0 (L2.upd H p (.lst ys)) fp ls f n co := by
  have tm : Tps K H (L2.upd H p (.lst ys)) := .mut hp trivial
  refine ⟨⟨by rw [upd_ne (Ne.symm h1)]; exact h.h.hp, h.h.len, fun i a e => ?_⟩, h.nd, h.nfp, h.newf, h.newl⟩
  obtain ⟨zs, e1, e2⟩ := h.h.at_ i a e
  have : a ≠ p := fun q => h2 (q ▸ List.mem_of_getElem? e)
  exact ⟨zs, by rw [upd_ne this]; exact e1, DpAll.tps tm _ _ (flatDs_all _ _ fun t => lbD_flat co (i, t)) e2⟩
theorem FndN.app {K : PySem.W.Frag} {H0 H : Hp} {fp : Addr} {ls : List Addr} {f : Fnd} {n : Nat} {co : Nat → Nat} (h : FndN K H0 H fp ls f n co) {i : Nat} {a : Addr} {ys : List V} {v : V} {u : Tm} (ha : ls[i]? = some a) (hy : H a = some (.lst ys)) (dv : Dp K H v (lbD co (i, u))) : FndN K H0 (L2.upd H a (.lst (ys ++ [v]))) fp ls (addF f i u) n co := by
  have tm : Tps K H (L2.upd H a (.lst (ys ++ [v]))) := .mut hy trivial
  have am := List.mem_of_getElem? ha
  refine ⟨⟨by rw [upd_ne fun (q : fp = a) => h.nfp (by rw [q]; exact am)]; exact h.h.hp, h.h.len, fun j b e => ?_⟩, h.nd, h.nfp, h.newf, h.newl⟩
  obtain ⟨zs, e1, e2⟩ := h.h.at_ j b e
  by_cases q : j = i
  · subst q
    rw [ha] at e
    cases e
    rw [hy] at e1
    cases e1
    refine ⟨ys ++ [v], upd_same, ?_⟩
    rw [addF_same, List.map_append]
    exact DpAll.app (DpAll.tps tm _ _ (flatDs_all _ _ fun t => lbD_flat co (j, t)) e2) (.cons (Dp.tps tm _ _ (lbD_flat co _) dv) .nil)
  · have : b ≠ a := fun z => by
      subst z
      obtain ⟨h1, h2⟩ := List.getElem?_eq_some_iff.mp e
      obtain ⟨h3, h4⟩ := List.getElem?_eq_some_iff.mp ha
      exact q ((List.getElem_inj h.nd).mp (h2.trans h4.symm))
    rw [addF_ne f u q]
    exact ⟨zs, by rw [upd_ne this]; exact e1, DpAll.tps tm _ _ (flatDs_all _ _ fun t => lbD_flat co (j, t)) e2⟩
theorem FndN.get {K : PySem.W.Frag} {H0 H : Hp} {fp : Addr} {ls : List Addr} {f : Fnd} {n : Nat} {co : Nat → Nat} (h : FndN K H0 H fp ls f n co) {i : Nat} (hi : i < n) : ∃ a ys, ls[i]? = some a ∧ atI (ls.map V.ref) (i : Nat) = some (.ref a) ∧ H a = some (.lst ys) ∧ DpAll K H ys ((f i).map fun t => lbD co (i, t)) := by
  have e : ls[i]? = some (ls[i]'(by rw [h.h.len]; exact hi)) := List.getElem?_eq_getElem _
  obtain ⟨ys, h1, h2⟩ := h.h.at_ i _ e
  exact ⟨_, ys, e, atI_nat (by rw [List.getElem?_map, e]; rfl), h1, h2⟩
theorem DpAll.eraseIdx {K : PySem.W.Frag} {H : Hp} : ∀ {vs : List V} {ds : List PyData} (j : Nat), DpAll K H vs ds → DpAll K H (vs.eraseIdx j) (ds.eraseIdx j)
  | _, _, _, .nil => .nil
  | _, _, 0, .cons _ h => h
  | _, _, j + 1, .cons a h => .cons a (DpAll.eraseIdx j h)
theorem map_eraseG {α β : Type} (g : α → β) : ∀ (l : List α) (j : Nat), (l.map g).eraseIdx j = (l.eraseIdx j).map g
  | [], _ => rfl
  | _ :: _, 0 => rfl
  | x :: l, j + 1 => by
    rw [List.map_cons, List.eraseIdx_cons_succ, List.eraseIdx_cons_succ, List.map_cons, map_eraseG g l j]
theorem eqv_nilD (ds : List PyData) : PyData.eqv (.list ds) (.list []) = decide (ds = []) := by
  cases ds with
  | nil => decide
  | cons c cs => rfl
section
variable {P : Program} {w : World} {K : PySem.W.Frag} {mg : Str → Option Value} {base : Heap} {f : Addr} {fd : FuncData}
/-! ### _law_bests -/
abbrev s_law_bests : Stmt := top 37
abbrev N_law_bests : List Str := ["table", "costs", "most", "found", "front", "best", "c", "symbol", "inner", "made", "one"]
theorem sc_law_bests : FnScope N_law_bests ["table", "costs", "most"] (defScope s_law_bests) := ⟨rfl, rfl, rfl, by decide +kernel, rfl, by decide +kernel, by decide +kernel⟩
def spBests (K : PySem.W.Frag) : Sp := fun vs H Q _ => ∃ (ta ca : Addr) (m : Nat) (T : List Row) (n : Nat) (ar : Nat → Nat) (cs : List Int) (co : Nat → Nat), vs = [.ref ta, .ref ca, .int (m : Nat)] ∧ Dp K H (.ref ta) (tabD T) ∧ TabG ar T n ∧ SqA K H ca (cs.map V.int) ∧ CoOk cs co T ∧ (∀ s, 1 ≤ co s) ∧ 1 ≤ m ∧ m ≤ 20 ∧ wid m T ≤ 5000 ∧
  ∀ (fp : Addr) (ls : List Addr) (g : Fnd) (H' : Hp), Same H H' → H fp = none → FndH K H' fp ls g n co → (∀ c, FP T nob co m c (g c)) → Q (.ref fp) H'
theorem ok_bests (F : FnP K "_law_bests" "_law_bests" s_law_bests f fd) (T : Nm mg) (h_law_many : Has P w K mg base CX0 "_law_many" ["table"] 1 (spMany K)) (h_law_new : Has P w K mg base CX0 "_law_new" ["table", "costs", "found", "best", "most"] 2 (spNew K)) :
    FnOk P w K mg base CX0 3 f fd ["table", "costs", "most"] (spBests K) := by
  refine F.ok sc_law_bests (fun vs H Q E h => ?_) (fun cdv A outer s H vs Q E hr h => ?_)
  · obtain ⟨ta, ca, m, T, n, ar, cs, co, rfl, _⟩ := h
    rfl
  obtain ⟨ta, ca, m, Tb, n, ar, cs, co, rfl, dt, G, hca, hco, pos, hm1, hm, hw, k⟩ := h
  have hq := hq_of hr
  have hu := hu_of hr
  obtain ⟨a', xs, ea, hta, dx⟩ := Dp.tupOf dt
  cases ea
  have lxT : xs.length = Tb.length := by rw [DpAll.len dx, List.length_map]
  refine ⟨_, PSs.nox
  (pss_cons (ps_setLc (i := 3) (own := [("c", 6)]) rfl sc_law_bests.nd rfl rfl (sw_true rfl rfl rfl (by decide +kernel)) (pi_range1 (by rfl) T.range (pa_cons (pe_f h_law_many (hr.mono (by decide)) (by rfl) (pa_cons (pv 0) pa_nil)) pa_nil)) (blkOk_by (N := N_law_bests) (sc := defScope s_law_bests) (by decide +kernel)) (fun _ _ _ _ _ => (pg_name (i := 6) sc_law_bests.nd rfl (Or.inl rfl))) (fun _ _ _ _ _ => pts_nil) (fun _ _ _ _ _ => (pe_lst pa_nil)))
      (pss_cons (ps_setLc (i := 4) (own := [("symbol", 7), ("inner", 8), ("made", 9)]) rfl sc_law_bests.nd rfl rfl (sw_true rfl rfl rfl (by decide +kernel)) (pi_tupK K (pv 0)) (blkOk_by (N := N_law_bests) (sc := defScope s_law_bests) (by decide +kernel)) (fun _ _ _ _ _ => (pg_tupK (n := 3) K rfl (pgs_cons (pg_name (i := 7) sc_law_bests.nd rfl (Or.inl rfl)) (pgs_cons (pg_name (i := 8) sc_law_bests.nd rfl (Or.inl rfl)) (pgs_cons (pg_name (i := 9) sc_law_bests.nd rfl (Or.inl rfl)) pgs_nil))))) (fun _ _ _ _ _ => (pts_one (pt_cmpR (op_eqK K hq) (pv 8) (pe_tup pa_nil) (nomark _)))) (fun _ _ _ _ _ => (pe_tup (pa_cons (pe_ix (ix_K K) (pv 1) (pv 7) (fun _ _ => rfl)) (pa_cons pe_int (pa_cons (pe_tup (pa_cons (pv 7) pa_nil)) (pa_cons (pv 9) (pa_cons (pe_tup (pa_cons (pv 7) pa_nil)) pa_nil))))))))
      (pss_cons (ps_while PassesOwn.never (pt_cmpR (op_neK K hq) (pv 4) (pe_lst pa_nil) (nomark _)) (pss_cons (ps_set (i := 5) sc_law_bests.nd rfl (Or.inl rfl) (pe_callB (cr_minDK K rfl hq) (by rfl) T.min bt_min (pa_cons (pv 4) pa_nil)))
      (pss_cons (ps_expr (pe_bm PySem.F.plainAttrs_list PySem.F.slot_list_remove PySem.F.type_list_remove (mt_removeD hq) (pv 4) (pa_cons (pv 5) pa_nil)))
      (pss_cons (ps_set (i := 6) sc_law_bests.nd rfl (Or.inr rfl) (pe_ix (ix_K K) (pv 5) pe_int (fun _ _ => rfl)))
      (pss_one (ps_if (pt_cmpR (op_ltK K hq) (pe_callB (cr_lenK K) (by rfl) T.len bt_len (pa_cons (pe_ix (ix_K K) (pv 3) (pv 6) (fun _ _ => rfl)) pa_nil)) (pv 2) (nomark _)) (pss_cons (ps_expr (pe_appK K (pe_ix (ix_K K) (pv 3) (pv 6) (fun _ _ => rfl)) (pv 5)))
      (pss_cons (ps_set (i := 4) sc_law_bests.nd rfl (Or.inl rfl) (pe_op (op_addK K) (pv 4) (pe_f h_law_new (hr.mono (by decide)) (by rfl) (pa_cons (pv 0) (pa_cons (pv 1) (pa_cons (pv 3) (pa_cons (pv 5) (pa_cons (pv 2) pa_nil))))))))
      (pss_one (ps_if (pt_cmpR (op_eqK K hq) (pe_callB (cr_lenK K) (by rfl) T.len bt_len (pa_cons (pe_ix (ix_K K) (pv 3) (pv 6) (fun _ _ => rfl)) pa_nil)) (pv 2) (nomark _)) (pss_one (ps_setLc (i := 4) (own := [("one", 10)]) rfl sc_law_bests.nd rfl rfl (sw_true rfl rfl rfl (by decide +kernel)) (pi_listK K (pv 4)) (blkOk_by (N := N_law_bests) (sc := defScope s_law_bests) (by decide +kernel)) (fun _ _ _ _ _ => (pg_name (i := 10) sc_law_bests.nd rfl (Or.inl rfl))) (fun _ _ _ _ _ => (pts_one (pt_cmpR (op_neK K hq) (pe_ix (ix_K K) (pv 10) pe_int (fun _ _ => rfl)) (pv 6) (nomark _)))) (fun _ _ _ _ _ => (pv 10)))) pss_nil)))) pss_nil))))))
      (pss_one (ps_ret (pv 3)))))), ?_⟩
  -- found = [[] for c in range(_law_many(table))]
  refine seq_cut (fun σ H' => ∃ (fp : Addr) (ls : List Addr), σ = [some (.ref ta), some (.ref ca), some (.int (m : Nat)), some (.ref fp), none, none, none, none, none, none, none] ∧ Same H H' ∧ FndN K H H' fp ls (fun _ => []) n co) (fun Z hZ => ?_) ?_
  · refine ⟨_, rfl, ta, Tb, n, ar, rfl, dt, G, fun H1 s1 => ?_⟩
    have n42 := G.n42
    refine ⟨_, rfl, by omega, by omega, fun D hD => ?_⟩
    refine lcM (walk_range (lo := 0) (n := ((n : Nat) : Int).toNat)) [] hD (fun i acc H' => ∃ ls : List Addr, acc = ls.map V.ref ∧ ls.length = i ∧ ls.Nodup ∧ D ∉ ls ∧ (∀ a ∈ ls, H1 a = none ∧ H' a = some (.lst []))) ⟨[], rfl, rfl, List.nodup_nil, by simp, fun a h => by cases h⟩ (fun _ _ _ _ _ => trivial) ?_ ?_
    · rintro i x acc H3 H4 Nx hN hi fr e ⟨ls, rfl, c1, c2, c3, c4⟩ ⟨rfl, rfl⟩
      refine ⟨rfl, ?_⟩
      refine yes_cut ?_
      refine ⟨Nat.zero_le _, fun p hp => ?_⟩
      have pD : p ≠ D := fun q => by
        rw [q, e] at hp
        cases hp
      have p1 : H1 p = none := fr.free hp (by simp)
      refine ⟨_, by rw [upd_ne pD.symm]; exact e, small_line (by rw [List.length_map]; omega), hN _ _ upd_same ((fr.trans (Fr.new hp)).put (.inl hD)) ⟨ls ++ [p], by simp, by simp [c1], ?_, ?_, ?_⟩⟩
      · refine List.nodup_append.mpr ⟨c2, by simp, fun a ha b hb q => ?_⟩
        rw [List.mem_singleton.mp hb] at q
        subst q
        rw [(c4 a ha).2] at hp
        cases hp
      · simp only [List.mem_append, List.mem_singleton, not_or]
        exact ⟨c3, Ne.symm pD⟩
      · intro a ha
        rcases List.mem_append.mp ha with ha | ha
        · have n1 : a ≠ D := fun q => c3 (q ▸ ha)
          have n2 : a ≠ p := fun q => by
            rw [← q, (c4 a ha).2] at hp
            cases hp
          exact ⟨(c4 a ha).1, by rw [upd_ne n1, upd_ne n2]; exact (c4 a ha).2⟩
        · rw [List.mem_singleton.mp ha]
          exact ⟨p1, by rw [upd_ne pD, upd_same]⟩
    · rintro acc H3 fr e ⟨ls, rfl, c1, c2, c3, c4⟩
      have ln : ls.length = n := by omega
      have s3 := s1.trans fr.same
      have nw : ∀ {a}, H1 a = none → H a = none := fun {a} h => s1.free h
      refine hZ _ _ ⟨D, ls, rfl, s3, ⟨e, ln, fun i a ha => ⟨[], (c4 a (List.mem_of_getElem? ha)).2, .nil⟩⟩, c2, c3, nw hD, fun a ha => nw (c4 a ha).1⟩
  rintro _ H1 ⟨fp, ls, rfl, s1, FN1⟩
  -- front = [..]
  refine seq_cut (fun σ H' => ∃ (fq : Addr) (zs : List V), σ = [some (.ref ta), some (.ref ca), some (.int (m : Nat)), some (.ref fp), some (.ref fq), none, none, none, none, none, none] ∧ Same H1 H' ∧ H1 fq = none ∧ H' fq = some (.lst zs) ∧ DpAll K H' zs ((frt Tb).map (lbD co))) (fun Z hZ => ?_) ?_
  · have hta1 := (Tps.same s1) _ _ hta
    refine ⟨_, rfl, ta, rfl, ⟨_, hta1⟩, fun D hD => ?_⟩
    refine lcM (walk_tup (xs := xs)) [] hD (fun i acc H' => DpAll K H' acc ((frt (Tb.take i)).map (lbD co))) .nil (fun i acc H' fr _ => (Tps.same fr.same) _ _ hta1) ?_ ?_
    · rintro j v acc Hd Hc Nx hN hj fr e dc ⟨rfl, hv⟩
      obtain ⟨dd, ed, dr⟩ := DpAll.get' dx hv
      rw [List.getElem?_map] at ed
      cases er : Tb[j]? with
      | none =>
        rw [er] at ed
        cases ed
      | some r =>
      rw [er] at ed
      obtain rfl := Option.some.inj ed
      have hrT := List.mem_of_getElem? er
      obtain ⟨ra, ia, rfl, hra, hia⟩ := Dp.row dr
      have sc := s1.trans fr.same
      refine ⟨ra, _, rfl, (Tps.same sc) _ _ hra, rfl, _, _, rfl, _, _, rfl, _, _, rfl, rfl, rfl, ?_⟩
      have lacc : acc.length ≤ 42 := by
        rw [DpAll.len dc, List.length_map]
        unfold frt
        rw [List.length_map]
        have h1 := List.length_filter_le (fun r : Row => decide (r.is = [])) (Tb.take j)
        rw [List.length_take] at h1
        have := G.len
        omega
      refine ⟨_, rfl, Nat.zero_le _, fun p hp => .inr ⟨isD r.is, .tuple [], Dp.of_nats ((Tps.same (sc.trans (Fr.new (M := []) hp).same)) _ _ hia), .tup (SqT.of upd_same) .nil, by rw [depth_isD]; omega, _, rfl, ?_⟩⟩
      have s2 := (Fr.new (M := []) (o := .tup []) hp).same
      generalize upd Hc p (.tup []) = He at s2
      have eD := s2 _ _ e
      have en : (isD r.is).eqv (.tuple []) = decide (r.is = []) := by
        have := isD_eqv r.is []
        exact this
      rw [en]
      have ft : frt (Tb.take (j + 1)) = frt (Tb.take j) ++ if r.is = [] then [(r.c, Tm.node r.s [])] else [] := by
        unfold frt
        rw [take_get er, List.filter_append, List.map_append]
        congr 1
        by_cases h : r.is = [] <;> simp [h]
      refine dec_b (fun h1 => ?_) (fun h1 => ?_)
      · refine ⟨_, rfl, _, rfl, ca, _, (r.s : Nat), _, rfl, rfl, hca.same (sc.trans s2), atI_nat (by rw [List.getElem?_map, hco r hrT]; rfl), _, rfl, by show 1 ≤ sizeLine; decide, fun t1 ht1 => ⟨_, rfl, _, rfl, by show 1 ≤ sizeLine; decide, fun t2 ht2 => ⟨by show 5 ≤ sizeLine; decide, fun t3 ht3 => ?_⟩⟩⟩
        dsimp only
        have q1 := (Fr.new (M := []) (o := .tup [.int (r.s : Nat)]) ht1).same
        have w1 : SqT K (upd He t1 (.tup [.int (r.s : Nat)])) t1 [.int (r.s : Nat)] := SqT.of upd_same
        generalize upd He t1 (.tup [.int (r.s : Nat)]) = H5 at *
        have q2 := (Fr.new (M := []) (o := .tup [.int (r.s : Nat)]) ht2).same
        have w2 : SqT K (upd H5 t2 (.tup [.int (r.s : Nat)])) t2 [.int (r.s : Nat)] := SqT.of upd_same
        generalize upd H5 t2 (.tup [.int (r.s : Nat)]) = H6 at *
        have q3 := (Fr.new (M := []) (o := .tup [.int (co r.s : Nat), .int 1, .ref t1, .int (r.c : Nat), .ref t2]) ht3).same
        have w3 : SqT K (upd H6 t3 (.tup [.int (co r.s : Nat), .int 1, .ref t1, .int (r.c : Nat), .ref t2])) t3 [.int (co r.s : Nat), .int 1, .ref t1, .int (r.c : Nat), .ref t2] := SqT.of upd_same
        generalize upd H6 t3 (.tup [.int (co r.s : Nat), .int 1, .ref t1, .int (r.c : Nat), .ref t2]) = H7 at *
        have q13 := (q1.trans q2).trans q3
        have eD7 := q13 _ _ eD
        have tm : Tps K H7 (upd H7 D (.lst (acc ++ [.ref t3]))) := .mut eD7 trivial
        refine ⟨acc, eD7, small_line (by omega), hN _ _ upd_same ((fr.trans (.of_same (s2.trans q13))).put (.inl hD)) ?_⟩
        rw [ft, if_pos h1, List.map_append]
        refine DpAll.app (DpAll.tps ((Tps.same (s2.trans q13)).trans tm) _ _ (flatDs_all _ _ (lbD_flat co)) dc) (.cons ?_ .nil)
        have el : lbD co (r.c, Tm.node r.s []) = .tuple [.int (co r.s : Nat), .int 1, .tuple [.int (r.s : Nat)], .int (r.c : Nat), .tuple [.int (r.s : Nat)]] := by
          unfold lbD
          rw [Tm.cost, Tm.size, Tm.syms, tmD, KB.costs, sizes, symsL, tmDs]
          rfl
        rw [el]
        exact .tup (tm _ _ w3) (.cons (.int _) (.cons (.int _) (.cons (.tup (((Tps.same (q2.trans q3)).trans tm) _ _ w1) (.cons (.int _) .nil)) (.cons (.int _) (.cons (.tup (((Tps.same q3).trans tm) _ _ w2) (.cons (.int _) .nil)) .nil)))))
      · refine hN _ _ eD (fr.trans (.of_same s2)) ?_
        rw [ft, if_neg h1, List.append_nil]
        exact DpAll.tps (Tps.same s2) _ _ (flatDs_all _ _ (lbD_flat co)) dc
    · rintro acc H3 fr e dc
      rw [lxT, List.take_of_length_le (Nat.le_refl _)] at dc
      exact hZ _ _ ⟨D, acc, rfl, fr.same, hD, e, dc⟩
  rintro _ H2 ⟨fq, zs, rfl, s12, fq1, hfq, dfr⟩
  have s2 := s1.trans s12
  have FN2 := FN1.same s12
  have fq0 := s1.free fq1
  have fqf : fq ≠ fp := fun q => by
    rw [q, FN1.h.hp] at fq1
    cases fq1
  have fql : fq ∉ ls := fun q => by
    obtain ⟨i, hi⟩ := List.mem_iff_getElem?.mp q
    obtain ⟨ys, h1, _⟩ := FN1.h.at_ i fq hi
    rw [h1] at fq1
    cases fq1
  -- while front != []
  refine seq_cut (fun σ H' => ∃ (g : Fnd) (v4 v5 v6 v7 v8 v9 v10 : Option V), σ = [some (.ref ta), some (.ref ca), some (.int (m : Nat)), some (.ref fp), v4, v5, v6, v7, v8, v9, v10] ∧ Same H H' ∧ FndN K H H' fp ls g n co ∧ Good Tb nob co m g []) (fun Z hZ => ?_) ?_
  · refine while_d (fun μ σ H' => ∃ (g : Fnd) (fq : Addr) (zs : List V) (fr : List (Nat × Tm)) (v5 v6 v7 v8 v9 v10 : Option V), σ = [some (.ref ta), some (.ref ca), some (.int (m : Nat)), some (.ref fp), some (.ref fq), v5, v6, v7, v8, v9, v10] ∧ Same H H' ∧ FndN K H H' fp ls g n co ∧
      H fq = none ∧ fq ≠ fp ∧ fq ∉ ls ∧ H' fq = some (.lst zs) ∧ DpAll K H' zs (fr.map (lbD co)) ∧ Good Tb nob co m g fr ∧ BndG Tb n g ∧ lmu Tb n m g fr = μ)
      ⟨_, _, fq, zs, _, _, _, _, _, _, _, rfl, s2, FN2, fq0, fqf, fql, hfq, dfr, frt_good G, BndG.start G.bnd, rfl⟩ ?_
    clear hfq dfr fq0 fq1 fqf fql s12 FN1 s1 FN2 s2
    rintro μ _ Ha ⟨g, fq, zs, fr, v5, v6, v7, v8, v9, v10, rfl, sa, FN, fq0, fqf, fql, hfq, dfr, GD, BG, hμ⟩
    have gd : ∀ c t, t ∈ g c → t.size ≤ 340000 ∧ t.depth ≤ 140 := fun c t h => BG.all GD.mem GD.len hm h
    have frd : ∀ e ∈ fr, e.2.depth ≤ 141 := fun e he => R59.Good.fdep GD (fun c t h => (gd c t h).2) he
    have fdep := lb_depthAll (co := co) frd
    refine ⟨_, rfl, Nat.zero_le _, fun p hp => Or.inr ⟨.list (fr.map (lbD co)), .list [], .lst (SqL.of (Fr.new (M := []) hp _ _ hfq (by simp))) (DpAll.tps (Tps.new hp) _ _ (flatDs_all _ _ (lbD_flat co)) dfr), .lst (SqL.of upd_same) .nil, by simp [PyData.depth, PyData.depthAll], _, rfl, ?_⟩⟩
    rw [eqv_nilD]
    have sp : Same Ha (upd Ha p (.lst [])) := (Fr.new (M := []) hp).same
    generalize upd Ha p (.lst []) = Hb at sp
    refine ndec_b (fun hne => ?_) (fun he => ?_)
    rotate_left
    · have : fr = [] := List.map_eq_nil_iff.mp he
      subst this
      exact hZ _ _ ⟨g, _, _, _, _, _, _, _, rfl, sa.trans sp, FN.same sp, GD⟩
    refine ⟨_, fun σ' H' h => h, ?_⟩
    have sb := sa.trans sp
    have FNb := FN.same sp
    have hfqb := sp _ _ hfq
    have dfrb := DpAll.tps (Tps.same sp) _ _ (flatDs_all _ _ (lbD_flat co)) dfr
    -- best = min(front)
    refine seq_cut (fun σ H' => H' = Hb ∧ ∃ (j c : Nat) (u : Tm) (x : V), σ = [some (.ref ta), some (.ref ca), some (.int (m : Nat)), some (.ref fp), some (.ref fq), some x, v6, v7, v8, v9, v10] ∧ fr[j]? = some (c, u) ∧ Dp K Hb x (lbD co (c, u)) ∧ ∀ e ∈ fr, Le nob co u e.2) (fun Z hZ => ?_) ?_
    · cases fr with
      | nil => exact absurd rfl hne
      | cons e0 fr0 =>
        refine ⟨_, rfl, fq, zs, lbD co e0, fr0.map (lbD co), rfl, SqL.of hfqb, dfrb, lb_alike co (e0 :: fr0), (by
          have := fdep
          rw [List.map_cons] at this
          omega), fun i x hx dx => ?_⟩
        obtain ⟨e, h1, h2, h3⟩ := minD_lb (co := co) fr0 e0
        rw [h2] at dx
        obtain ⟨j, hj⟩ := List.mem_iff_getElem?.mp h1
        exact hZ _ _ ⟨rfl, j, e.1, e.2, x, rfl, hj, dx, h3⟩
    rintro _ Hb ⟨rfl, j, c, u, x, rfl, hj, dxu, hmin⟩
    have hcu := List.mem_of_getElem? hj
    have lfr := GD.flen
    -- front.remove(best)
    refine ⟨_, rfl, .inl ⟨rfl, _, SqL.of hfqb⟩, _, rfl, fq, zs, fr.map (lbD co), x, lbD co (c, u), j, rfl, rfl, hfqb, dfrb, dxu, place_lb GD.fnd hj, by omega, ?_⟩
    have tmb : Tps K Hb (upd Hb fq (.lst (zs.eraseIdx j))) := .mut hfqb trivial
    have FNc : FndN K H (upd Hb fq (.lst (zs.eraseIdx j))) fp ls g n co := FNb.upd hfqb fqf fql
    have sc : Same H (upd Hb fq (.lst (zs.eraseIdx j))) := ((Fr.of_same (M := []) sb).put (.inl fq0)).same
    have hfqc : upd Hb fq (.lst (zs.eraseIdx j)) fq = some (.lst (zs.eraseIdx j)) := upd_same
    have dfrc : DpAll K (upd Hb fq (.lst (zs.eraseIdx j))) (zs.eraseIdx j) ((fr.eraseIdx j).map (lbD co)) := by
      rw [← map_eraseG]
      have := DpAll.tps tmb _ _ (flatDs_all _ _ (lbD_flat co)) dfrb
      exact DpAll.eraseIdx j this
    have dxc := Dp.tps tmb _ _ (lbD_flat co _) dxu
    generalize upd Hb fq (.lst (zs.eraseIdx j)) = Hc at FNc sc hfqc dfrc dxc
    clear dxu dfrb hfqb FNb sb tmb
    obtain ⟨bp, bsa, bt, rfl, hbp, hbsa, dbt⟩ := Dp.lb dxc
    -- c = best[3]
    refine ⟨_, rfl, bp, _, 3, _, rfl, rfl, .inr hbp, rfl, ?_⟩
    dsimp only
    have hum := GD.fmem c u hcu
    have hcn : c < n := by
      cases hum with
      | mk hr _ => exact (G.cl _ hr).1
    obtain ⟨a, ys, ha, ea, hya, dya⟩ := FNc.get hcn
    have lya : ys.length = (g c).length := by rw [DpAll.len dya, List.length_map]
    have gl := GD.len c
    refine ⟨_, rfl, _, rfl, fp, _, _, _, rfl, rfl, .inl (SqL.of FNc.h.hp), ea, a, ys, rfl, .inl (SqL.of hya), _, rfl, .inl ⟨_, _, rfl, rfl, _, rfl, ?_⟩⟩
    have er : (fr.eraseIdx j).length < fr.length := by
      have h1 := (List.getElem?_eq_some_iff.mp hj).1
      rw [List.length_eraseIdx_of_lt h1]
      omega
    refine dec_b (fun hroom => ?_) (fun hfull => ?_)
    rotate_left
    · refine ⟨lmu Tb n m g (fr.eraseIdx j), ?_, g, fq, _, fr.eraseIdx j, _, _, _, _, _, _, rfl, sc, FNc, fq0, fqf, fql, hfqc, dfrc, ?_, BG, rfl⟩
      · rw [← hμ]
        exact lmu_drop er
      · refine GD.drop (c := c) (u := u) (by omega) (fun e he => (List.eraseIdx_sublist _ _).subset he) (GD.fnd.sublist (List.eraseIdx_sublist _ _)) fun e he hne => (mem_eraseN GD.fnd hj).mpr ⟨he, hne⟩
    have room : (g c).length < m := by omega
    have BG' := BG.pop G pos hm1 GD hcu hmin room
    -- found[c].append(best)
    refine ⟨_, rfl, _, rfl, fp, _, _, _, rfl, rfl, .inl (SqL.of FNc.h.hp), ea, .inl ⟨rfl, _, SqL.of hya⟩, _, rfl, a, ys, _, rfl, rfl, hya, small_line (by omega), ?_⟩
    have FNd := FNc.app ha hya dxc
    have a0 : H a = none := FNc.newl a (List.mem_of_getElem? ha)
    have sd : Same H (upd Hc a (.lst (ys ++ [.ref bp]))) := ((Fr.of_same (M := []) sc).put (.inl a0)).same
    have tmd : Tps K Hc (upd Hc a (.lst (ys ++ [.ref bp]))) := .mut hya trivial
    have fqa : fq ≠ a := fun q => fql (q ▸ List.mem_of_getElem? ha)
    have hfqd : upd Hc a (.lst (ys ++ [.ref bp])) fq = some (.lst (zs.eraseIdx j)) := by rw [upd_ne fqa]; exact hfqc
    have dfrd := DpAll.tps tmd _ _ (flatDs_all _ _ (lbD_flat co)) dfrc
    have dxd := Dp.tps tmd _ _ (lbD_flat co _) dxc
    generalize upd Hc a (.lst (ys ++ [.ref bp])) = Hd at FNd sd hfqd dfrd dxd
    have un := GD.fnew c u hcu
    have mem' : ∀ d t, t ∈ addF g c u d → Mem Tb t d := fun d t h => by
      rcases mem_addF.mp h with h | ⟨rfl, rfl⟩
      · exact GD.mem d t h
      · exact hum
    have len' : ∀ d, (addF g c u d).length ≤ m := fun d => by
      have := GD.len d
      rw [addF_len]
      split
      · next e => subst e; omega
      · omega
    have gd' : ∀ d t, t ∈ addF g c u d → t.size ≤ 340000 ∧ t.depth ≤ 140 := fun d t h => BG'.all mem' len' hm h
    -- front = front + _law_new(..)
    dsimp only
    refine seq_cut (fun σ H' => ∃ (fq2 : Addr) (zs2 : List V) (E : List (Nat × Tm)), σ = [some (.ref ta), some (.ref ca), some (.int (m : Nat)), some (.ref fp), some (.ref fq2), some (.ref bp), some (.int (c : Nat)), v7, v8, v9, v10] ∧ Same Hd H' ∧ Hd fq2 = none ∧ H' fq2 = some (.lst zs2) ∧ DpAll K H' zs2 ((fr.eraseIdx j ++ E).map (lbD co)) ∧ NewL Tb g c u m E) (fun Z hZ => ?_) ?_
    · refine ⟨_, rfl, _, rfl, _, rfl, _, rfl, _, rfl, _, rfl, ta, ca, fp, _, m, Tb, n, ar, cs, co, ls, g, c, u, rfl, Dp.tps (Tps.same sd) _ _ (tabD_flat _) dt, G, hca.same sd, hco, FNd.h, dxd, hm, hcn, un, GD.nd, len', fun d t h => ⟨mem' d t h, Nat.le_trans (gd' d t h).1 (by decide)⟩, hw, fun p zsE E He se hp0 hpE dE N => ?_⟩
      have lE : E.length ≤ 5000 := Nat.le_trans (N.len (T := Tb) (fun r' h => h) len') hw
      refine .inr (.inl ⟨fq, p, zs.eraseIdx j, zsE, rfl, rfl, se _ _ hfqd, hpE, ?_, fun p2 hp2 => ?_⟩)
      · have h1 := DpAll.len dfrd
        have h2 := DpAll.len dE
        rw [List.length_map] at h1 h2
        exact Nat.le_of_lt (small_line (by omega))
      · have s3 := (Fr.new (M := []) (o := .lst (zs.eraseIdx j ++ zsE)) hp2).same
        refine hZ _ _ ⟨p2, _, E, rfl, se.trans s3, se.free hp2, upd_same, ?_, N⟩
        rw [List.map_append]
        exact DpAll.app (DpAll.tps (Tps.same (se.trans s3)) _ _ (flatDs_all _ _ (lbD_flat co)) dfrd) (DpAll.tps (Tps.same s3) _ _ (flatDs_all _ _ (lbD_flat co)) dE)
    rintro _ He ⟨fq2, zs2, E, rfl, sde, fq20, hfq2, dE, N⟩
    have se := sd.trans sde
    have FNe := FNd.same sde
    have notin : ∀ {q : Addr}, Hd q = none → q ≠ fp ∧ q ∉ ls := fun {q} h => by
      refine ⟨fun z => ?_, fun z => ?_⟩
      · rw [z, FNd.h.hp] at h
        cases h
      · obtain ⟨i, hi⟩ := List.mem_iff_getElem?.mp z
        obtain ⟨ys, h1, _⟩ := FNd.h.at_ i q hi
        rw [h1] at h
        cases h
    -- if len(found[c]) == most
    obtain ⟨a2, ys2, ha2, ea2, hya2, dya2⟩ := FNe.get hcn
    have lya2 : ys2.length = (addF g c u c).length := by rw [DpAll.len dya2, List.length_map]
    refine ⟨_, rfl, _, rfl, fp, _, _, _, rfl, rfl, .inl (SqL.of FNe.h.hp), ea2, a2, ys2, rfl, .inl (SqL.of hya2), _, rfl, .inl ⟨rfl, _, rfl, ?_⟩⟩
    refine dec_b (fun hful => ?_) (fun hnot => ?_)
    rotate_left
    · have GD' := step_law (fr' := fr.eraseIdx j ++ E) G.uq pos hm1 GD hj hmin room N (fun e h => h) (fun h => h) (fun e h _ => h)
      refine ⟨lmu Tb n m (addF g c u) _, ?_, _, fq2, zs2, _, _, _, _, _, _, _, rfl, se, FNe, sd.free fq20, (notin fq20).1, (notin fq20).2, hfq2, dE, GD', BG', rfl⟩
      rw [← hμ]
      exact lmu_add hcn GD'
    have hfl : (addF g c u c).length = m := by
      have := vint_inj hful
      omega
    have GD' := step_law (fr' := (fr.eraseIdx j ++ E).filter fun e => decide (e.1 ≠ c)) G.uq pos hm1 GD hj hmin room N (fun e h => (List.mem_filter.mp h).1) (fun h => h.sublist List.filter_sublist) (fun e h hl => List.mem_filter.mpr ⟨h, by
      refine decide_eq_true fun q => ?_
      rw [q, hfl] at hl
      omega⟩)
    -- front = [one for one in front if one[3] != c]
    have lz2 : zs2.length = (fr.eraseIdx j ++ E).length := by rw [DpAll.len dE, List.length_map]
    have lE : E.length ≤ 5000 := Nat.le_trans (N.len (T := Tb) (fun r' h => h) len') hw
    refine ⟨_, rfl, fq2, rfl, ⟨_, SqL.of hfq2⟩, fun D hD => ?_⟩
    refine lcM (walk_list (xs := zs2)) [] hD (fun i acc H' => DpAll K H' acc ((((fr.eraseIdx j ++ E).take i).filter fun e => decide (e.1 ≠ c)).map (lbD co))) .nil (fun i acc H' fr _ => SqL.of (fr.same _ _ hfq2)) ?_ ?_
    · rintro i v acc Hf Hg Nx hN hi fr2 e dc ⟨rfl, hv⟩
      obtain ⟨dd, ed, dr⟩ := DpAll.get' dE hv
      rw [List.getElem?_map] at ed
      cases eo : (fr.eraseIdx j ++ E)[i]? with
      | none =>
        rw [eo] at ed
        cases ed
      | some en =>
      rw [eo] at ed
      obtain rfl := Option.some.inj ed
      have dr2 := Dp.tps (Tps.same fr2.same) _ _ (lbD_flat co _) dr
      have dr3 := dr2
      obtain ⟨q, qs, qt, rfl, hq1, _, _⟩ := Dp.lb dr2
      refine ⟨rfl, ?_⟩
      have ft : ((fr.eraseIdx j ++ E).take (i + 1)).filter (fun e => decide (e.1 ≠ c)) = ((fr.eraseIdx j ++ E).take i).filter (fun e => decide (e.1 ≠ c)) ++ if en.1 ≠ c then [en] else [] := by
        rw [take_get eo, List.filter_append]
        congr 1
        by_cases h : en.1 = c <;> simp [h]
      have lacc : acc.length ≤ 10000 := by
        rw [DpAll.len dc, List.length_map]
        have h1 := List.length_filter_le (fun e : Nat × Tm => decide (e.1 ≠ c)) ((fr.eraseIdx j ++ E).take i)
        rw [List.length_take, List.length_append] at h1
        omega
      refine ⟨_, rfl, q, _, 3, _, rfl, rfl, .inr hq1, rfl, _, rfl, .inl ⟨rfl, _, rfl, ?_⟩⟩
      have tm : Tps K Hg (upd Hg D (.lst (acc ++ [.ref q]))) := .mut e trivial
      refine ndec_b (fun h1 => ?_) (fun h1 => ?_)
      · refine ⟨_, rfl, acc, e, small_line (by omega), hN _ _ upd_same (fr2.put (.inl hD)) ?_⟩
        rw [ft, if_pos (fun q => h1 (by rw [q])), List.map_append]
        exact DpAll.app (DpAll.tps tm _ _ (flatDs_all _ _ (lbD_flat co)) dc) (.cons (Dp.tps tm _ _ (lbD_flat co _) dr3) .nil)
      · refine hN _ _ e fr2 ?_
        rw [ft, if_neg (fun q => q (by
          have := vint_inj h1
          omega)), List.append_nil]
        exact dc
    · rintro acc Hf fr2 e dc
      rw [lz2, List.take_of_length_le (Nat.le_refl _)] at dc
      have sf := fr2.same
      have D0 : Hd D = none := sde.free hD
      refine ⟨lmu Tb n m (addF g c u) _, ?_, _, D, acc, _, _, _, _, _, _, _, rfl, se.trans sf, FNe.same sf, sd.free D0, (notin D0).1, (notin D0).2, e, dc, GD', BG', rfl⟩
      rw [← hμ]
      exact lmu_add hcn GD'
  rintro _ H3 ⟨g, v4, v5, v6, v7, v8, v9, v10, rfl, s3, FN3, GD⟩
  exact ⟨_, rfl, k fp ls g H3 s3 FN3.newf FN3.h fun c => GD.fp_end (fun _ _ h _ => h) pos hm1 c⟩
end
end R59
/-! KC -/
set_option autoImplicit false
/-! numbers of members of a row's classes, one the newest one, plain -/
namespace KB
theorem prods_snoc : ∀ (a : List Nat) (x : Nat), prods (a ++ [x]) = prods a * x
  | [], x => by rw [List.nil_append, prods, prods, prods, Nat.mul_one, Nat.one_mul]
  | y :: a, x => by rw [List.cons_append, prods, prods, prods_snoc a x, Nat.mul_assoc]
abbrev pr1 (js : List Nat) : Nat := prods (js.map (· + 1))
theorem pr1_snoc (js : List Nat) (o : Nat) : pr1 (js ++ [o]) = pr1 js * (o + 1) := by
  unfold pr1
  rw [List.map_append, List.map_singleton, prods_snoc]
theorem pr1_pos (js : List Nat) : 1 ≤ pr1 js := prods_pos fun n hn => by
  obtain ⟨j, _, rfl⟩ := List.mem_map.mp hn
  omega
section
variable (ln : Nat → Nat) (c N m p : Nat)
/-- how many members may stand at a place -/
def bdN (k i : Nat) : Nat := if i = c ∧ k < p then ln i - 1 else ln i
def okN (k i j : Nat) : Prop := if k = p then j = N else j < bdN ln c p k i
/-- the tuples that have the newest member at place p, and not ahead of it: the first q numbers, the product -/
structure WN (is : List Nat) (q : Nat) (F : List (List Nat × Nat)) : Prop where
  mem : ∀ js P, (js, P) ∈ F ↔ js.length = q ∧ (∀ k i j, k < q → is[k]? = some i → js[k]? = some j → okN ln c N p k i j) ∧ P = (if p < q then 1 else N + 1) * pr1 js ∧ P ≤ m
  nd : F.Nodup
def stepN (q i : Nat) (e : List Nat × Nat) : List (List Nat × Nat) := if q = p then [(e.1 ++ [N], e.2)] else (List.range (min (bdN ln c p q i) (m / e.2))).map fun o => (e.1 ++ [o], e.2 * (o + 1))
end
section
variable {ln : Nat → Nat} {c N m p : Nat}
theorem WN.start (is : List Nat) (h : N + 1 ≤ m) : WN ln c N m p is 0 [([], N + 1)] := by
  refine ⟨fun js P => ?_, by simp⟩
  rw [List.mem_singleton]
  constructor
  · intro h
    injection h with h1 h2
    subst h1 h2
    exact ⟨rfl, fun k i j hk => by omega, by simp [pr1, prods], by omega⟩
  · rintro ⟨h1, _, h3, _⟩
    have := List.length_eq_zero_iff.mp h1
    subst this
    rw [h3]
    simp [pr1, prods]
theorem WN.step {is : List Nat} {q i : Nat} {F : List (List Nat × Nat)} (W : WN ln c N m p is q F) (hi : is[q]? = some i) : WN ln c N m p is (q + 1) (F.flatMap (stepN ln c N m p q i)) := by
  have inv : ∀ {js P x}, (js, P) ∈ F → x ∈ stepN ln c N m p q i (js, P) → ∃ o, x.1 = js ++ [o] ∧ okN ln c N p q i o ∧ x.2 = (if p < q + 1 then 1 else N + 1) * pr1 x.1 ∧ x.2 ≤ m := fun {js P x} h hx => by
    obtain ⟨h1, h2, h3, h4⟩ := (W.mem js P).mp h
    unfold stepN at hx
    by_cases e : q = p
    · rw [if_pos e] at hx
      rw [List.mem_singleton.mp hx]
      refine ⟨N, rfl, by unfold okN; rw [if_pos e], ?_, h4⟩
      show P = (if p < q + 1 then 1 else N + 1) * pr1 (js ++ [N])
      rw [pr1_snoc, h3, if_neg (by omega), if_pos (by omega), Nat.one_mul, Nat.mul_comm]
    · rw [if_neg e] at hx
      obtain ⟨o, ho, rfl⟩ := List.mem_map.mp hx
      have ho : o < min (bdN ln c p q i) (m / P) := List.mem_range.mp ho
      have e2 : (if p < q + 1 then 1 else N + 1) = if p < q then 1 else N + 1 := by
        by_cases z : p < q
        · rw [if_pos z, if_pos (by omega)]
        · rw [if_neg z, if_neg (by omega)]
      refine ⟨o, rfl, by unfold okN; rw [if_neg e]; omega, ?_, ?_⟩
      · show P * (o + 1) = _ * pr1 (js ++ [o])
        rw [pr1_snoc, e2, h3, Nat.mul_assoc]
      · show P * (o + 1) ≤ m
        have h5 : o + 1 ≤ m / P := by omega
        have h6 : P * (m / P) ≤ m := Nat.mul_div_le m P
        exact Nat.le_trans (Nat.mul_le_mul_left P h5) h6
  refine ⟨fun js P => ⟨fun h => ?_, fun ⟨h1, h2, h3, h4⟩ => ?_⟩, ?_⟩
  · obtain ⟨⟨js', P'⟩, hF, hx⟩ := List.mem_flatMap.mp h
    obtain ⟨o, e1, e2, e3, e4⟩ := inv hF hx
    obtain ⟨h1, h2, _, _⟩ := (W.mem js' P').mp hF
    dsimp only at e1 e3 e4
    subst e1
    refine ⟨by simp [h1], fun k i' j hk hi' hj => ?_, e3, e4⟩
    by_cases e : k = q
    · subst e
      rw [hi] at hi'
      cases hi'
      rw [List.getElem?_append_right (by omega), h1, Nat.sub_self] at hj
      cases hj
      exact e2
    · rw [List.getElem?_append_left (by omega)] at hj
      exact h2 k i' j (by omega) hi' hj
  · obtain ⟨js', o, rfl⟩ : ∃ js' o, js = js' ++ [o] := by
      rcases List.eq_nil_or_concat js with e | ⟨a, b, e⟩
      · subst e; simp at h1
      · exact ⟨a, b, by rw [e, List.concat_eq_append]⟩
    have hl : js'.length = q := by simpa using h1
    have hok : okN ln c N p q i o := h2 q i o (by omega) hi (by rw [List.getElem?_append_right (by omega), hl, Nat.sub_self]; rfl)
    have hpre : ∀ k i' j, k < q → is[k]? = some i' → js'[k]? = some j → okN ln c N p k i' j := fun k i' j hk hi' hj => h2 k i' j (by omega) hi' (by rw [List.getElem?_append_left (by omega)]; exact hj)
    rw [pr1_snoc] at h3
    by_cases e : q = p
    · have ho : o = N := by
        unfold okN at hok
        rwa [if_pos e] at hok
      subst ho
      rw [if_pos (by omega), Nat.one_mul] at h3
      refine List.mem_flatMap.mpr ⟨(js', P), (W.mem js' P).mpr ⟨hl, hpre, ?_, h4⟩, ?_⟩
      · rw [if_neg (by omega), h3, Nat.mul_comm]
      · unfold stepN
        rw [if_pos e]
        exact List.mem_singleton.mpr rfl
    · have e2 : (if p < q + 1 then 1 else N + 1) = if p < q then 1 else N + 1 := by
        by_cases z : p < q
        · rw [if_pos z, if_pos (by omega)]
        · rw [if_neg z, if_neg (by omega)]
      rw [e2, ← Nat.mul_assoc] at h3
      have hP : (if p < q then 1 else N + 1) * pr1 js' ≤ m := Nat.le_trans (Nat.le_mul_of_pos_right _ (by omega)) (h3 ▸ h4)
      have hpos : 0 < (if p < q then 1 else N + 1) * pr1 js' := Nat.mul_pos (by split <;> omega) (pr1_pos js')
      refine List.mem_flatMap.mpr ⟨(js', _), (W.mem js' _).mpr ⟨hl, hpre, rfl, hP⟩, ?_⟩
      unfold stepN
      rw [if_neg e]
      refine List.mem_map.mpr ⟨o, List.mem_range.mpr ?_, by rw [h3]⟩
      unfold okN at hok
      rw [if_neg e] at hok
      have : o + 1 ≤ m / ((if p < q then 1 else N + 1) * pr1 js') := (Nat.le_div_iff_mul_le hpos).mpr (by rw [Nat.mul_comm, ← h3]; exact h4)
      show o < min (bdN ln c p q i) (m / ((if p < q then 1 else N + 1) * pr1 js'))
      omega
  · refine nodup_flatMap W.nd (fun e he => ?_) (fun a ha b hb x hx hy => ?_)
    · unfold stepN
      split
      · simp
      · exact nodup_mapI List.nodup_range fun a _ b _ h => by
          injection h with h1 _
          simpa using h1
    · obtain ⟨o1, e1, _⟩ := inv ha hx
      obtain ⟨o2, e2, _⟩ := inv hb hy
      obtain ⟨l1, _, p1, _⟩ := (W.mem a.1 a.2).mp ha
      obtain ⟨l2, _, p2, _⟩ := (W.mem b.1 b.2).mp hb
      have e3 : a.1 = b.1 := (List.append_inj (e1.symm.trans e2) (by omega)).1
      have e4 : a.2 = b.2 := by rw [p1, p2, e3]
      exact Prod.ext e3 e4
end
/-- numbers that stand for members -/
def Fits (ln : Nat → Nat) (is js : List Nat) : Prop := js.length = is.length ∧ ∀ k i j : Nat, is[k]? = some i → js[k]? = some j → j < ln i
/-- the choices of a row whose newest stands ahead of p -/
structure Chs (ln : Nat → Nat) (c N m : Nat) (is : List Nat) (p : Nat) (L : List (List Nat)) : Prop where
  mem : ∀ js, js ∈ L ↔ Fits ln is js ∧ pr1 js ≤ m ∧ ∃ k, k < p ∧ is[k]? = some c ∧ js[k]? = some N
  nd : L.Nodup
section
variable {ln : Nat → Nat} {c N m : Nat}
theorem Chs.zero (is : List Nat) : Chs ln c N m is 0 [] := ⟨fun js => Iff.intro (fun h => by cases h) (fun h => by
  obtain ⟨_, _, k, h, _⟩ := h
  omega), List.nodup_nil⟩
theorem Chs.skip {is : List Nat} {p : Nat} {L : List (List Nat)} (C : Chs ln c N m is p L) (h : is[p]? ≠ some c) : Chs ln c N m is (p + 1) L := ⟨fun js => by
  rw [C.mem js]
  refine ⟨fun ⟨h1, h2, k, h3, h4⟩ => ⟨h1, h2, k, by omega, h4⟩, fun ⟨h1, h2, k, h3, h4, h5⟩ => ⟨h1, h2, k, ?_, h4, h5⟩⟩
  rcases Nat.lt_or_ge k p with q | q
  · exact q
  · have : k = p := by omega
    subst this
    exact absurd h4 h, C.nd⟩
theorem Chs.step {is : List Nat} {p : Nat} {L : List (List Nat)} (C : Chs ln c N m is p L) (hc : ln c = N + 1) (h : is[p]? = some c) {F : List (List Nat × Nat)} (W : WN ln c N m p is is.length F) : Chs ln c N m is (p + 1) (L ++ F.map (·.1)) := by
  have hp := (List.getElem?_eq_some_iff.mp h).1
  have inF : ∀ {js}, js ∈ F.map (·.1) → js.length = is.length ∧ (∀ k i j, k < is.length → is[k]? = some i → js[k]? = some j → okN ln c N p k i j) ∧ pr1 js ≤ m := fun {js} hj => by
    obtain ⟨⟨js', P⟩, hF, rfl⟩ := List.mem_map.mp hj
    obtain ⟨h1, h2, h3, h4⟩ := (W.mem js' P).mp hF
    rw [if_pos hp, Nat.one_mul] at h3
    exact ⟨h1, h2, by rw [← h3]; exact h4⟩
  have ahead : ∀ {js}, js ∈ F.map (·.1) → ∀ k, k < p → is[k]? = some c → js[k]? ≠ some N := fun {js} hj k hk hi e => by
    obtain ⟨_, h2, _⟩ := inF hj
    have := h2 k c N (by omega) hi e
    unfold okN bdN at this
    rw [if_neg (by omega), if_pos ⟨rfl, hk⟩] at this
    omega
  refine ⟨fun js => ⟨fun hj => ?_, fun ⟨h1, h2, k, h3, h4, h5⟩ => ?_⟩, List.nodup_append.mpr ⟨C.nd, nodup_mapI W.nd fun a ha b hb e => ?_, fun a ha b hb e => ?_⟩⟩
  · rcases List.mem_append.mp hj with hj | hj
    · obtain ⟨h1, h2, k, h3, h4⟩ := (C.mem js).mp hj
      exact ⟨h1, h2, k, by omega, h4⟩
    · obtain ⟨h1, h2, h3⟩ := inF hj
      refine ⟨⟨h1, fun k i j hi hk => ?_⟩, h3, p, by omega, h, ?_⟩
      · have := h2 k i j (List.getElem?_eq_some_iff.mp hi).1 hi hk
        unfold okN bdN at this
        split at this
        · next e =>
          subst e
          rw [h] at hi
          cases hi
          omega
        · split at this
          · omega
          · exact this
      · have e : js[p]? = some (js[p]'(by omega)) := List.getElem?_eq_getElem _
        have := h2 p c _ hp h e
        unfold okN at this
        rw [if_pos rfl] at this
        rw [e, this]
  · by_cases q : ∃ k, k < p ∧ is[k]? = some c ∧ js[k]? = some N
    · exact List.mem_append_left _ ((C.mem js).mpr ⟨h1, h2, q⟩)
    · have : k = p := by
        rcases Nat.lt_or_ge k p with z | z
        · exact absurd ⟨k, z, h4, h5⟩ q
        · omega
      subst this
      refine List.mem_append_right _ (List.mem_map.mpr ⟨(js, pr1 js), (W.mem js _).mpr ⟨h1.1, fun a i j ha hi hj => ?_, by rw [if_pos hp, Nat.one_mul], h2⟩, rfl⟩)
      unfold okN bdN
      by_cases e : a = k
      · subst e
        rw [if_pos rfl]
        rw [h5] at hj
        exact (Option.some.inj hj).symm
      · rw [if_neg e]
        have hl := h1.2 a i j hi hj
        by_cases e2 : i = c ∧ a < k
        · rw [if_pos e2]
          have : j ≠ N := fun z => q ⟨a, e2.2, by rw [hi, e2.1], by rw [hj, z]⟩
          rw [e2.1] at hl ⊢
          omega
        · rw [if_neg e2]
          exact hl
  · obtain ⟨_, _, p1, _⟩ := (W.mem a.1 a.2).mp ha
    obtain ⟨_, _, p2, _⟩ := (W.mem b.1 b.2).mp hb
    exact Prod.ext e (by rw [p1, p2, e])
  · subst e
    obtain ⟨_, _, k, hk, h4, h5⟩ := (C.mem a).mp ha
    exact ahead hb k hk h4 h5
end
/-! ### the entries of the front that come of them -/
/-- the terms that numbers stand for -/
def atF (f : Fnd) : List Nat → List Nat → List Tm
  | i :: is, j :: js => (match (f i)[j]? with | some t => t | none => .node 0 []) :: atF f is js
  | _, _ => []
theorem atF_at {f : Fnd} : ∀ {is js : List Nat}, Fits (fun i => (f i).length) is js → At f (atF f is js) is js
  | [], [], _ => .nil
  | [], _ :: _, h => by have := h.1; simp at this
  | _ :: _, [], h => by have := h.1; simp at this
  | i :: is, j :: js, h => by
    have hj : j < (f i).length := h.2 0 i j rfl rfl
    have e : (f i)[j]? = some ((f i)[j]) := List.getElem?_eq_getElem hj
    rw [atF, e]
    exact .cons e (atF_at ⟨by simpa using h.1, fun k a b ha hb => h.2 (k + 1) a b (by simpa using ha) (by simpa using hb)⟩)
theorem at_fits {f : Fnd} {ts : List Tm} {is js : List Nat} (h : At f ts is js) : Fits (fun i => (f i).length) is js ∧ atF f is js = ts := by
  induction h with
  | nil => exact ⟨⟨rfl, fun k i j h => by simp at h⟩, rfl⟩
  | @cons t i j ts is js e _ ih =>
    obtain ⟨⟨h1, h2⟩, h3⟩ := ih
    refine ⟨⟨by simp [h1], fun k a b ha hb => ?_⟩, by rw [atF, e, h3]⟩
    cases k with
    | zero =>
      simp at ha hb
      subst ha hb
      exact (List.getElem?_eq_some_iff.mp e).1
    | succ k => exact h2 k a b (by simpa using ha) (by simpa using hb)
structure NewP (S : List Row) (f : Fnd) (c : Nat) (u : Tm) (m : Nat) (E : List (Nat × Tm)) : Prop where
  new : ∀ e ∈ E, IsNew S f c u e
  all : ∀ (d s : Nat) (is : List Nat) (ts : List Tm) (js : List Nat), (⟨s, is, d⟩ : Row) ∈ S → At (addF f c u) ts is js → pr1 js ≤ m → (∃ k : Nat, is[k]? = some c ∧ js[k]? = some (f c).length ∧ ts[k]? = some u) → (d, Tm.node s ts) ∈ E
  nd : E.Nodup
theorem NewP.nil (f : Fnd) (c : Nat) (u : Tm) (m : Nat) : NewP [] f c u m [] := ⟨(fun e h => by cases h), (fun d s is ts js h => by cases h), List.nodup_nil⟩
theorem NewP.skip {S : List Row} {f : Fnd} {c : Nat} {u : Tm} {m : Nat} {E : List (Nat × Tm)} (N : NewP S f c u m E) {r : Row} (h : c ∉ r.is) : NewP (S ++ [r]) f c u m E := by
  refine ⟨fun e he => ?_, fun d s is ts js hr ha hp hex => ?_, N.nd⟩
  · obtain ⟨s, ts, is, h1, h2, h3⟩ := N.new e he
    exact ⟨s, ts, is, h1, List.mem_append_left _ h2, h3⟩
  · rcases List.mem_append.mp hr with hr | hr
    · exact N.all d s is ts js hr ha hp hex
    · have := List.mem_singleton.mp hr
      subst this
      obtain ⟨k, h1, _⟩ := hex
      exact absurd (List.mem_of_getElem? h1) h
theorem NewP.add {S T : List Row} {f : Fnd} {c : Nat} {u : Tm} {m : Nat} {E : List (Nat × Tm)} (N : NewP S f c u m E) (U : Uniq T) (nd' : ∀ d, (addF f c u d).Nodup) (fm : ∀ d t, t ∈ addF f c u d → Mem T t d) {r : Row} (hS : ∀ r ∈ S, r ∈ T) (hr : r ∈ T) (hn : r ∉ S) {L : List (List Nat)} (C : Chs (fun i => (addF f c u i).length) c (f c).length m r.is r.is.length L) :
    NewP (S ++ [r]) f c u m (E ++ L.map fun js => (r.c, Tm.node r.s (atF (addF f c u) r.is js))) := by
  have inL : ∀ {js}, js ∈ L → At (addF f c u) (atF (addF f c u) r.is js) r.is js := fun {js} h => atF_at ((C.mem js).mp h).1
  refine ⟨fun e he => ?_, fun d s is ts js hr' ha hp hex => ?_, List.nodup_append.mpr ⟨N.nd, nodup_mapI C.nd (fun a ha b hb e => ?_), fun a ha b hb e => ?_⟩⟩
  · rcases List.mem_append.mp he with he | he
    · obtain ⟨s, ts, is, h1, h2, h3⟩ := N.new e he
      exact ⟨s, ts, is, h1, List.mem_append_left _ h2, h3⟩
    · obtain ⟨js, hj, rfl⟩ := List.mem_map.mp he
      obtain ⟨h1, h2, k, h3, h4, h5⟩ := (C.mem js).mp hj
      have ha := inL hj
      refine ⟨r.s, _, r.is, rfl, List.mem_append_right _ (List.mem_singleton.mpr rfl), ha.kids, k, h4, ?_⟩
      have hkl : k < (atF (addF f c u) r.is js).length := by
        rw [ha.kids.len]
        exact h3
      have e : (atF (addF f c u) r.is js)[k]? = some ((atF (addF f c u) r.is js)[k]) := List.getElem?_eq_getElem hkl
      have : ∀ {ts : List Tm} {is js : List Nat}, At (addF f c u) ts is js → ∀ {k i j : Nat} {t : Tm}, is[k]? = some i → js[k]? = some j → ts[k]? = some t → (addF f c u i)[j]? = some t := by
        intro ts is js h
        induction h with
        | nil => intro k i j t h; simp at h
        | cons e _ ih =>
          intro k i j t h1 h2 h3
          cases k with
          | zero =>
            simp at h1 h2 h3
            subst h1 h2 h3
            exact e
          | succ k => exact ih (k := k) (by simpa using h1) (by simpa using h2) (by simpa using h3)
      have h6 := this ha h4 h5 e
      rw [addF_same, List.getElem?_append_right (Nat.le_refl _), Nat.sub_self] at h6
      rw [e, ← Option.some.inj h6]
  · rcases List.mem_append.mp hr' with hr' | hr'
    · exact List.mem_append_left _ (N.all d s is ts js hr' ha hp hex)
    · have := List.mem_singleton.mp hr'
      subst this
      obtain ⟨k, h1, h2, _⟩ := hex
      obtain ⟨f1, f2⟩ := at_fits ha
      refine List.mem_append_right _ (List.mem_map.mpr ⟨js, (C.mem js).mpr ⟨f1, hp, k, (List.getElem?_eq_some_iff.mp h1).1, h1, h2⟩, ?_⟩)
      show (_, Tm.node _ (atF (addF f c u) is js)) = _
      rw [f2]
  · have e1 : atF (addF f c u) r.is a = atF (addF f c u) r.is b := by
      have := congrArg Prod.snd e
      simpa using this
    have h1 := inL ha
    rw [e1] at h1
    exact h1.one nd' (inL hb)
  · subst e
    obtain ⟨js, hj, e2⟩ := List.mem_map.mp hb
    obtain ⟨s, ts', is, e1, h2, h3, _⟩ := N.new a ha
    subst e2
    injection e1 with e3 e4
    have k1 := Kids.mem fm (inL hj).kids
    have k2 := Kids.mem fm h3
    rw [e4] at k1
    have e5 := MemL.one U _ _ _ k1 k2
    have := U _ hr _ (hS _ h2) e3 e5
    rw [this] at hn
    exact hn h2
end KB
/-! W17 -/
set_option maxHeartbeats 1000000
namespace R59
open PySem PyProof.Rows L2 KB PySem.W
/-! ### the class Found: its facts, its methods by name -/
structure FTxt (K : PySem.W.Frag) (mg : Str → Option Value) (C : Addr) : Prop where
  cl : Cls K C
  nTable : NoAttr K C "table"
  nCosts : NoAttr K C "costs"
  nMany : NoAttr K C "many"
  nMembers : NoAttr K C "members"
  nWaiting : NoAttr K C "waiting"
  nCount : NoAttr K C "count"
  nUses : NoAttr K C "uses"
  heappush : mg "heappush" = some (.builtin "_heapq.heappush")
  heappop : mg "heappop" = some (.builtin "_heapq.heappop")
  max : ∃ t, mg "MAX_SIZE" = some (.int 40 t)
  mgF : mg "Found" = some (.ref C)
structure HasM (P : Program) (w : World) (K : PySem.W.Frag) (mg : Str → Option Value) (base : Heap) (CX : CXT) (C : Addr) (m : Str) (ps : List Str) (k : Nat) (sp : Sp) : Prop where
  ex : ∃ f fd, Meth K C m f ∧ Binds K fd ps [] ∧ FnOk P w K mg base CX k f fd ps sp
section
variable {X : Cx} {C : Addr} {m : Str} {ps : List Str} {k : Nat} {sp : Sp} {o e : Expr} {es : List Expr} {ta : TE} {t : TA} {apos pos : Pos}
theorem pe_mH {pl : Sem Bool} (h : HasM X.prog X.w X.K X.mg X.base CX0 C m ps k sp) (c : Cls X.K C) (hr : Room k X.A) (he : PE X o ta) (ha : PA X (e :: es) t)
    (hst : starEach (e :: es) X.env = (false, eval e X.env) :: starEach es X.env := by rfl) (hpl : (backTo pos (starEach es X.env)).any (·.1) = false := by rfl)
    (ht : eval (.Call (.Attribute o m apos) (e :: es) [] pos) X.env = (do
      let ov ← eval o X.env
      standAt apos.atName
      let (f, first) ← holding [ov] (getMethod ov m pl)
      callWith pos f first (backTo pos (starEach (e :: es) X.env)) (backToKw pos (keywordEach [] X.env))) := by rfl) :
    PE X (.Call (.Attribute o m apos) (e :: es) [] pos) (tMeth C m sp [] E0 ta t) := by
  obtain ⟨f, fd, hm, hb, F⟩ := h.ex
  exact pe_meth he c hm F hr hb .nil pass0 ha hst hpl ht
end
theorem cr_pushK (K : PySem.W.Frag) {X : Cx} (hu : X.A.units + 190 < cLine) (hK : X.K = K := by rfl) : CallR X (.builtin "_heapq.heappush") (rPush K) := by subst hK; exact cr_push hu
theorem cr_popK (K : PySem.W.Frag) {X : Cx} (hu : X.A.units + 190 < cLine) (hK : X.K = K := by rfl) : CallR X (.builtin "_heapq.heappop") (rPop K) := by subst hK; exact cr_pop hu
/-! ### its fields -/
def flds (ta ca : Addr) (m : Nat) (mp wp : Addr) (cnt : Nat) (up : Addr) : List (Str × V) := [("table", .ref ta), ("costs", .ref ca), ("many", .int (m : Nat)), ("members", .ref mp), ("waiting", .ref wp), ("count", .int (cnt : Nat)), ("uses", .ref up)]
section
variable {ta ca mp wp up : Addr} {m cnt : Nat}
theorem fl_table : (flds ta ca m mp wp cnt up).lookup ("table" : Str) = some (.ref ta) := by kernel_rfl
theorem fl_costs : (flds ta ca m mp wp cnt up).lookup ("costs" : Str) = some (.ref ca) := by kernel_rfl
theorem fl_many : (flds ta ca m mp wp cnt up).lookup ("many" : Str) = some (.int (m : Nat)) := by kernel_rfl
theorem fl_members : (flds ta ca m mp wp cnt up).lookup ("members" : Str) = some (.ref mp) := by kernel_rfl
theorem fl_waiting : (flds ta ca m mp wp cnt up).lookup ("waiting" : Str) = some (.ref wp) := by kernel_rfl
theorem fl_count : (flds ta ca m mp wp cnt up).lookup ("count" : Str) = some (.int (cnt : Nat)) := by kernel_rfl
theorem fl_uses : (flds ta ca m mp wp cnt up).lookup ("uses" : Str) = some (.ref up) := by kernel_rfl
theorem fl_put : (flds ta ca m mp wp cnt up).lookup ("put" : Str) = none := by kernel_rfl
theorem fl_spread : (flds ta ca m mp wp cnt up).lookup ("spread" : Str) = none := by kernel_rfl
theorem fl_choices : (flds ta ca m mp wp cnt up).lookup ("choices" : Str) = none := by kernel_rfl
theorem fl_with : (flds ta ca m mp wp cnt up).lookup ("with_newest" : Str) = none := by kernel_rfl
theorem fl_of : (flds ta ca m mp wp cnt up).lookup ("of" : Str) = none := by kernel_rfl
theorem fl_set (z : Nat) : putF "count" (.int (z : Nat)) (flds ta ca m mp wp cnt up) = flds ta ca m mp wp z up := by kernel_rfl
theorem fl_len : (flds ta ca m mp wp cnt up).length < 1000 := by show 7 < 1000; decide
end
/-! ### members, entries that wait -/
def big40 : Nat → Prop := fun n => 40 < n
theorem big_up : ∀ n k, big40 n → n ≤ k → big40 k := fun n k (h : 40 < n) h2 => Nat.lt_of_lt_of_le h h2
def trmD (t : Tm) : PyData := if t.size ≤ 40 then tmD t else .none
def sgn (t : Tm) : List Int := if t.size ≤ 40 then t.syms else []
theorem trmD_flat (t : Tm) : flatD (trmD t) = true := by
  unfold trmD
  split
  · exact tmD_flat t
  · rfl
theorem trmD_alike (t : Tm) : alike (trmD t) (trmD t) = true := by
  unfold trmD
  split
  · exact tmD_alike t t
  · rfl
/-- (cost, size, term, symbols) -/
def memD (co : Nat → Nat) (t : Tm) : PyData := .tuple [.int (t.cost co : Nat), .int (t.size : Nat), trmD t, .tuple ((sgn t).map .int)]
theorem memD_flat (co : Nat → Nat) (t : Tm) : flatD (memD co t) = true := by
  unfold memD
  simp only [flatD, flatDs, flat_ints, trmD_flat]
  decide
/-- (cost, size, symbols, number, class, term) -/
def entOf (co : Nat → Nat) (e : Nat × Nat × Tm) : Ent := ⟨(e.2.2.cost co : Nat), (e.2.2.size : Nat), sgn e.2.2, (e.1 : Nat), (e.2.1 : Nat), trmD e.2.2⟩
/-- what is less stands ahead -/
theorem ent_le {co : Nat → Nat} {a b : Nat × Nat × Tm} (h : entLt (entOf co b) (entOf co a) = false) : Le big40 co a.2.2 b.2.2 := by
  have h := (entLe_iff (entOf co a) (entOf co b)).mp h
  unfold entOf at h
  dsimp only at h
  unfold Le KLe
  rcases h with h | ⟨e1, h⟩
  · exact .inl (by omega)
  refine .inr ⟨by omega, ?_⟩
  rcases h with h | ⟨e2, h⟩
  · exact .inl (by omega)
  have e3 : a.2.2.size = b.2.2.size := by omega
  refine .inr ⟨e3, ?_⟩
  by_cases q : 40 < a.2.2.size
  · exact .inl q
  · refine .inr ?_
    unfold sgn at h
    rw [if_pos (by omega), if_pos (by omega)] at h
    rcases h with h | ⟨h, _⟩
    · exact .inl h
    · exact .inr h
theorem perm_lift {α β : Type} (g : α → β) {x y : List β} (h : x.Perm y) : ∀ l : List α, y = l.map g → ∃ l' : List α, x = l'.map g ∧ l'.Perm l := by
  induction h with
  | nil =>
    intro l e
    cases l with
    | nil => exact ⟨[], rfl, .refl _⟩
    | cons a l => cases e
  | cons b _ ih =>
    intro l e
    cases l with
    | nil => cases e
    | cons a l =>
      rw [List.map_cons] at e
      injection e with e1 e2
      obtain ⟨l', e3, p⟩ := ih l e2
      exact ⟨a :: l', by rw [List.map_cons, e1, e3], p.cons a⟩
  | swap b c _ =>
    intro l e
    cases l with
    | nil => cases e
    | cons a l =>
      cases l with
      | nil => cases e
      | cons a2 l =>
        rw [List.map_cons, List.map_cons] at e
        injection e with e1 e2
        injection e2 with e2 e3
        exact ⟨a2 :: a :: l, by rw [List.map_cons, List.map_cons, e1, e2, e3], .swap _ _ _⟩
  | trans _ _ ih1 ih2 =>
    intro l e
    obtain ⟨l1, e1, p1⟩ := ih2 l e
    obtain ⟨l2, e2, p2⟩ := ih1 l1 e1
    exact ⟨l2, e2, p2.trans p1⟩
/-! ### its state -/
structure FAd where
  x : Addr
  ta : Addr
  ca : Addr
  mp : Addr
  wp : Addr
  up : Addr
  ml : List Addr
structure FSt (K : PySem.W.Frag) (C : Addr) (H : Hp) (a : FAd) (T : List Row) (n m : Nat) (cs : List Int) (co : Nat → Nat) (g : Fnd) (ws : List (Nat × Nat × Tm)) (cnt : Nat) : Prop where
  ob : ∃ dx, H a.x = some (.ins C dx (flds a.ta a.ca m a.mp a.wp cnt a.up))
  hmp : H a.mp = some (.lst (a.ml.map V.ref))
  mlen : a.ml.length = n
  mat : ∀ (i : Nat) b, a.ml[i]? = some b → ∃ ys, H b = some (.lst ys) ∧ DpAll K H ys ((g i).map (memD co))
  mnd : a.ml.Nodup
  hw : ∃ vs, H a.wp = some (.lst vs) ∧ DpAll K H vs ((ws.map (entOf co)).map entD)
  ok : EntOk (ws.map (entOf co))
  wml : a.wp ∉ a.ml
  wmp : a.wp ≠ a.mp
  mpl : a.mp ∉ a.ml
  ks : ∀ e ∈ ws, e.1 ≤ cnt
  dt : Dp K H (.ref a.ta) (tabD T)
  hca : SqT K H a.ca (cs.map V.int)
section
variable {K : PySem.W.Frag} {C : Addr} {H H' : Hp} {a : FAd} {T : List Row} {n m : Nat} {cs : List Int} {co : Nat → Nat} {g : Fnd} {ws : List (Nat × Nat × Tm)} {cnt : Nat}
theorem entD_flat (co : Nat → Nat) (e : Nat × Nat × Tm) : flatD (entD (entOf co e)) = true := flat_entD (trmD_flat _)
theorem ents_flat (co : Nat → Nat) (ws : List (Nat × Nat × Tm)) : flatDs ((ws.map (entOf co)).map entD) = true := by
  rw [List.map_map]
  exact flatDs_all _ _ fun e => entD_flat co e
theorem mems_flat (co : Nat → Nat) (l : List Tm) : flatDs (l.map (memD co)) = true := flatDs_all _ _ (memD_flat co)
theorem FSt.same (h : FSt K C H a T n m cs co g ws cnt) (s : Same H H') : FSt K C H' a T n m cs co g ws cnt := by
  obtain ⟨dx, ob⟩ := h.ob
  obtain ⟨vs, w1, w2⟩ := h.hw
  refine ⟨⟨dx, s _ _ ob⟩, s _ _ h.hmp, h.mlen, fun i b e => ?_, h.mnd, ⟨vs, s _ _ w1, DpAll.tps (Tps.same s) _ _ (ents_flat co ws) w2⟩, h.ok, h.wml, h.wmp, h.mpl, h.ks, Dp.tps (Tps.same s) _ _ (tabD_flat _) h.dt, (Tps.same s) _ _ h.hca⟩
  obtain ⟨ys, h1, h2⟩ := h.mat i b e
  exact ⟨ys, s _ _ h1, DpAll.tps (Tps.same s) _ _ (mems_flat co _) h2⟩
theorem FSt.get (h : FSt K C H a T n m cs co g ws cnt) {i : Nat} (hi : i < n) : ∃ b ys, a.ml[i]? = some b ∧ atI (a.ml.map V.ref) (i : Nat) = some (.ref b) ∧ H b = some (.lst ys) ∧ DpAll K H ys ((g i).map (memD co)) := by
  have e : a.ml[i]? = some (a.ml[i]'(by rw [h.mlen]; exact hi)) := List.getElem?_eq_getElem _
  obtain ⟨ys, h1, h2⟩ := h.mat i _ e
  exact ⟨_, ys, e, atI_nat (by rw [List.getElem?_map, e]; rfl), h1, h2⟩
/-- the row at a place of the table -/
theorem tab_get (dt : Dp K H (.ref a.ta) (tabD T)) {p : Nat} {r : Row} (hr : T[p]? = some r) : ∃ xs ra ia, SqT K H a.ta xs ∧ atI xs (p : Nat) = some (.ref ra) ∧ SqT K H ra [.int (r.s : Int), .ref ia, .int (r.c : Int)] ∧ SqT K H ia (r.is.map fun i : Nat => V.int (i : Int)) := by
  obtain ⟨a', xs, ea, hta, dx⟩ := Dp.tupOf dt
  cases ea
  obtain ⟨v, hv, dr⟩ := DpAll.get dx (i := p) (d := rowD r) (by rw [List.getElem?_map, hr]; rfl)
  obtain ⟨ra, ia, rfl, h1, h2⟩ := Dp.row dr
  exact ⟨xs, ra, ia, hta, atI_nat hv, h1, h2⟩
end
theorem sum_costs (co : Nat → Nat) : ∀ ts : List Tm, (ts.map fun t => ((t.cost co : Nat) : Int)).sum = (KB.costs co ts : Nat)
  | [] => rfl
  | t :: ts => by
    rw [List.map_cons, List.sum_cons, sum_costs co ts, KB.costs]
    omega
theorem sum_szI : ∀ ts : List Tm, (ts.map fun t => ((t.size : Nat) : Int)).sum = (sizes ts : Nat)
  | [] => rfl
  | t :: ts => by
    rw [List.map_cons, List.sum_cons, sum_szI ts, sizes]
    omega
theorem Dp.mem {K : PySem.W.Frag} {H : Hp} {v : V} {co : Nat → Nat} {t : Tm} (h : Dp K H v (memD co t)) : ∃ a w sa, v = .ref a ∧ SqT K H a [.int (t.cost co : Nat), .int (t.size : Nat), w, .ref sa] ∧ Dp K H w (trmD t) ∧ SqT K H sa ((sgn t).map V.int) := by
  obtain ⟨a, ys, rfl, h1, h2⟩ := Dp.tupOf h
  cases h2 with
  | cons d1 h2 =>
  cases h2 with
  | cons d2 h2 =>
  cases h2 with
  | cons d3 h2 =>
  cases h2 with
  | cons d4 h2 =>
  cases h2
  cases d1
  cases d2
  obtain ⟨sa, rfl, q⟩ := Dp.tupInts d4
  exact ⟨a, _, sa, rfl, h1, d3, q⟩
section
variable {P : Program} {w : World} {K : PySem.W.Frag} {mg : Str → Option Value} {base : Heap} {f : Addr} {fd : FuncData}
/-! ### how_many -/
abbrev s_how_many : Stmt := top 13
abbrev N_how_many : List Str := ["table", "row"]
theorem sc_how_many : FnScope N_how_many ["table"] (defScope s_how_many) := ⟨rfl, rfl, rfl, by decide +kernel, rfl, by decide +kernel, by decide +kernel⟩
theorem ok_how (F : FnP K "how_many" "how_many" s_how_many f fd) (T : Nm mg) : FnOk P w K mg base CX0 1 f fd ["table"] (spMany K) := by
  refine F.ok sc_how_many (fun vs H Q E h => ?_) (fun cdv A outer s H vs Q E hr h => ?_)
  · obtain ⟨ta, T, n, ar, rfl, _⟩ := h
    rfl
  obtain ⟨ta, Tb, n, ar, rfl, dt, G, k⟩ := h
  have hq := hq_of hr
  obtain ⟨a, xs, ea, hta, dx⟩ := Dp.tupOf dt
  cases ea
  refine ⟨_, PSs.nox
  (pss_one (ps_ret (pe_callB (cr_maxK K rfl) (by rfl) T.max bt_max (pa_cons (pe_op (op_addK K) (pe_lc (own := [("row", 1)]) rfl sc_how_many.nd (pi_tupK K (pv 0)) (blkOk_by (N := N_how_many) (sc := defScope s_how_many) (by decide +kernel)) (fun _ _ _ _ _ => (pg_name (i := 1) sc_how_many.nd rfl (Or.inl rfl))) (fun _ _ _ _ _ => pts_nil) (fun _ _ _ _ _ => (pe_op (op_addK K) (pe_ix (ix_K K) (pv 1) pe_int (fun _ _ => rfl)) pe_int))) (pe_lst (pa_cons pe_int pa_nil))) pa_nil)))), ?_⟩
  refine ⟨_, rfl, ta, rfl, ⟨_, hta⟩, fun D hD => ?_⟩
  refine lcM (walk_tup (xs := xs)) [] hD (fun i acc H' => acc = (Tb.take i).map fun r => V.int ((r.c : Int) + 1)) rfl (fun i acc H' fr _ => (Tps.same fr.same) _ _ hta) ?_ ?_
  · rintro j y acc Hb Ha Nx hN hj fr e rfl ⟨rfl, hy⟩
    obtain ⟨dd, ed, dr⟩ := DpAll.get' (DpAll.tps (Tps.same fr.same) _ _ (flatDs_all _ _ rowD_flat) dx) hy
    rw [List.getElem?_map] at ed
    cases er : Tb[j]? with
    | none =>
      rw [er] at ed
      cases ed
    | some r =>
    rw [er] at ed
    obtain rfl := Option.some.inj ed
    obtain ⟨ra, ia, rfl, hra, hia⟩ := Dp.row dr
    have la : ((Tb.take j).map fun r => V.int ((r.c : Int) + 1)).length ≤ 42 := by
      rw [List.length_map, List.length_take]
      have := G.len
      omega
    refine ⟨rfl, ?_⟩
    refine yes_cut ?_
    refine ⟨_, rfl, ra, _, 2, _, rfl, rfl, .inr hra, rfl, .inl ⟨_, _, rfl, rfl, _, e, small_line (by omega), hN _ _ upd_same (fr.put (.inl hD)) ?_⟩⟩
    rw [take_get er, List.map_append]
    rfl
  · rintro acc Ha fr e rfl
    have lx : xs.length = Tb.length := by rw [DpAll.len dx, List.length_map]
    rw [lx, List.take_of_length_le (Nat.le_refl _)] at e
    have lT := G.len
    refine ⟨by show 1 ≤ sizeLine; decide, fun p hp => .inr (.inl ⟨D, p, _, _, rfl, rfl, (Fr.new (M := []) hp).same _ _ e, upd_same, ?_, fun p2 hp2 => ?_⟩)⟩
    · rw [List.length_map]
      exact Nat.le_of_lt (small_line (by show Tb.length + 1 ≤ 100000; omega))
    refine ⟨p2, (Tb.map fun r => (r.c : Int) + 1) ++ [0], rfl, SqL.of (by rw [upd_same, List.map_append, List.map_map]; rfl), by simp, fun mx hm hmax => ?_⟩
    have hn : mx = (n : Nat) := by
      have h3 := G.n1
      obtain ⟨r', hr', e'⟩ := G.row (c := n - 1) (by omega)
      have h2 := hmax ((r'.c : Int) + 1) (List.mem_append_left _ (List.mem_map.mpr ⟨r', hr', rfl⟩))
      rcases List.mem_append.mp hm with hm | hm
      · obtain ⟨r, hr, rfl⟩ := List.mem_map.mp hm
        have h1 := (G.cl r hr).1
        omega
      · have := List.mem_singleton.mp hm
        omega
    rw [hn]
    exact k _ ((fr.same.trans (Fr.new (M := []) hp).same).trans (Fr.new (M := []) hp2).same)
end
end R59
/-! W18 -/
set_option maxHeartbeats 1000000
namespace R59
open PySem PyProof.Rows L2 KB PySem.W
theorem at_get {g : Fnd} : ∀ {ts : List Tm} {is js : List Nat}, At g ts is js → ∀ {k i j : Nat}, is[k]? = some i → js[k]? = some j → ∃ t, ts[k]? = some t ∧ (g i)[j]? = some t := by
  intro ts is js h
  induction h with
  | nil => intro k i j h; simp at h
  | @cons t i j ts is js e _ ih =>
    intro k a b h1 h2
    cases k with
    | zero =>
      simp at h1 h2
      subst h1 h2
      exact ⟨t, rfl, e⟩
    | succ k =>
      obtain ⟨u, e1, e2⟩ := ih (k := k) (by simpa using h1) (by simpa using h2)
      exact ⟨u, by simpa using e1, e2⟩
theorem pi_zipK (K : PySem.W.Frag) {X : Cx} {e e2 : Expr} {ta : TA} {p pos tpos : Pos} {elts : List Expr} {kk : Nat} (hg : Gl X "zip") (hm : X.mg "zip" = none) (ha : PA X [e, e2] ta)
    (hs : starEach [e, e2] X.env = (false, eval e X.env) :: starEach [e2] X.env := by rfl) (hpl : (backTo pos (starEach [e2] X.env)).any (·.1) = false := by rfl) (hK : X.K = K := by rfl) :
    PI X (.Tuple elts kk tpos) (.Call (.Name "zip" p) [e, e2] [] pos) (RZ.iZipA K ta) := by
  subst hK
  exact RZ.pi_zipA hg hm ha hs hpl
theorem FSt.moved {K : PySem.W.Frag} {C : Addr} {H H' : Hp} {a : FAd} {T : List Row} {n m : Nat} {cs : List Int} {co : Nat → Nat} {g : Fnd} {ws ws' : List (Nat × Nat × Tm)} {cnt cnt' : Nat} (h : FSt K C H a T n m cs co g ws cnt) (fr : Fr [a.x, a.wp] H H')
    (ob : ∃ dx, H' a.x = some (.ins C dx (flds a.ta a.ca m a.mp a.wp cnt' a.up))) (hw : ∃ vs, H' a.wp = some (.lst vs) ∧ DpAll K H' vs ((ws'.map (entOf co)).map entD)) (ok : EntOk (ws'.map (entOf co))) (ks : ∀ e ∈ ws', e.1 ≤ cnt') : FSt K C H' a T n m cs co g ws' cnt' := by
  obtain ⟨dx, ob0⟩ := h.ob
  obtain ⟨vs, w1, w2⟩ := h.hw
  have tp : Tps K H H' := fr.tps fun b hb => by
    rcases List.mem_cons.mp hb with e | hb
    · rw [e]
      exact ⟨_, ob0, trivial⟩
    · rw [List.mem_singleton.mp hb]
      exact ⟨_, w1, trivial⟩
  have nin : ∀ {b : Addr} {xs : List V}, H b = some (.lst xs) → b ≠ a.wp → b ∉ [a.x, a.wp] := fun {b xs} e ne hb => by
    rcases List.mem_cons.mp hb with q | hb
    · rw [q, ob0] at e
      cases e
    · exact ne (List.mem_singleton.mp hb)
  refine ⟨ob, fr _ _ h.hmp (nin h.hmp h.wmp.symm), h.mlen, fun i b e => ?_, h.mnd, hw, ok, h.wml, h.wmp, h.mpl, ks, Dp.tps tp _ _ (tabD_flat _) h.dt, tp _ _ h.hca⟩
  obtain ⟨ys, h1, h2⟩ := h.mat i b e
  exact ⟨ys, fr _ _ h1 (nin h1 fun q => h.wml (q ▸ List.mem_of_getElem? e)), DpAll.tps tp _ _ (mems_flat co _) h2⟩
section
variable {P : Program} {w : World} {K : PySem.W.Frag} {mg : Str → Option Value} {base : Heap} {f C : Addr} {fd : FuncData}
/-! ### put -/
abbrev s_put : Stmt := inClass (top 15) 1
abbrev N_put : List Str := ["self", "place", "numbers", "inner", "cost", "size", "symbol", "classes", "own", "term", "symbols", "member", "one", "number"]
theorem sc_put : FnScope N_put ["self", "place", "numbers"] (defScope s_put) := ⟨rfl, rfl, rfl, by decide +kernel, rfl, by decide +kernel, by decide +kernel⟩
def spPut (K : PySem.W.Frag) (C : Addr) : Sp := fun vs H Q _ => ∃ (a : FAd) (T : List Row) (n m : Nat) (ar : Nat → Nat) (cs : List Int) (co : Nat → Nat) (g : Fnd) (ws : List (Nat × Nat × Tm)) (cnt p : Nat) (r : Row) (v : V) (ts : List Tm) (js : List Nat),
  vs = [.ref a.x, .int (p : Nat), v] ∧ FSt K C H a T n m cs co g ws cnt ∧ TabG ar T n ∧ CoOk cs co T ∧ T[p]? = some r ∧ Dp K H v (isD js) ∧ At g ts r.is js ∧ ws.length ≤ 20000 ∧
  ∀ (ws' : List (Nat × Nat × Tm)) (H' : Hp), Fr [a.x, a.wp] H H' → FSt K C H' a T n m cs co g ws' (cnt + 1) → (ws'.map (·.2)).Perm (ws.map (·.2) ++ [(r.c, Tm.node r.s ts)]) → Q .non H'
set_option maxHeartbeats 4000000 in
theorem ok_put (F : FnP K "put" "Found.put" s_put f fd) (T : Nm mg) (TF : FTxt K mg C) : FnOk P w K mg base CX0 1 f fd ["self", "place", "numbers"] (spPut K C) := by
  refine F.ok sc_put (fun vs H Q E h => ?_) (fun cdv A outer s H vs Q E hr h => ?_)
  · obtain ⟨a, T, n, m, ar, cs, co, g, ws, cnt, p, r, v, ts, js, rfl, _⟩ := h
    rfl
  obtain ⟨a, Tb, n, m, ar, cs, co, g, ws, cnt, p, r, v, ts, js, rfl, S, G, hco, hr0, dv, hat, lws, k⟩ := h
  have hq := hq_of hr
  have hu := hu_of hr
  obtain ⟨tM, hM⟩ := TF.max
  refine ⟨_, PSs.nox
  (pss_cons (ps_asg (pe_ix (ix_K K) (pe_fldK K (pv 0)) (pv 1) (fun _ _ => rfl)) (pg_tupK (n := 3) K rfl (pgs_cons (pg_name (i := 6) sc_put.nd rfl (Or.inl rfl)) (pgs_cons (pg_name (i := 7) sc_put.nd rfl (Or.inl rfl)) (pgs_cons (pg_name (i := 8) sc_put.nd rfl (Or.inl rfl)) pgs_nil)))))
      (pss_cons (ps_setLc (i := 3) (own := [("one", 12), ("number", 13)]) rfl sc_put.nd rfl rfl (sw_true rfl rfl rfl (by decide +kernel)) (pi_zipK K (by rfl) T.zip (pa_cons (pv 7) (pa_cons (pv 2) pa_nil))) (blkOk_by (N := N_put) (sc := defScope s_put) (by decide +kernel)) (fun _ _ _ _ _ => (pg_tupK (n := 2) K rfl (pgs_cons (pg_name (i := 12) sc_put.nd rfl (Or.inl rfl)) (pgs_cons (pg_name (i := 13) sc_put.nd rfl (Or.inl rfl)) pgs_nil)))) (fun _ _ _ _ _ => pts_nil) (fun _ _ _ _ _ => (pe_ix (ix_K K) (pe_ix (ix_K K) (pe_fldK K (pv 0)) (pv 12) (fun _ _ => rfl)) (pv 13) (fun _ _ => rfl))))
      (pss_cons (ps_set (i := 4) sc_put.nd rfl (Or.inl rfl) (pe_op (op_addK K) (pe_ix (ix_K K) (pe_fldK K (pv 0)) (pv 6) (fun _ _ => rfl)) (pe_callB (cr_sumK K rfl) (by rfl) T.sum bt_sum (pa_cons (pe_lc (own := [("member", 11)]) rfl sc_put.nd (pi_listK K (pv 3)) (blkOk_by (N := N_put) (sc := defScope s_put) (by decide +kernel)) (fun _ _ _ _ _ => (pg_name (i := 11) sc_put.nd rfl (Or.inl rfl))) (fun _ _ _ _ _ => pts_nil) (fun _ _ _ _ _ => (pe_ix (ix_K K) (pv 11) pe_int (fun _ _ => rfl)))) pa_nil))))
      (pss_cons (ps_set (i := 5) sc_put.nd rfl (Or.inl rfl) (pe_op (op_addK K) pe_int (pe_callB (cr_sumK K rfl) (by rfl) T.sum bt_sum (pa_cons (pe_lc (own := [("member", 11)]) rfl sc_put.nd (pi_listK K (pv 3)) (blkOk_by (N := N_put) (sc := defScope s_put) (by decide +kernel)) (fun _ _ _ _ _ => (pg_name (i := 11) sc_put.nd rfl (Or.inl rfl))) (fun _ _ _ _ _ => pts_nil) (fun _ _ _ _ _ => (pe_ix (ix_K K) (pv 11) pe_int (fun _ _ => rfl)))) pa_nil))))
      (pss_cons (ps_asg (pe_tup (pa_cons pe_non (pa_cons (pe_tup pa_nil) pa_nil))) (pg_tupK (n := 2) K rfl (pgs_cons (pg_name (i := 9) sc_put.nd rfl (Or.inl rfl)) (pgs_cons (pg_name (i := 10) sc_put.nd rfl (Or.inl rfl)) pgs_nil))))
      (pss_cons (ps_if (pt_cmpR op_le (pv 5) (pe_glob (v := .int 40) (by rfl) hM ⟨_, rfl⟩) (nomark _)) (pss_cons (ps_par (i := 9) (j := 10) rfl sc_put.nd rfl rfl (by decide) rfl rfl (pa_cons (pe_op (op_addK K) (pe_tup (pa_cons (pv 6) pa_nil)) (pe_callTy (cr_tupleK K) (by rfl) T.tuple bt_tuple (pa_cons (pe_lc (own := [("member", 11)]) rfl sc_put.nd (pi_listK K (pv 3)) (blkOk_by (N := N_put) (sc := defScope s_put) (by decide +kernel)) (fun _ _ _ _ _ => (pg_name (i := 11) sc_put.nd rfl (Or.inl rfl))) (fun _ _ _ _ _ => pts_nil) (fun _ _ _ _ _ => (pe_ix (ix_K K) (pv 11) pe_int (fun _ _ => rfl)))) pa_nil))) (pa_cons (pe_tup (pa_cons (pv 6) pa_nil)) pa_nil)) rfl)
      (pss_one (ps_for PassesOwn.never rfl (pi_listK K (pv 3)) (pg_name (i := 11) sc_put.nd rfl (Or.inl rfl)) (pss_one (ps_set (i := 10) sc_put.nd rfl (Or.inl rfl) (pe_op (op_addK K) (pv 10) (pe_ix (ix_K K) (pv 11) pe_int (fun _ _ => rfl)))))))) pss_nil)
      (pss_cons (ps_fld (pv 0) (pe_op (op_addK K) (pe_fldK K (pv 0)) pe_int) rfl)
      (pss_one (ps_expr (pe_callBfun (cr_pushK K hq) (by rfl) TF.heappush (pa_cons (pe_fldK K (pv 0)) (pa_cons (pe_tup (pa_cons (pv 4) (pa_cons (pv 5) (pa_cons (pv 10) (pa_cons (pe_fldK K (pv 0)) (pa_cons (pv 8) (pa_cons (pv 9) pa_nil))))))) pa_nil)))))))))))), ?_⟩
  obtain ⟨dx, ob⟩ := S.ob
  have hrT := List.mem_of_getElem? hr0
  have ilen : r.is.length ≤ 3 := by
    rw [G.a3 r hrT]
    exact G.ar3 _
  obtain ⟨xs, ra, ia, hta, era, hra, hia⟩ := tab_get S.dt hr0
  obtain ⟨na, js', rfl, hna, djs⟩ := Dp.tupOf dv
  have ejs : js' = js.map fun i : Nat => V.int (i : Int) := by
    have := DpAll.of_ints (ns := js.map fun i : Nat => (i : Int)) (by rw [List.map_map]; exact djs)
    rw [List.map_map] at this
    exact this
  subst ejs
  -- symbol, classes, own = self.table[place]
  refine ⟨_, rfl, a.x, C, dx, _, _, rfl, ob, TF.cl, TF.nTable, fl_table, _, rfl, a.ta, _, _, _, rfl, rfl, .inr hta, era, ra, _, rfl, hra, rfl, _, _, rfl, _, _, rfl, _, _, rfl, rfl, ?_⟩
  dsimp only [gName]
  have jl : js.length = r.is.length := hat.len
  have tl : ts.length = r.is.length := hat.kids.len
  -- inner
  refine seq_cut (fun σ H' => ∃ (ip : Addr) (ys : List V), σ = [some (.ref a.x), some (.int (p : Nat)), some (.ref na), some (.ref ip), none, none, some (.int (r.s : Nat)), some (.ref ia), some (.int (r.c : Nat)), none, none, none, none, none] ∧ Same H H' ∧ H ip = none ∧ H' ip = some (.lst ys) ∧ DpAll K H' ys (ts.map (memD co))) (fun Z hZ => ?_) ?_
  · refine ⟨_, rfl, _, rfl, ia, na, _, _, rfl, .inr ⟨hia, hna, fun D hD => ?_⟩⟩
    refine lcM (walk_zipT (xs := r.is.map fun i : Nat => V.int (i : Int)) (ys := js.map fun i : Nat => V.int (i : Int)) (n := r.is.length) (by rw [List.length_map, List.length_map]; omega)) [] hD (fun i acc H' => DpAll K H' acc ((ts.take i).map (memD co))) .nil (fun i acc H' fr _ => ⟨(Tps.same fr.same) _ _ hia, (Tps.same fr.same) _ _ hna⟩) ?_ ?_
    · rintro i x acc Ha Hb Nx hN hi fr e dA ⟨q, y, z, rfl, hq0, rfl, ey, ez⟩
      obtain ⟨i0, ei, rfl⟩ := get_natI ey
      obtain ⟨j0, ej, rfl⟩ := get_natI ez
      obtain ⟨t, et, eg⟩ := at_get hat ei ej
      have sq : Same Ha (upd Ha q (.tup [.int (i0 : Nat), .int (j0 : Nat)])) := (Fr.new (M := []) hq0).same
      have hqq : SqT K (upd Ha q (.tup [.int (i0 : Nat), .int (j0 : Nat)])) q [.int (i0 : Nat), .int (j0 : Nat)] := SqT.of upd_same
      generalize upd Ha q (.tup [.int (i0 : Nat), .int (j0 : Nat)]) = Hb at sq hqq
      have sb := fr.same.trans sq
      have Sb := S.same sb
      have hin : i0 < n := (G.cl r hrT).2 i0 (List.mem_of_getElem? ei)
      obtain ⟨b, zs, hb, eb, hzs, dzs⟩ := Sb.get hin
      obtain ⟨vm, evm, dvm⟩ := DpAll.get dzs (i := j0) (d := memD co t) (by rw [List.getElem?_map, eg]; rfl)
      refine ⟨q, _, rfl, hqq, rfl, _, _, rfl, _, _, rfl, rfl, rfl, ?_⟩
      refine yes_cut ?_
      refine ⟨_, rfl, a.x, C, dx, _, _, rfl, sb _ _ ob, TF.cl, TF.nMembers, fl_members, _, rfl, a.mp, _, _, _, rfl, rfl, .inl (SqL.of Sb.hmp), eb, _, rfl, b, zs, _, _, rfl, rfl, .inl (SqL.of hzs), atI_nat evm, ?_⟩
      have eD := sq _ _ e
      have tm : Tps K Hb (upd Hb D (.lst (acc ++ [vm]))) := .mut eD trivial
      have lacc : acc.length ≤ 3 := by
        rw [DpAll.len dA, List.length_map, List.length_take]
        omega
      refine ⟨acc, eD, small_line (by omega), hN _ _ upd_same ((fr.trans (.of_same sq)).put (.inl hD)) ?_⟩
      rw [take_get et, List.map_append]
      exact DpAll.app (DpAll.tps ((Tps.same sq).trans tm) _ _ (mems_flat co _) dA) (.cons (Dp.tps tm _ _ (memD_flat co _) dvm) .nil)
    · rintro acc Ha fr e dA
      rw [← tl, List.take_of_length_le (Nat.le_refl _)] at dA
      exact hZ _ _ ⟨D, acc, rfl, fr.same, hD, e, dA⟩
  rintro _ H1 ⟨ip, ys, rfl, s1, ip0, hip, dys⟩
  have S1 := S.same s1
  have ob1 := s1 _ _ ob
  have ly : ys.length = ts.length := by rw [DpAll.len dys, List.length_map]
  -- the ints of a field of the members
  have part : ∀ {Hx : Hp}, Same H1 Hx → ∀ {j : Nat} {y : V}, ys[j]? = some y → ∃ t b w sa, ts[j]? = some t ∧ y = .ref b ∧ SqT K Hx b [.int (t.cost co : Nat), .int (t.size : Nat), w, .ref sa] ∧ Dp K Hx w (trmD t) ∧ SqT K Hx sa ((sgn t).map V.int) := fun {Hx} sx {j y} hy => by
    obtain ⟨dd, ed, dr⟩ := DpAll.get' (DpAll.tps (Tps.same sx) _ _ (mems_flat co _) dys) hy
    rw [List.getElem?_map] at ed
    cases et : ts[j]? with
    | none =>
      rw [et] at ed
      cases ed
    | some t =>
    rw [et] at ed
    obtain rfl := Option.some.inj ed
    obtain ⟨b, w, sa, rfl, h1, h2, h3⟩ := Dp.mem dr
    exact ⟨t, b, w, sa, rfl, rfl, h1, h2, h3⟩
  -- cost
  refine seq_cut (fun σ H' => σ = [some (.ref a.x), some (.int (p : Nat)), some (.ref na), some (.ref ip), some (.int ((Tm.node r.s ts).cost co : Nat)), none, some (.int (r.s : Nat)), some (.ref ia), some (.int (r.c : Nat)), none, none, none, none, none] ∧ Same H1 H') (fun Z hZ => ?_) ?_
  · refine ⟨_, rfl, a.x, C, dx, _, _, rfl, ob1, TF.cl, TF.nCosts, fl_costs, _, rfl, a.ca, _, (r.s : Nat), _, rfl, rfl, .inr S1.hca, atI_nat (by rw [List.getElem?_map, hco r hrT]; rfl), ?_⟩
    refine ⟨_, rfl, ip, rfl, ⟨_, SqL.of hip⟩, fun D hD => ?_⟩
    refine lcM (walk_list (xs := ys)) [] hD (fun i acc H' => acc = (ts.take i).map fun t => V.int (t.cost co : Nat)) rfl (fun i acc H' fr _ => SqL.of (fr.same _ _ hip)) ?_ ?_
    · rintro j y acc Hb Ha Nx hN hj fr e rfl ⟨rfl, hy⟩
      obtain ⟨t, b, w, sa, et, rfl, hb, _, _⟩ := part fr.same hy
      refine ⟨rfl, ?_⟩
      refine yes_cut ?_
      refine ⟨_, rfl, b, _, 0, _, rfl, rfl, .inr hb, rfl, _, e, small_line (by rw [List.length_map, List.length_take]; omega), hN _ _ upd_same (fr.put (.inl hD)) ?_⟩
      rw [take_get et, List.map_append]
      rfl
    · rintro acc Ha fr e rfl
      rw [ly, List.take_of_length_le (Nat.le_refl _)] at e
      refine ⟨D, ts.map fun t => ((t.cost co : Nat) : Int), rfl, SqL.of (by rw [e, List.map_map]; rfl), .inl ⟨_, _, rfl, rfl, ?_⟩⟩
      refine hZ _ _ ⟨?_, fr.same⟩
      rw [sum_costs, Tm.cost]
      dsimp only
      have : ((co r.s : Nat) : Int) + (KB.costs co ts : Nat) = ((co r.s + KB.costs co ts : Nat) : Int) := by omega
      rw [this]
      rfl
  rintro _ H2 ⟨rfl, s2⟩
  -- size
  have hip2 := s2 _ _ hip
  refine seq_cut (fun σ H' => σ = [some (.ref a.x), some (.int (p : Nat)), some (.ref na), some (.ref ip), some (.int ((Tm.node r.s ts).cost co : Nat)), some (.int ((Tm.node r.s ts).size : Nat)), some (.int (r.s : Nat)), some (.ref ia), some (.int (r.c : Nat)), none, none, none, none, none] ∧ Same H2 H') (fun Z hZ => ?_) ?_
  · refine ⟨_, rfl, ip, rfl, ⟨_, SqL.of hip2⟩, fun D hD => ?_⟩
    refine lcM (walk_list (xs := ys)) [] hD (fun i acc H' => acc = (ts.take i).map fun t => V.int (t.size : Nat)) rfl (fun i acc H' fr _ => SqL.of (fr.same _ _ hip2)) ?_ ?_
    · rintro j y acc Hb Ha Nx hN hj fr e rfl ⟨rfl, hy⟩
      obtain ⟨t, b, w, sa, et, rfl, hb, _, _⟩ := part (s2.trans fr.same) hy
      refine ⟨rfl, ?_⟩
      refine yes_cut ?_
      refine ⟨_, rfl, b, _, 1, _, rfl, rfl, .inr hb, rfl, _, e, small_line (by rw [List.length_map, List.length_take]; omega), hN _ _ upd_same (fr.put (.inl hD)) ?_⟩
      rw [take_get et, List.map_append]
      rfl
    · rintro acc Ha fr e rfl
      rw [ly, List.take_of_length_le (Nat.le_refl _)] at e
      refine ⟨D, ts.map fun t => ((t.size : Nat) : Int), rfl, SqL.of (by rw [e, List.map_map]; rfl), .inl ⟨_, _, rfl, rfl, ?_⟩⟩
      refine hZ _ _ ⟨?_, fr.same⟩
      rw [sum_szI, Tm.size]
      dsimp only
      have : (1 : Int) + (sizes ts : Nat) = ((1 + sizes ts : Nat) : Int) := by omega
      rw [this]
      rfl
  rintro _ H3 ⟨rfl, s3⟩
  have s13 := s2.trans s3
  have hip3 := s13 _ _ hip
  -- term, symbols = (None, ())
  refine ⟨Nat.zero_le _, fun ep hep => ⟨by show 2 ≤ sizeLine; decide, fun t0 ht0 => ?_⟩⟩
  have s4' : Same H3 (upd H3 ep (.tup [])) := (Fr.new (M := []) hep).same
  have hep4' : SqT K (upd H3 ep (.tup [])) ep [] := SqT.of upd_same
  generalize upd H3 ep (.tup []) = H4' at s4' hep4' ht0
  have s4'' : Same H4' (upd H4' t0 (.tup [.non, .ref ep])) := (Fr.new (M := []) ht0).same
  have ht04 : SqT K (upd H4' t0 (.tup [.non, .ref ep])) t0 [.non, .ref ep] := SqT.of upd_same
  generalize upd H4' t0 (.tup [.non, .ref ep]) = H4 at s4'' ht04
  have s4 := s4'.trans s4''
  have hep4 := (Tps.same s4'') _ _ hep4'
  refine ⟨t0, _, rfl, ht04, rfl, _, _, rfl, _, _, rfl, rfl, ?_⟩
  dsimp only [gName]
  have s14 := s13.trans s4
  have hip4 := s4 _ _ hip3
  -- if size <= MAX_SIZE
  refine seq_cut (fun σ H' => ∃ (tv : V) (sp : Addr) (v11 v12 v13 : Option V), σ = [some (.ref a.x), some (.int (p : Nat)), some (.ref na), some (.ref ip), some (.int ((Tm.node r.s ts).cost co : Nat)), some (.int ((Tm.node r.s ts).size : Nat)), some (.int (r.s : Nat)), some (.ref ia), some (.int (r.c : Nat)), some tv, some (.ref sp), v11, v12, v13] ∧ Same H4 H' ∧
      Dp K H' tv (trmD (Tm.node r.s ts)) ∧ SqT K H' sp ((sgn (Tm.node r.s ts)).map V.int)) (fun Z hZ => ?_) ?_
  · refine ⟨_, rfl, _, _, rfl, rfl, _, rfl, ?_⟩
    refine dec_b (fun hsz => ?_) (fun hsz => ?_)
    rotate_left
    · refine hZ _ _ ⟨.non, ep, _, _, _, rfl, Same.refl _, ?_, ?_⟩
      · unfold trmD
        rw [if_neg (by omega)]
        exact .non
      · unfold sgn
        rw [if_neg (by omega)]
        exact hep4
    have hsz' : (Tm.node r.s ts).size ≤ 40 := by omega
    have small : ∀ t ∈ ts, t.size ≤ 40 := fun t ht => by
      have := sizes_mem ht
      rw [Tm.size] at hsz'
      omega
    -- term, symbols = ((symbol,) + tuple(..), (symbol,))
    refine seq_cut (fun σ H' => ∃ (tv : V) (sp : Addr), σ = [some (.ref a.x), some (.int (p : Nat)), some (.ref na), some (.ref ip), some (.int ((Tm.node r.s ts).cost co : Nat)), some (.int ((Tm.node r.s ts).size : Nat)), some (.int (r.s : Nat)), some (.ref ia), some (.int (r.c : Nat)), some tv, some (.ref sp), none, none, none] ∧ Same H4 H' ∧
      Dp K H' tv (tmD (Tm.node r.s ts)) ∧ SqT K H' sp [.int (r.s : Nat)]) (fun Z hZ => ?_) ?_
    · refine ⟨_, rfl, by show 1 ≤ sizeLine; decide, fun t1 ht1 => ?_⟩
      have q1 : Same H4 (upd H4 t1 (.tup [.int (r.s : Nat)])) := (Fr.new (M := []) ht1).same
      have w1 : SqT K (upd H4 t1 (.tup [.int (r.s : Nat)])) t1 [.int (r.s : Nat)] := SqT.of upd_same
      generalize upd H4 t1 (.tup [.int (r.s : Nat)]) = H5 at q1 w1
      have hip5 := q1 _ _ hip4
      refine ⟨_, rfl, ip, rfl, ⟨_, SqL.of hip5⟩, fun D hD => ?_⟩
      refine lcM (walk_list (xs := ys)) [] hD (fun i acc H' => DpAll K H' acc ((ts.take i).map tmD)) .nil (fun i acc H' fr _ => SqL.of (fr.same _ _ hip5)) ?_ ?_
      · rintro j y acc Hb Ha Nx hN hj fr e dA ⟨rfl, hy⟩
        obtain ⟨t, b, w, sa, et, rfl, hb, dw, _⟩ := part ((s14.trans q1).trans fr.same) hy
        have hts := small t (List.mem_of_getElem? et)
        unfold trmD at dw
        rw [if_pos hts] at dw
        refine ⟨rfl, ?_⟩
        refine yes_cut ?_
        have lacc : acc.length ≤ 3 := by
          rw [DpAll.len dA, List.length_map, List.length_take]
          omega
        have tm := Tps.mut (K := K) (o := .lst (acc ++ [w])) e trivial
        refine ⟨_, rfl, b, _, 2, _, rfl, rfl, .inr hb, rfl, _, e, small_line (by omega), hN _ _ upd_same (fr.put (.inl hD)) ?_⟩
        rw [take_get et, List.map_append]
        exact DpAll.app (DpAll.tps tm _ _ (flatDs_all _ _ tmD_flat) dA) (.cons (Dp.tps tm _ _ (tmD_flat _) dw) .nil)
      · rintro acc H6 fr e dA
        rw [ly, List.take_of_length_le (Nat.le_refl _)] at dA
        have lacc : acc.length ≤ 3 := by
          rw [DpAll.len dA, List.length_map]
          omega
        refine ⟨D, acc, rfl, .inl ⟨SqL.of e, fun t2 ht2 => ?_⟩⟩
        have q2 : Same H6 (upd H6 t2 (.tup acc)) := (Fr.new (M := []) ht2).same
        have w2 : SqT K (upd H6 t2 (.tup acc)) t2 acc := SqT.of upd_same
        have dA2 := DpAll.tps (Tps.same q2) _ _ (flatDs_all _ _ tmD_flat) dA
        generalize upd H6 t2 (.tup acc) = H7 at q2 w2 dA2
        have q57 := fr.same.trans q2
        have w17 := (Tps.same (K := K) q57) _ _ w1
        have fin : ∀ {Hx : Hp} {tp : Addr}, Same H7 Hx → SqT K Hx tp (V.int (r.s : Nat) :: acc) → ∀ tp2, Hx tp2 = none → Z [some (.ref a.x), some (.int (p : Nat)), some (.ref na), some (.ref ip), some (.int ((Tm.node r.s ts).cost co : Nat)), some (.int ((Tm.node r.s ts).size : Nat)), some (.int (r.s : Nat)), some (.ref ia), some (.int (r.c : Nat)), some (.ref tp), some (.ref tp2), none, none, none] (upd Hx tp2 (.tup [.int (r.s : Nat)])) := fun {Hx tp} sx htp tp2 h2 => by
          have q3 : Same Hx (upd Hx tp2 (.tup [.int (r.s : Nat)])) := (Fr.new (M := []) h2).same
          refine hZ _ _ ⟨.ref tp, tp2, rfl, ((q1.trans q57).trans sx).trans q3, ?_, SqT.of upd_same⟩
          rw [tmD, tmDs_map]
          exact .tup ((Tps.same q3) _ _ htp) (.cons (.int _) (DpAll.tps (Tps.same (sx.trans q3)) _ _ (flatDs_all _ _ tmD_flat) dA2))
        refine .inr (.inr ⟨t1, t2, _, _, rfl, rfl, w17, w2, ?_, (fun e => by cases e), fun _ e2 => ?_, fun _ _ tp htp => ?_⟩)
        · simp only [List.length_cons, List.length_nil]
          exact Nat.le_of_lt (small_line (by omega))
        · subst e2
          exact ⟨_, rfl, by show 1 ≤ sizeLine; decide, fun tp2 h2 => ⟨_, _, rfl, fin (Same.refl _) w17 tp2 h2⟩⟩
        · have q3 : Same H7 (upd H7 tp (.tup ([V.int (r.s : Nat)] ++ acc))) := (Fr.new (M := []) htp).same
          exact ⟨_, rfl, by show 1 ≤ sizeLine; decide, fun tp2 h2 => ⟨_, _, rfl, fin q3 (SqT.of upd_same) tp2 h2⟩⟩
    rintro _ H5 ⟨tv, sp, rfl, s5, dtv, hsp⟩
    have hip5 := s5 _ _ hip4
    refine ⟨_, rfl, ip, rfl, ⟨_, SqL.of hip5⟩, ?_⟩
    refine for_it (walk_list (xs := ys)) (fun i σ H' => ∃ (sp : Addr) (v11 : Option V), σ = [some (.ref a.x), some (.int (p : Nat)), some (.ref na), some (.ref ip), some (.int ((Tm.node r.s ts).cost co : Nat)), some (.int ((Tm.node r.s ts).size : Nat)), some (.int (r.s : Nat)), some (.ref ia), some (.int (r.c : Nat)), some tv, some (.ref sp), v11, none, none] ∧ Same H5 H' ∧
      SqT K H' sp (((r.s : Int) :: symsL (ts.take i)).map V.int))
      ⟨sp, _, rfl, Same.refl _, hsp⟩ (fun i σ H' _ ⟨_, _, _, s', _⟩ => SqL.of (s' _ _ hip5)) ?_ ?_
    · rintro j y _ Hb Ha hj ⟨sp, v11, rfl, sb, hsp⟩ ⟨rfl, hy⟩
      obtain ⟨t, b, w, sa, et, rfl, hb, _, hsa⟩ := part ((s14.trans s5).trans sb) hy
      have hts := small t (List.mem_of_getElem? et)
      unfold sgn at hsa
      rw [if_pos hts] at hsa
      have hadd : ∀ q, SqT K q sp (((r.s : Int) :: symsL (ts.take j)).map V.int) → True := fun _ _ => trivial
      have l1 := symsL_len (ts.take j)
      have l2 := syms_len t
      have l3 := Tm.size_pos t
      refine ⟨_, rfl, _, rfl, b, _, 3, _, rfl, rfl, .inr hb, rfl, .inr (.inr ⟨sp, sa, _, _, rfl, rfl, hsp, hsa, ?_, (fun e => by simp at e), fun _ e => ?_, fun _ _ q hq0 => ?_⟩)⟩
      · have l4 : sizes (ts.take j) ≤ 3 * 40 := by
          have h1 := sizes_le (k := 40) (ts := ts.take j) fun t ht => small t (List.mem_of_mem_take ht)
          have h2 : (ts.take j).length * 40 ≤ 3 * 40 := Nat.mul_le_mul_right _ (by rw [List.length_take]; omega)
          omega
        simp only [List.length_map, List.length_cons]
        exact Nat.le_of_lt (small_line (by omega))
      · have := congrArg List.length e
        rw [List.length_map] at this
        simp at this
        rw [this] at l2
        simp at l2
        omega
      · refine ⟨q, _, rfl, sb.trans (Fr.new (M := []) hq0).same, SqT.of ?_⟩
        rw [upd_same, take_get et, symsL_app]
        simp [symsL]
    · rintro _ H6 ⟨sp, v11, rfl, s6, hsp⟩
      rw [ly, List.take_of_length_le (Nat.le_refl _)] at hsp
      refine hZ _ _ ⟨tv, sp, _, _, _, rfl, s5.trans s6, ?_, ?_⟩
      · unfold trmD
        rw [if_pos hsz']
        exact Dp.tps (Tps.same s6) _ _ (tmD_flat _) dtv
      · unfold sgn
        rw [if_pos hsz', Tm.syms]
        exact hsp
  rintro _ H5 ⟨tv, sp, v11, v12, v13, rfl, s5, dtv, hsp⟩
  have s05 := (s1.trans s14).trans s5
  have S5 := S.same s05
  have ob5 := s05 _ _ ob
  -- self.count = self.count + 1
  refine ⟨_, rfl, a.x, C, dx, _, _, rfl, ob5, TF.cl, TF.nCount, fl_count, .inl ⟨_, _, rfl, rfl, _, rfl, a.x, C, dx, _, rfl, ob5, TF.cl, TF.nCount, fl_len, ?_⟩⟩
  have ec : ((cnt : Nat) : Int) + 1 = ((cnt + 1 : Nat) : Int) := by omega
  dsimp only
  rw [ec, fl_set]
  have fr6 : Fr [a.x] H5 (upd H5 a.x (.ins C dx (flds a.ta a.ca m a.mp a.wp (cnt + 1) a.up))) := (Fr.refl _ _).put (.inr (by simp))
  have hx6 : upd H5 a.x (.ins C dx (flds a.ta a.ca m a.mp a.wp (cnt + 1) a.up)) a.x = some (.ins C dx (flds a.ta a.ca m a.mp a.wp (cnt + 1) a.up)) := upd_same
  have tp6 : Tps K H5 (upd H5 a.x (.ins C dx (flds a.ta a.ca m a.mp a.wp (cnt + 1) a.up))) := .mut ob5 trivial
  generalize upd H5 a.x (.ins C dx (flds a.ta a.ca m a.mp a.wp (cnt + 1) a.up)) = H6 at fr6 hx6 tp6
  obtain ⟨vs, hwp5, dvs5⟩ := S5.hw
  have wx : a.wp ≠ a.x := fun e => by
    rw [e, ob5] at hwp5
    cases hwp5
  have hwp6 := fr6 _ _ hwp5 (by simp [wx])
  refine ⟨_, rfl, a.x, C, dx, _, _, rfl, hx6, TF.cl, TF.nWaiting, fl_waiting, _, rfl, _, rfl, _, rfl, _, rfl, a.x, C, dx, _, _, rfl, hx6, TF.cl, TF.nCount, fl_count, _, rfl, _, rfl, by show 6 ≤ sizeLine; decide, fun t6 ht6 => ?_⟩
  have s7 : Same H6 (upd H6 t6 (.tup [.int ((Tm.node r.s ts).cost co : Nat), .int ((Tm.node r.s ts).size : Nat), .ref sp, .int ((cnt + 1 : Nat) : Int), .int (r.c : Nat), tv])) := (Fr.new (M := []) ht6).same
  have ht7 : SqT K (upd H6 t6 (.tup [.int ((Tm.node r.s ts).cost co : Nat), .int ((Tm.node r.s ts).size : Nat), .ref sp, .int ((cnt + 1 : Nat) : Int), .int (r.c : Nat), tv])) t6 [.int ((Tm.node r.s ts).cost co : Nat), .int ((Tm.node r.s ts).size : Nat), .ref sp, .int ((cnt + 1 : Nat) : Int), .int (r.c : Nat), tv] := SqT.of upd_same
  generalize upd H6 t6 (.tup [.int ((Tm.node r.s ts).cost co : Nat), .int ((Tm.node r.s ts).size : Nat), .ref sp, .int ((cnt + 1 : Nat) : Int), .int (r.c : Nat), tv]) = H7 at s7 ht7
  have tp7 := tp6.trans (Tps.same s7)
  have hwp7 := s7 _ _ hwp6
  have lvs : vs.length = ws.length := by rw [DpAll.len dvs5, List.length_map, List.length_map]
  refine ⟨a.wp, vs, ws.map (entOf co), .ref t6, entOf co (cnt + 1, r.c, Tm.node r.s ts), rfl, hwp7, DpAll.tps tp7 _ _ (ents_flat co ws) dvs5, S.ok, ?_, fun e' he' => ?_, trmD_alike _, trmD_flat _, small_line (by omega), fun vs' es' pm ok' dv' => ?_⟩
  · exact .tup ht7 (.cons (.int _) (.cons (.int _) (.cons (.tup (tp7 _ _ hsp) (DpAll.ints _)) (.cons (.int _) (.cons (.int _) (.cons (Dp.tps tp7 _ _ (trmD_flat _) dtv) .nil))))))
  · obtain ⟨e, he, rfl⟩ := List.mem_map.mp he'
    have := S.ks e he
    show ((e.1 : Nat) : Int) ≠ ((cnt + 1 : Nat) : Int)
    omega
  obtain ⟨ws', rfl, pw⟩ := perm_lift (entOf co) (y := ws.map (entOf co) ++ [entOf co (cnt + 1, r.c, Tm.node r.s ts)]) pm (ws ++ [(cnt + 1, r.c, Tm.node r.s ts)]) (by rw [List.map_append]; rfl)
  have fr8 : Fr [a.x, a.wp] H (upd H7 a.wp (.lst vs')) := (((Fr.of_same s05).trans (fr6.less (by simp))).trans (.of_same s7)).put (.inr (by simp))
  refine k ws' _ fr8 (S.moved fr8 ⟨dx, by rw [upd_ne wx.symm]; exact s7 _ _ hx6⟩ ⟨vs', upd_same, dv'⟩ ok' fun e he => ?_) ?_
  · rcases List.mem_append.mp (pw.mem_iff.mp he) with h | h
    · have := S.ks e h
      omega
    · rw [List.mem_singleton.mp h]
      exact Nat.le_refl _
  · have := pw.map (·.2)
    rw [List.map_append] at this
    exact this
end
end R59
/-! W19 -/
set_option maxHeartbeats 1000000
namespace R59
open PySem PyProof.Rows L2 KB PySem.W
def fnD (e : List Nat × Nat) : PyData := .tuple [isD e.1, .int (e.2 : Nat)]
theorem fnD_flat (e : List Nat × Nat) : flatD (fnD e) = true := by
  unfold fnD
  simp only [flatD, flatDs, flat_nats]
  decide
theorem Dp.nats {K : PySem.W.Frag} {H : Hp} {v : V} {js : List Nat} (h : Dp K H v (isD js)) : ∃ a, v = .ref a ∧ SqT K H a (js.map fun i : Nat => V.int (i : Int)) := by
  rw [isD_ints] at h
  obtain ⟨a, rfl, q⟩ := Dp.tupInts h
  rw [List.map_map] at q
  exact ⟨a, rfl, q⟩
theorem Dp.fn {K : PySem.W.Frag} {H : Hp} {v : V} {e : List Nat × Nat} (h : Dp K H v (fnD e)) : ∃ a na, v = .ref a ∧ SqT K H a [.ref na, .int (e.2 : Nat)] ∧ SqT K H na (e.1.map fun i : Nat => V.int (i : Int)) := by
  obtain ⟨a, ys, rfl, h1, h2⟩ := Dp.tupOf h
  cases h2 with
  | cons d1 h2 =>
  cases h2 with
  | cons d2 h2 =>
  cases h2
  cases d2
  obtain ⟨na, rfl, q⟩ := Dp.nats d1
  exact ⟨a, na, rfl, h1, q⟩
theorem stepN_len {ln : Nat → Nat} {c N m p q i : Nat} (hm : m ≤ 20) (e : List Nat × Nat) : (stepN ln c N m p q i e).length ≤ 20 := by
  unfold stepN
  split
  · simp
  · rw [List.length_map, List.length_range]
    have := Nat.div_le_self m e.2
    omega
theorem flatMap_len {α β : Type} {g : α → List β} {k : Nat} (h : ∀ a, (g a).length ≤ k) : ∀ l : List α, (l.flatMap g).length ≤ l.length * k
  | [] => by simp
  | a :: l => by
    rw [List.flatMap_cons, List.length_append, List.length_cons, Nat.succ_mul]
    have := h a
    have := flatMap_len h l
    omega
section
variable {P : Program} {w : World} {K : PySem.W.Frag} {mg : Str → Option Value} {base : Heap} {f C : Addr} {fd : FuncData}
/-! ### with_newest -/
abbrev s_with_newest : Stmt := inClass (top 15) 4
abbrev N_with_newest : List Str := ["self", "classes", "own", "number", "spot", "found", "place", "one", "many", "longer", "numbers", "product", "top", "other"]
theorem sc_with_newest : FnScope N_with_newest ["self", "classes", "own", "number", "spot"] (defScope s_with_newest) := ⟨rfl, rfl, rfl, by decide +kernel, rfl, by decide +kernel, by decide +kernel⟩
def spWith (K : PySem.W.Frag) (C : Addr) : Sp := fun vs H Q _ => ∃ (a : FAd) (T : List Row) (n m : Nat) (cs : List Int) (co : Nat → Nat) (g : Fnd) (ws : List (Nat × Nat × Tm)) (cnt : Nat) (is : List Nat) (ia : Addr) (c N p : Nat),
  vs = [.ref a.x, .ref ia, .int (c : Nat), .int (N : Nat), .int (p : Nat)] ∧ FSt K C H a T n m cs co g ws cnt ∧ SqT K H ia (is.map fun i : Nat => V.int (i : Int)) ∧ is.length ≤ 3 ∧ (∀ i ∈ is, i < n) ∧ (g c).length = N + 1 ∧ N + 1 ≤ m ∧ m ≤ 20 ∧
  ∀ (rp : Addr) (zs : List V) (F : List (List Nat × Nat)) (H' : Hp), Same H H' → H rp = none → H' rp = some (.lst zs) → DpAll K H' zs ((F.map (·.1)).map isD) → WN (fun i => (g i).length) c N m p is is.length F → F.length ≤ 8000 → Q (.ref rp) H'
set_option maxHeartbeats 4000000 in
theorem ok_with (F : FnP K "with_newest" "Found.with_newest" s_with_newest f fd) (T : Nm mg) (TF : FTxt K mg C) : FnOk P w K mg base CX0 1 f fd ["self", "classes", "own", "number", "spot"] (spWith K C) := by
  refine F.ok sc_with_newest (fun vs H Q E h => ?_) (fun cdv A outer s H vs Q E hr h => ?_)
  · obtain ⟨a, T, n, m, cs, co, g, ws, cnt, is, ia, c, N, p, rfl, _⟩ := h
    rfl
  obtain ⟨a, Tb, n, m, cs, co, g, ws, cnt, is, ia, c, N, p, rfl, S, hia, il, iln, hcN, hNm, hm, k⟩ := h
  have hq := hq_of hr
  have hu := hu_of hr
  refine ⟨_, PSs.nox
  (pss_cons (ps_set (i := 5) sc_with_newest.nd rfl (Or.inl rfl) (pe_lst (pa_cons (pe_tup (pa_cons (pe_tup pa_nil) (pa_cons (pe_op (op_addK K) (pv 3) pe_int) pa_nil))) pa_nil)))
      (pss_cons (ps_for PassesOwn.never rfl (pi_enumT (by rfl) T.enumerate (pa_cons (pv 1) pa_nil)) (pg_tupK (n := 2) K rfl (pgs_cons (pg_name (i := 6) sc_with_newest.nd rfl (Or.inl rfl)) (pgs_cons (pg_name (i := 7) sc_with_newest.nd rfl (Or.inl rfl)) pgs_nil))) (pss_cons (ps_set (i := 8) sc_with_newest.nd rfl (Or.inl rfl) (pe_op op_sub (pe_callB (cr_lenK K) (by rfl) T.len bt_len (pa_cons (pe_ix (ix_K K) (pe_fldK K (pv 0)) (pv 7) (fun _ _ => rfl)) pa_nil)) (pe_callTy call_int1 (by rfl) T.int bt_int (pa_cons (pe_and (pe_cmpR (op_eqK K hq) (pv 7) (pv 2) (nomark _)) (pe_one (pe_cmpR (op_ltK K hq) (pv 6) (pv 4) (nomark _)))) pa_nil))))
      (pss_cons (ps_set (i := 9) sc_with_newest.nd rfl (Or.inl rfl) (pe_lst pa_nil))
      (pss_cons (ps_for PassesOwn.never rfl (pi_listK K (pv 5)) (pg_tupK (n := 2) K rfl (pgs_cons (pg_name (i := 10) sc_with_newest.nd rfl (Or.inr rfl)) (pgs_cons (pg_name (i := 11) sc_with_newest.nd rfl (Or.inr rfl)) pgs_nil))) (pss_one (ps_if (pt_cmpR (op_eqK K hq) (pv 6) (pv 4) (nomark _)) (pss_one (ps_expr (pe_appK K (pv 9) (pe_tup (pa_cons (pe_op (op_addK K) (pv 10) (pe_tup (pa_cons (pv 3) pa_nil))) (pa_cons (pv 11) pa_nil)))))) (pss_cons (ps_set (i := 12) sc_with_newest.nd rfl (Or.inl rfl) (pe_callB (call_min2 rfl) (by rfl) T.min bt_min (pa_cons (pv 8) (pa_cons (pe_op op_fdiv (pe_fldK K (pv 0)) (pv 11)) pa_nil))))
      (pss_one (ps_expr (pe_bm PySem.F.plainAttrs_list PySem.F.slot_list_extend PySem.F.type_list_extend mt_extend (pv 9) (pa_cons (pe_lc (own := [("other", 13)]) rfl sc_with_newest.nd (pi_range1 (by rfl) T.range (pa_cons (pv 12) pa_nil)) (blkOk_by (N := N_with_newest) (sc := defScope s_with_newest) (by decide +kernel)) (fun _ _ _ _ _ => (pg_name (i := 13) sc_with_newest.nd rfl (Or.inl rfl))) (fun _ _ _ _ _ => pts_nil) (fun _ _ _ _ _ => (pe_tup (pa_cons (pe_op (op_addK K) (pv 10) (pe_tup (pa_cons (pv 13) pa_nil))) (pa_cons (pe_op (op_mulK K) (pv 11) (pe_op (op_addK K) (pv 13) pe_int)) pa_nil))))) pa_nil))))))))
      (pss_one (ps_set (i := 5) sc_with_newest.nd rfl (Or.inl rfl) (pv 9)))))))
      (pss_one (ps_ret (pe_lc (own := [("numbers", 10), ("product", 11)]) rfl sc_with_newest.nd (pi_listK K (pv 5)) (blkOk_by (N := N_with_newest) (sc := defScope s_with_newest) (by decide +kernel)) (fun _ _ _ _ _ => (pg_tupK (n := 2) K rfl (pgs_cons (pg_name (i := 10) sc_with_newest.nd rfl (Or.inl rfl)) (pgs_cons (pg_name (i := 11) sc_with_newest.nd rfl (Or.inl rfl)) pgs_nil)))) (fun _ _ _ _ _ => pts_nil) (fun _ _ _ _ _ => (pv 10))))))), ?_⟩
  obtain ⟨dx, ob⟩ := S.ob
  -- found = [((), number + 1)]
  refine seq_cut (fun σ H' => ∃ (fp : Addr) (xs : List V), σ = [some (.ref a.x), some (.ref ia), some (.int (c : Nat)), some (.int (N : Nat)), some (.int (p : Nat)), some (.ref fp), none, none, none, none, none, none, none, none] ∧ Same H H' ∧ H fp = none ∧ H' fp = some (.lst xs) ∧ DpAll K H' xs ([([], N + 1)].map fnD)) (fun Z hZ => ?_) ?_
  · refine ⟨Nat.zero_le _, fun t1 h1 => ⟨_, rfl, .inl ⟨_, _, rfl, rfl, ?_⟩⟩⟩
    dsimp only
    have e1 : ((N : Nat) : Int) + 1 = ((N + 1 : Nat) : Int) := by omega
    rw [e1]
    have s1 : Same H (upd H t1 (.tup [])) := (Fr.new (M := []) h1).same
    have w1 : SqT K (upd H t1 (.tup [])) t1 [] := SqT.of upd_same
    generalize upd H t1 (.tup []) = H1 at s1 w1
    refine ⟨by show 2 ≤ sizeLine; decide, fun t2 h2 => ?_⟩
    have s2 : Same H1 (upd H1 t2 (.tup [.ref t1, .int ((N + 1 : Nat) : Int)])) := (Fr.new (M := []) h2).same
    have w2 : SqT K (upd H1 t2 (.tup [.ref t1, .int ((N + 1 : Nat) : Int)])) t2 [.ref t1, .int ((N + 1 : Nat) : Int)] := SqT.of upd_same
    generalize upd H1 t2 (.tup [.ref t1, .int ((N + 1 : Nat) : Int)]) = H2 at s2 w2
    refine ⟨by show 1 ≤ sizeLine; decide, fun l h3 => ?_⟩
    have s3 : Same H2 (upd H2 l (.lst [.ref t2])) := (Fr.new (M := []) h3).same
    refine hZ _ _ ⟨l, _, rfl, (s1.trans s2).trans s3, (s1.trans s2).free h3, upd_same, .cons ?_ .nil⟩
    exact .tup ((Tps.same s3) _ _ w2) (.cons (.tup ((Tps.same (s2.trans s3)) _ _ w1) .nil) (.cons (.int _) .nil))
  rintro _ H1 ⟨fp, xs, rfl, s1, fp0, hfp, dxs⟩
  refine seq_cut (fun σ H' => ∃ (fp : Addr) (xs : List V) (F : List (List Nat × Nat)) (v6 v7 v8 v9 v10 v11 v12 v13 : Option V), σ = [some (.ref a.x), some (.ref ia), some (.int (c : Nat)), some (.int (N : Nat)), some (.int (p : Nat)), some (.ref fp), v6, v7, v8, v9, v10, v11, v12, v13] ∧ Same H H' ∧ H' fp = some (.lst xs) ∧ DpAll K H' xs (F.map fnD) ∧ WN (fun i => (g i).length) c N m p is is.length F ∧ F.length ≤ 20 ^ is.length) (fun Z hZ => ?_) ?_
  · refine ⟨_, rfl, ia, _, rfl, (Tps.same s1) _ _ hia, ?_⟩
    refine for_it (walk_enumT (xs := is.map fun i : Nat => V.int (i : Int))) (fun q σ H' => ∃ (fp : Addr) (xs : List V) (F : List (List Nat × Nat)) (v6 v7 v8 v9 v10 v11 v12 v13 : Option V), σ = [some (.ref a.x), some (.ref ia), some (.int (c : Nat)), some (.int (N : Nat)), some (.int (p : Nat)), some (.ref fp), v6, v7, v8, v9, v10, v11, v12, v13] ∧ Same H H' ∧ H' fp = some (.lst xs) ∧ DpAll K H' xs (F.map fnD) ∧ WN (fun i => (g i).length) c N m p is q F ∧ F.length ≤ 20 ^ q)
      ⟨fp, xs, _, _, _, _, _, _, _, _, _, rfl, s1, hfp, dxs, WN.start is hNm, (by simp)⟩ ?_ ?_ ?_
    · rintro q σ H' _ ⟨_, _, _, _, _, _, _, _, _, _, _, rfl, s', _⟩
      exact (Tps.same s') _ _ hia
    · clear hfp dxs fp0 s1
      rintro q v _ He Hf hql ⟨fp, xs, F, v6, v7, v8, v9, v10, v11, v12, v13, rfl, se, hfp, dxs, W, lF⟩ ⟨t', y1, y2, rfl, ht0, rfl, e1, e2⟩
      rw [List.length_map] at hql
      cases e1
      obtain ⟨i1, ei1, rfl⟩ := get_natI e2
      have hin := iln i1 (List.mem_of_getElem? ei1)
      have se1 : Same He (upd He t' (.tup [.int (q : Nat), .int (i1 : Nat)])) := (Fr.new (M := []) ht0).same
      have ht1 : SqT K (upd He t' (.tup [.int (q : Nat), .int (i1 : Nat)])) t' [.int (q : Nat), .int (i1 : Nat)] := SqT.of upd_same
      generalize upd He t' (.tup [.int (q : Nat), .int (i1 : Nat)]) = Hf at se1 ht1
      have sf := se.trans se1
      have hfpf := se1 _ _ hfp
      have dxf := DpAll.tps (Tps.same se1) _ _ (flatDs_all _ _ fnD_flat) dxs
      have Sf := S.same sf
      have obf := sf _ _ ob
      refine ⟨t', _, rfl, ht1, rfl, _, _, rfl, _, _, rfl, rfl, ?_⟩
      dsimp only [gName]
      -- many = len(self.members[one]) - int(one == own and place < spot)
      refine seq_cut (fun σ H' => H' = Hf ∧ σ = [some (.ref a.x), some (.ref ia), some (.int (c : Nat)), some (.int (N : Nat)), some (.int (p : Nat)), some (.ref fp), some (.int (q : Nat)), some (.int (i1 : Nat)), some (.int (bdN (fun i => (g i).length) c p q i1 : Nat)), v9, v10, v11, v12, v13]) (fun Z hZ => ?_) ?_
      · obtain ⟨b, ys, hb, eb, hys, dys⟩ := Sf.get hin
        have lys : ys.length = (g i1).length := by rw [DpAll.len dys, List.length_map]
        refine ⟨_, rfl, a.x, C, dx, _, _, rfl, obf, TF.cl, TF.nMembers, fl_members, _, rfl, a.mp, _, _, _, rfl, rfl, .inl (SqL.of Sf.hmp), eb, b, ys, rfl, .inl (SqL.of hys), ?_⟩
        refine ⟨_, rfl, _, rfl, .inl ⟨rfl, _, rfl, ?_⟩⟩
        have fin : ∀ k : Int, k = (bdN (fun i => (g i).length) c p q i1 : Nat) → Z [some (.ref a.x), some (.ref ia), some (.int (c : Nat)), some (.int (N : Nat)), some (.int (p : Nat)), some (.ref fp), some (.int (q : Nat)), some (.int (i1 : Nat)), some (.int k), v9, v10, v11, v12, v13] Hf := fun k e => by
          subst e
          exact hZ _ _ ⟨rfl, rfl⟩
        refine dec_b (fun h1 => ?_) (fun h1 => ?_)
        · have h1' : i1 = c := by
            have := vint_inj h1
            omega
          refine ⟨_, rfl, _, rfl, .inl ⟨_, _, rfl, rfl, .inr ⟨_, rfl, _, _, rfl, rfl, ?_⟩⟩⟩
          refine fin _ ?_
          unfold bdN
          dsimp only
          by_cases h2 : q < p
          · rw [if_pos (decide_eq_true (show ((q : Nat) : Int) < (p : Nat) by omega)), if_pos ⟨h1', h2⟩]
            subst h1'
            omega
          · rw [if_neg (show ¬ (decide (((q : Nat) : Int) < (p : Nat)) = true) from fun e => h2 (by have := of_decide_eq_true e; omega)), if_neg (fun e => h2 e.2)]
            omega
        · refine .inr ⟨_, rfl, _, _, rfl, rfl, ?_⟩
          refine fin _ ?_
          unfold bdN
          dsimp only
          rw [if_neg (show ¬ (false = true) by decide), if_neg (fun e => h1 (by rw [e.1]))]
          omega
      rintro _ Hf ⟨rfl, rfl⟩
      -- longer = []
      refine ⟨Nat.zero_le _, fun D hD => ?_⟩
      dsimp only [gName]
      have lx : xs.length = F.length := by rw [DpAll.len dxs, List.length_map]
      have q2 : q ≤ 2 := by omega
      have lF2 : F.length ≤ 400 := Nat.le_trans lF (Nat.le_trans (Nat.pow_le_pow_right (by decide) q2) (by decide))
      have sD : Same Hf (upd Hf D (.lst [])) := (Fr.new (M := []) hD).same
      -- for numbers, product in found
      refine seq_cut (fun σ H' => ∃ (zs : List V) (v10 v11 v12 v13 : Option V), σ = [some (.ref a.x), some (.ref ia), some (.int (c : Nat)), some (.int (N : Nat)), some (.int (p : Nat)), some (.ref fp), some (.int (q : Nat)), some (.int (i1 : Nat)), some (.int (bdN (fun i => (g i).length) c p q i1 : Nat)), some (.ref D), v10, v11, v12, v13] ∧ Same Hf H' ∧ H' D = some (.lst zs) ∧ DpAll K H' zs ((F.flatMap (stepN (fun i => (g i).length) c N m p q i1)).map fnD)) (fun Z hZ => ?_) ?_
      · refine ⟨_, rfl, fp, rfl, ⟨_, SqL.of (sD _ _ hfpf)⟩, ?_⟩
        refine for_it (walk_list (xs := xs)) (fun j σ H' => ∃ (zs : List V) (v10 v11 v12 v13 : Option V), σ = [some (.ref a.x), some (.ref ia), some (.int (c : Nat)), some (.int (N : Nat)), some (.int (p : Nat)), some (.ref fp), some (.int (q : Nat)), some (.int (i1 : Nat)), some (.int (bdN (fun i => (g i).length) c p q i1 : Nat)), some (.ref D), v10, v11, v12, v13] ∧ Same Hf H' ∧ H' D = some (.lst zs) ∧ DpAll K H' zs (((F.take j).flatMap (stepN (fun i => (g i).length) c N m p q i1)).map fnD))
          ⟨[], _, _, _, _, rfl, sD, upd_same, .nil⟩ ?_ ?_ ?_
        · rintro j σ H' _ ⟨_, _, _, _, _, _, s', _⟩
          exact SqL.of (s' _ _ hfpf)
        · rintro j v _ Hz Hg hj ⟨zs, v10, v11, v12, v13, rfl, sg, hDg, dz⟩ ⟨rfl, hv⟩
          obtain ⟨dd, ed, dr⟩ := DpAll.get' (DpAll.tps (Tps.same sg) _ _ (flatDs_all _ _ fnD_flat) dxf) hv
          rw [List.getElem?_map] at ed
          cases er : F[j]? with
          | none =>
            rw [er] at ed
            cases ed
          | some en =>
          rw [er] at ed
          obtain rfl := Option.some.inj ed
          obtain ⟨ra, na, rfl, hra, hna⟩ := Dp.fn dr
          obtain ⟨js, Pr⟩ := en
          dsimp only at hra hna
          obtain ⟨w1, w2, w3, w4⟩ := (W.mem js Pr).mp (List.mem_of_getElem? er)
          have Pr1 : 1 ≤ Pr := by
            rw [w3]
            exact Nat.mul_pos (by split <;> omega) (pr1_pos js)
          have lz : zs.length ≤ 400 * 20 := by
            rw [DpAll.len dz, List.length_map]
            refine Nat.le_trans (flatMap_len (stepN_len hm) _) (Nat.mul_le_mul_right _ ?_)
            rw [List.length_take]
            omega
          have nxt : ∀ {Hx : Hp} {zs' : List V} {l : List (List Nat × Nat)} (w10 w11 w12 w13 : Option V), Same Hf Hx → stepN (fun i => (g i).length) c N m p q i1 (js, Pr) = l → Hx D = some (.lst (zs ++ zs')) → DpAll K Hx (zs ++ zs') (((F.take j).flatMap (stepN (fun i => (g i).length) c N m p q i1)).map fnD ++ l.map fnD) → ∃ (zs : List V) (v10 v11 v12 v13 : Option V), [some (V.ref a.x), some (.ref ia), some (.int (c : Nat)), some (.int (N : Nat)), some (.int (p : Nat)), some (.ref fp), some (.int (q : Nat)), some (.int (i1 : Nat)), some (.int (bdN (fun i => (g i).length) c p q i1 : Nat)), some (.ref D), w10, w11, w12, w13] = [some (V.ref a.x), some (.ref ia), some (.int (c : Nat)), some (.int (N : Nat)), some (.int (p : Nat)), some (.ref fp), some (.int (q : Nat)), some (.int (i1 : Nat)), some (.int (bdN (fun i => (g i).length) c p q i1 : Nat)), some (.ref D), v10, v11, v12, v13] ∧ Same Hf Hx ∧ Hx D = some (.lst zs) ∧ DpAll K Hx zs (((F.take (j + 1)).flatMap (stepN (fun i => (g i).length) c N m p q i1)).map fnD) := by
            intro Hx zs' l w10 w11 w12 w13 h1 h2 h3 h4
            refine ⟨_, _, _, _, _, rfl, h1, h3, ?_⟩
            rw [take_get er, List.flatMap_append, List.map_append, List.flatMap_singleton, h2]
            exact h4
          refine ⟨ra, _, rfl, hra, rfl, _, _, rfl, _, _, rfl, rfl, ?_⟩
          dsimp only [gName]
          refine ⟨_, rfl, _, rfl, .inl ⟨rfl, _, rfl, ?_⟩⟩
          refine dec_b (fun h1 => ?_) (fun h1 => ?_)
          · have h1' : q = p := by
              have := vint_inj h1
              omega
            -- longer.append((numbers + (number,), product))
            refine ⟨_, rfl, .inl ⟨rfl, _, SqL.of hDg⟩, ?_⟩
            refine a_cut (fun v H' => ∃ t2 q1, v = .ref t2 ∧ Same Hg H' ∧ SqT K H' t2 [.ref q1, .int (Pr : Nat)] ∧ SqT K H' q1 ((js ++ [N]).map fun i : Nat => V.int (i : Int))) (fun Z2 hZ2 => ?_) ?_
            · refine a_cut (fun v H' => ∃ q, v = .ref q ∧ Same Hg H' ∧ SqT K H' q ((js ++ [N]).map fun i : Nat => V.int (i : Int))) (fun Z hZ => ?_) ?_
              · refine ⟨_, rfl, _, rfl, by show 1 ≤ sizeLine; decide, fun t1 ht1 => ?_⟩
                have sq : Same Hg (upd Hg t1 (.tup [.int (N : Nat)])) := (Fr.new (M := []) ht1).same
                have wq : SqT K (upd Hg t1 (.tup [.int (N : Nat)])) t1 [.int (N : Nat)] := SqT.of upd_same
                generalize upd Hg t1 (.tup [.int (N : Nat)]) = Hi at sq wq
                refine .inr (.inr ⟨na, t1, _, _, rfl, rfl, (Tps.same sq) _ _ hna, wq, ?_, fun e => ?_, (fun _ e => by cases e), fun _ _ t2 ht2 => ?_⟩)
                · rw [List.length_map, w1]
                  exact Nat.le_of_lt (small_line (by show q + 1 ≤ 100000; omega))
                · have : js = [] := List.map_eq_nil_iff.mp e
                  subst this
                  exact hZ _ _ ⟨t1, rfl, sq, wq⟩
                · refine hZ _ _ ⟨t2, rfl, sq.trans (Fr.new (M := []) ht2).same, SqT.of ?_⟩
                  rw [upd_same, List.map_append]
                  rfl
              rintro _ Hi ⟨q1, rfl, si, hq1⟩
              refine ⟨_, rfl, by show 2 ≤ sizeLine; decide, fun t2 ht2 => ?_⟩
              have s2 : Same Hi (upd Hi t2 (.tup [.ref q1, .int (Pr : Nat)])) := (Fr.new (M := []) ht2).same
              exact hZ2 _ _ ⟨t2, q1, rfl, si.trans s2, SqT.of upd_same, (Tps.same s2) _ _ hq1⟩
            rintro _ Hj ⟨t2, q1, rfl, sgj, wt2, hq1⟩
            have hDj := sgj _ _ hDg
            have tm : Tps K Hj (upd Hj D (.lst (zs ++ [.ref t2]))) := .mut hDj trivial
            refine ⟨D, _, _, rfl, rfl, hDj, small_line (by omega), ?_⟩
            refine nxt (l := [(js ++ [N], Pr)]) _ _ _ _ (((Fr.of_same (M := []) (sg.trans sgj)).put (.inl hD)).same) ?_ upd_same ?_
            · unfold stepN
              rw [if_pos h1']
            · refine DpAll.app (DpAll.tps ((Tps.same sgj).trans tm) _ _ (flatDs_all _ _ fnD_flat) dz) (.cons ?_ .nil)
              exact .tup (tm _ _ wt2) (.cons (Dp.of_nats (tm _ _ hq1)) (.cons (.int _) .nil))
          · have h1' : ¬ q = p := fun e => h1 (by rw [e])
            -- top = min(many, self.many // product)
            have obg := (sf.trans sg) _ _ ob
            refine seq_cut (fun σ H' => H' = Hg ∧ σ = [some (.ref a.x), some (.ref ia), some (.int (c : Nat)), some (.int (N : Nat)), some (.int (p : Nat)), some (.ref fp), some (.int (q : Nat)), some (.int (i1 : Nat)), some (.int (bdN (fun i => (g i).length) c p q i1 : Nat)), some (.ref D), some (.ref na), some (.int (Pr : Nat)), some (.int (min (bdN (fun i => (g i).length) c p q i1) (m / Pr) : Nat)), v13]) (fun Z hZ => ?_) ?_
            · refine ⟨_, rfl, _, rfl, a.x, C, dx, _, _, rfl, obg, TF.cl, TF.nMany, fl_many, _, rfl, _, _, rfl, rfl, ⟨by omega, by omega⟩, _, _, rfl, ?_⟩
              refine hZ _ _ ⟨rfl, ?_⟩
              have : (if ((m : Nat) : Int) / (Pr : Nat) < (bdN (fun i => (g i).length) c p q i1 : Nat) then ((m : Nat) : Int) / (Pr : Nat) else (bdN (fun i => (g i).length) c p q i1 : Nat)) = ((min (bdN (fun i => (g i).length) c p q i1) (m / Pr) : Nat) : Int) := by
                have e : ((m : Nat) : Int) / (Pr : Nat) = ((m / Pr : Nat) : Int) := rfl
                rw [e]
                split <;> omega
              rw [this]
              rfl
            rintro _ Hg ⟨rfl, rfl⟩
            have tmin : min (bdN (fun i => (g i).length) c p q i1) (m / Pr) ≤ 20 := by
              have := Nat.div_le_self m Pr
              omega
            -- longer.extend(..)
            generalize hmn : min (bdN (fun i => (g i).length) c p q i1) (m / Pr) = mn at tmin
            have hst : stepN (fun i => (g i).length) c N m p q i1 (js, Pr) = (List.range mn).map fun o => (js ++ [o], Pr * (o + 1)) := by
              unfold stepN
              rw [if_neg h1', ← hmn]
            have Pr20 : Pr ≤ 20 := by omega
            refine ⟨_, rfl, .inl ⟨rfl, _, SqL.of hDg⟩, _, rfl, _, rfl, by omega, by omega, fun D2 hD2 => ?_⟩
            refine lcM (walk_range (lo := 0) (n := ((mn : Nat) : Int).toNat)) [] hD2 (fun o acc H' => DpAll K H' acc (((List.range o).map fun o => (js ++ [o], Pr * (o + 1))).map fnD)) .nil (fun _ _ _ _ _ => trivial) ?_ ?_
            · rintro o x acc Hz Hi Nx hN ho fr e dA ⟨rfl, rfl⟩
              refine ⟨rfl, ?_⟩
              have e0 : (0 : Int) + ((o : Nat) : Int) = ((o : Nat) : Int) := by omega
              dsimp only
              rw [e0]
              have ho20 : o < 20 := by omega
              refine yes_cut ?_
              refine a_cut (fun v H' => ∃ q, v = .ref q ∧ Same Hi H' ∧ SqT K H' q ((js ++ [o]).map fun i : Nat => V.int (i : Int))) (fun Z hZ => ?_) ?_
              · refine ⟨_, rfl, _, rfl, by show 1 ≤ sizeLine; decide, fun t1 ht1 => ?_⟩
                have sq : Same Hi (upd Hi t1 (.tup [.int (o : Nat)])) := (Fr.new (M := []) ht1).same
                have wq : SqT K (upd Hi t1 (.tup [.int (o : Nat)])) t1 [.int (o : Nat)] := SqT.of upd_same
                have hna2 := (Tps.same (K := K) (fr.same.trans sq)) _ _ hna
                generalize upd Hi t1 (.tup [.int (o : Nat)]) = Hk at sq wq hna2
                refine .inr (.inr ⟨na, t1, _, _, rfl, rfl, hna2, wq, ?_, fun e => ?_, (fun _ e => by cases e), fun _ _ t2 ht2 => ?_⟩)
                · rw [List.length_map, w1]
                  exact Nat.le_of_lt (small_line (by show q + 1 ≤ 100000; omega))
                · have : js = [] := List.map_eq_nil_iff.mp e
                  subst this
                  exact hZ _ _ ⟨t1, rfl, sq, wq⟩
                · refine hZ _ _ ⟨t2, rfl, sq.trans (Fr.new (M := []) ht2).same, SqT.of ?_⟩
                  rw [upd_same, List.map_append]
                  rfl
              rintro _ Hj ⟨q1, rfl, si, hq1⟩
              refine ⟨_, rfl, _, rfl, .inl ⟨_, _, rfl, rfl, .inl ⟨_, _, rfl, rfl, .inl ⟨?_, ?_⟩, ?_⟩⟩⟩
              · show -(2 ^ 64) < ((Pr : Nat) : Int)
                omega
              · show ((Pr : Nat) : Int) < 2 ^ 64
                omega
              dsimp only
              have e3 : ((Pr : Nat) : Int) * (((o : Nat) : Int) + 1) = ((Pr * (o + 1) : Nat) : Int) := by
                rw [Int.natCast_mul]
                rfl
              rw [e3]
              refine ⟨by show 2 ≤ sizeLine; decide, fun t2 ht2 => ?_⟩
              have s2 : Same Hj (upd Hj t2 (.tup [.ref q1, .int ((Pr * (o + 1) : Nat) : Int)])) := (Fr.new (M := []) ht2).same
              have wt2 : SqT K (upd Hj t2 (.tup [.ref q1, .int ((Pr * (o + 1) : Nat) : Int)])) t2 [.ref q1, .int ((Pr * (o + 1) : Nat) : Int)] := SqT.of upd_same
              generalize upd Hj t2 (.tup [.ref q1, .int ((Pr * (o + 1) : Nat) : Int)]) = Hl at s2 wt2
              have sil := si.trans s2
              have eD := sil _ _ e
              have tm : Tps K Hl (upd Hl D2 (.lst (acc ++ [.ref t2]))) := .mut eD trivial
              have lacc : acc.length ≤ 20 := by
                rw [DpAll.len dA, List.length_map, List.length_map, List.length_range]
                omega
              refine ⟨acc, eD, small_line (by omega), hN _ _ upd_same ((fr.trans (.of_same sil)).put (.inl hD2)) ?_⟩
              rw [List.range_succ, List.map_append, List.map_append]
              refine DpAll.app (DpAll.tps ((Tps.same sil).trans tm) _ _ (flatDs_all _ _ fnD_flat) dA) (.cons ?_ .nil)
              exact .tup (tm _ _ wt2) (.cons (Dp.of_nats (tm _ _ ((Tps.same s2) _ _ hq1))) (.cons (.int _) .nil))
            · rintro acc Hi fr e dA
              have em : ((mn : Nat) : Int).toNat = mn := by omega
              rw [em] at dA
              have hDi := fr.same _ _ hDg
              have sgi := sg.trans fr.same
              have tm : Tps K Hi (upd Hi D (.lst (zs ++ acc))) := .mut hDi trivial
              have lacc : acc.length ≤ 20 := by
                rw [DpAll.len dA, List.length_map, List.length_map, List.length_range]
                omega
              refine ⟨D, D2, zs, acc, rfl, rfl, hDi, e, Nat.le_of_lt (small_line (by omega)), ?_⟩
              refine nxt _ _ _ _ (((Fr.of_same (M := []) sgi).put (.inl hD)).same) hst upd_same ?_
              exact DpAll.app (DpAll.tps ((Tps.same fr.same).trans tm) _ _ (flatDs_all _ _ fnD_flat) dz) (DpAll.tps tm _ _ (flatDs_all _ _ fnD_flat) dA)
        · rintro _ Hg ⟨zs, v10, v11, v12, v13, rfl, sg, hDg, dz⟩
          rw [lx, List.take_of_length_le (Nat.le_refl _)] at dz
          exact hZ _ _ ⟨zs, _, _, _, _, rfl, sg, hDg, dz⟩
      rintro _ Hg ⟨zs, v10', v11', v12', v13', rfl, sg, hDg, dz⟩
      -- found = longer
      refine ⟨_, rfl, D, zs, _, _, _, _, _, _, _, _, _, rfl, sf.trans sg, hDg, dz, W.step ei1, ?_⟩
      rw [Nat.pow_succ]
      exact Nat.le_trans (flatMap_len (stepN_len hm) _) (Nat.mul_le_mul_right _ lF)
    · rintro _ He ⟨fp, xs, F, v6, v7, v8, v9, v10, v11, v12, v13, rfl, se, hfp, dxs, W, lF⟩
      rw [List.length_map] at W lF
      exact hZ _ _ ⟨fp, xs, F, _, _, _, _, _, _, _, _, rfl, se, hfp, dxs, W, lF⟩
  rintro _ H2 ⟨fp, xs, F, v6, v7, v8, v9, v10, v11, v12, v13, rfl, s2, hfp, dxs, W, lF⟩
  have lF8 : F.length ≤ 8000 := Nat.le_trans lF (Nat.le_trans (Nat.pow_le_pow_right (by decide) il) (by decide))
  have lx : xs.length = F.length := by rw [DpAll.len dxs, List.length_map]
  -- return [numbers for numbers, product in found]
  refine ⟨_, rfl, fp, rfl, ⟨_, SqL.of hfp⟩, fun D hD => ?_⟩
  refine lcM (walk_list (xs := xs)) [] hD (fun i acc H' => DpAll K H' acc (((F.take i).map (·.1)).map isD)) .nil (fun i acc H' fr _ => SqL.of (fr.same _ _ hfp)) ?_ ?_
  · rintro j v acc Hd Hc Nx hN hj fr e dc ⟨rfl, hv⟩
    obtain ⟨dd, ed, dr⟩ := DpAll.get' (DpAll.tps (Tps.same fr.same) _ _ (flatDs_all _ _ fnD_flat) dxs) hv
    rw [List.getElem?_map] at ed
    cases er : F[j]? with
    | none =>
      rw [er] at ed
      cases ed
    | some en =>
    rw [er] at ed
    obtain rfl := Option.some.inj ed
    obtain ⟨ra, na, rfl, hra, hna⟩ := Dp.fn dr
    refine ⟨ra, _, rfl, hra, rfl, _, _, rfl, _, _, rfl, rfl, rfl, ?_⟩
    refine yes_cut ?_
    have lacc : acc.length ≤ 8000 := by
      rw [DpAll.len dc, List.length_map, List.length_map, List.length_take]
      omega
    have tm := Tps.mut (K := K) (o := .lst (acc ++ [.ref na])) e trivial
    refine ⟨_, rfl, acc, e, small_line (by omega), hN _ _ upd_same (fr.put (.inl hD)) ?_⟩
    rw [take_get er, List.map_append, List.map_append]
    exact DpAll.app (DpAll.tps tm _ _ (flatDs_all _ _ flat_nats) dc) (.cons (Dp.of_nats (tm _ _ hna)) .nil)
  · rintro acc Hc fr e dc
    rw [lx, List.take_of_length_le (Nat.le_refl _)] at dc
    exact k D acc F Hc (s2.trans fr.same) (s2.free hD) e dc W lF8
end
end R59
/-! W20 -/
set_option maxHeartbeats 1000000
namespace R59
open PySem PyProof.Rows L2 KB PySem.W
/-- the places of the rows that have a class within -/
def plc (T : List Row) (i : Nat) : List Nat := (List.range T.length).filter fun p => match T[p]? with
  | some r => decide (i ∈ r.is)
  | none => false
theorem mem_plc {T : List Row} {i p : Nat} : p ∈ plc T i ↔ ∃ r, T[p]? = some r ∧ i ∈ r.is := by
  unfold plc
  rw [List.mem_filter, List.mem_range]
  constructor
  · rintro ⟨h1, h2⟩
    rw [List.getElem?_eq_getElem h1] at h2 ⊢
    exact ⟨_, rfl, of_decide_eq_true h2⟩
  · rintro ⟨r, h1, h2⟩
    refine ⟨(List.getElem?_eq_some_iff.mp h1).1, ?_⟩
    rw [h1]
    exact decide_eq_true h2
theorem plc_nodup (T : List Row) (i : Nat) : (plc T i).Nodup := List.nodup_range.sublist List.filter_sublist
theorem plc_len (T : List Row) (i : Nat) : (plc T i).length ≤ T.length := by
  have := List.length_filter_le (fun p => match T[p]? with
  | some r => decide (i ∈ r.is)
  | none => false) (List.range T.length)
  rw [List.length_range] at this
  exact this
/-- the rows at these places -/
def rowsAt (T : List Row) (l : List Nat) : List Row := l.filterMap fun p => T[p]?
theorem mem_rowsAt {T : List Row} {l : List Nat} {r : Row} : r ∈ rowsAt T l ↔ ∃ p ∈ l, T[p]? = some r := by
  unfold rowsAt
  rw [List.mem_filterMap]
theorem NewP.wide {S T : List Row} {f : Fnd} {c : Nat} {u : Tm} {m : Nat} {E : List (Nat × Tm)} (N : NewP S f c u m E) (h1 : ∀ r ∈ S, r ∈ T) (h2 : ∀ r ∈ T, c ∈ r.is → r ∈ S) : NewP T f c u m E := by
  refine ⟨fun e he => ?_, fun d s is ts js hr ha hp hex => ?_, N.nd⟩
  · obtain ⟨s, ts, is, a1, a2, a3⟩ := N.new e he
    exact ⟨s, ts, is, a1, h1 _ a2, a3⟩
  · refine N.all d s is ts js (h2 _ hr ?_) ha hp hex
    obtain ⟨k, a1, _⟩ := hex
    exact List.mem_of_getElem? a1
theorem NewP.len {S T : List Row} {f : Fnd} {c : Nat} {u : Tm} {m : Nat} {E : List (Nat × Tm)} (N : NewP S f c u m E) (hS : ∀ r ∈ S, r ∈ T) {M : Nat} (h : ∀ d, (addF f c u d).length ≤ M) : E.length ≤ wid M T := by
  refine Nat.le_trans (sub_len N.nd fun e he => ?_) (univ_len h T)
  obtain ⟨s, ts, is, h1, h2, h3, _⟩ := N.new e he
  obtain ⟨d, t⟩ := e
  dsimp only at *
  subst h1
  exact mem_univ (hS _ h2) h3
structure UsesAt (H : Hp) (a : FAd) (ul : List Addr) (T : List Row) (n : Nat) : Prop where
  hup : H a.up = some (.lst (ul.map V.ref))
  len : ul.length = n
  at_ : ∀ (i : Nat) b, ul[i]? = some b → H b = some (.lst ((plc T i).map fun p : Nat => V.int (p : Int)))
  wu : a.wp ≠ a.up
  wul : a.wp ∉ ul
  mu : a.up ∉ a.ml
  mul : ∀ b ∈ ul, b ∉ a.ml
theorem UsesAt.fr {K : PySem.W.Frag} {C : Addr} {H H' : Hp} {a : FAd} {ul : List Addr} {T : List Row} {n m : Nat} {cs : List Int} {co : Nat → Nat} {g : Fnd} {ws : List (Nat × Nat × Tm)} {cnt : Nat} (U : UsesAt H a ul T n) (S : FSt K C H a T n m cs co g ws cnt) (fr : Fr [a.x, a.wp] H H') : UsesAt H' a ul T n := by
  obtain ⟨dx, ob⟩ := S.ob
  have nin : ∀ {b : Addr} {xs : List V}, H b = some (.lst xs) → b ≠ a.wp → b ∉ [a.x, a.wp] := fun {b xs} e ne hb => by
    rcases List.mem_cons.mp hb with q | hb
    · rw [q, ob] at e
      cases e
    · exact ne (List.mem_singleton.mp hb)
  exact ⟨fr _ _ U.hup (nin U.hup U.wu.symm), U.len, fun i b e => fr _ _ (U.at_ i b e) (nin (U.at_ i b e) fun q => U.wul (q ▸ List.mem_of_getElem? e)), U.wu, U.wul, U.mu, U.mul⟩
theorem UsesAt.same {H H' : Hp} {a : FAd} {ul : List Addr} {T : List Row} {n : Nat} (U : UsesAt H a ul T n) (s : Same H H') : UsesAt H' a ul T n := ⟨s _ _ U.hup, U.len, fun i b e => s _ _ (U.at_ i b e), U.wu, U.wul, U.mu, U.mul⟩
section
variable {P : Program} {w : World} {K : PySem.W.Frag} {mg : Str → Option Value} {base : Heap} {f C : Addr} {fd : FuncData}
/-! ### choices -/
abbrev s_choices : Stmt := inClass (top 15) 3
abbrev N_choices : List Str := ["self", "classes", "own", "number", "found", "spot", "one"]
theorem sc_choices : FnScope N_choices ["self", "classes", "own", "number"] (defScope s_choices) := ⟨rfl, rfl, rfl, by decide +kernel, rfl, by decide +kernel, by decide +kernel⟩
def spChoices (K : PySem.W.Frag) (C : Addr) : Sp := fun vs H Q _ => ∃ (a : FAd) (T : List Row) (n m : Nat) (cs : List Int) (co : Nat → Nat) (g : Fnd) (ws : List (Nat × Nat × Tm)) (cnt : Nat) (is : List Nat) (ia : Addr) (c N : Nat),
  vs = [.ref a.x, .ref ia, .int (c : Nat), .int (N : Nat)] ∧ FSt K C H a T n m cs co g ws cnt ∧ SqT K H ia (is.map fun i : Nat => V.int (i : Int)) ∧ is.length ≤ 3 ∧ (∀ i ∈ is, i < n) ∧ (g c).length = N + 1 ∧ N + 1 ≤ m ∧ m ≤ 20 ∧
  ∀ (rp : Addr) (zs : List V) (L : List (List Nat)) (H' : Hp), Same H H' → H rp = none → H' rp = some (.lst zs) → DpAll K H' zs (L.map isD) → Chs (fun i => (g i).length) c N m is is.length L → Q (.ref rp) H'
theorem ok_choices (F : FnP K "choices" "Found.choices" s_choices f fd) (T : Nm mg) (TF : FTxt K mg C) (h_with_newest : HasM P w K mg base CX0 C "with_newest" ["self", "classes", "own", "number", "spot"] 1 (spWith K C)) :
    FnOk P w K mg base CX0 2 f fd ["self", "classes", "own", "number"] (spChoices K C) := by
  refine F.ok sc_choices (fun vs H Q E h => ?_) (fun cdv A outer s H vs Q E hr h => ?_)
  · obtain ⟨a, T, n, m, cs, co, g, ws, cnt, is, ia, c, N, rfl, _⟩ := h
    rfl
  obtain ⟨a, Tb, n, m, cs, co, g, ws, cnt, is, ia, c, N, rfl, S, hia, il, iln, hcN, hNm, hm, k⟩ := h
  have hq := hq_of hr
  refine ⟨_, PSs.nox
  (pss_cons (ps_set (i := 4) sc_choices.nd rfl (Or.inl rfl) (pe_lst pa_nil))
      (pss_cons (ps_for PassesOwn.never rfl (pi_enumT (by rfl) T.enumerate (pa_cons (pv 1) pa_nil)) (pg_tupK (n := 2) K rfl (pgs_cons (pg_name (i := 5) sc_choices.nd rfl (Or.inl rfl)) (pgs_cons (pg_name (i := 6) sc_choices.nd rfl (Or.inl rfl)) pgs_nil))) (pss_one (ps_if (pt_cmpR (op_eqK K hq) (pv 6) (pv 2) (nomark _)) (pss_one (ps_expr (pe_bm PySem.F.plainAttrs_list PySem.F.slot_list_extend PySem.F.type_list_extend mt_extend (pv 4) (pa_cons (pe_mH h_with_newest TF.cl (hr.mono (by decide)) (pv 0) (pa_cons (pv 1) (pa_cons (pv 2) (pa_cons (pv 3) (pa_cons (pv 5) pa_nil))))) pa_nil)))) pss_nil)))
      (pss_one (ps_ret (pv 4))))), ?_⟩
  obtain ⟨dx, ob⟩ := S.ob
  refine ⟨Nat.zero_le _, fun D hD => ?_⟩
  dsimp only [gName]
  have s1 : Same H (upd H D (.lst [])) := (Fr.new (M := []) hD).same
  refine seq_cut (fun σ H' => ∃ (zs : List V) (L : List (List Nat)) (v5 v6 : Option V), σ = [some (.ref a.x), some (.ref ia), some (.int (c : Nat)), some (.int (N : Nat)), some (.ref D), v5, v6] ∧ Same H H' ∧ H' D = some (.lst zs) ∧ DpAll K H' zs (L.map isD) ∧ Chs (fun i => (g i).length) c N m is is.length L) (fun Z hZ => ?_) ?_
  · refine ⟨_, rfl, ia, _, rfl, (Tps.same s1) _ _ hia, ?_⟩
    refine for_it (walk_enumT (xs := is.map fun i : Nat => V.int (i : Int))) (fun p σ H' => ∃ (zs : List V) (L : List (List Nat)) (v5 v6 : Option V), σ = [some (.ref a.x), some (.ref ia), some (.int (c : Nat)), some (.int (N : Nat)), some (.ref D), v5, v6] ∧ Same H H' ∧ H' D = some (.lst zs) ∧ DpAll K H' zs (L.map isD) ∧ Chs (fun i => (g i).length) c N m is p L ∧ L.length ≤ 8000 * p)
      ⟨[], [], _, _, rfl, s1, upd_same, .nil, Chs.zero is, Nat.le_refl _⟩ ?_ ?_ ?_
    · rintro q σ H' _ ⟨_, _, _, _, rfl, s', _⟩
      exact (Tps.same s') _ _ hia
    · rintro p v _ He Hf hp ⟨zs, L, v5, v6, rfl, se, hDe, dz, W, lL⟩ ⟨t', y1, y2, rfl, ht0, rfl, e1, e2⟩
      rw [List.length_map] at hp
      cases e1
      obtain ⟨i1, ei1, rfl⟩ := get_natI e2
      have se1 : Same He (upd He t' (.tup [.int (p : Nat), .int (i1 : Nat)])) := (Fr.new (M := []) ht0).same
      have ht1 : SqT K (upd He t' (.tup [.int (p : Nat), .int (i1 : Nat)])) t' [.int (p : Nat), .int (i1 : Nat)] := SqT.of upd_same
      generalize upd He t' (.tup [.int (p : Nat), .int (i1 : Nat)]) = Hf at se1 ht1
      have sf := se.trans se1
      have hDf := se1 _ _ hDe
      have dzf := DpAll.tps (Tps.same se1) _ _ (flatDs_all _ _ flat_nats) dz
      refine ⟨t', _, rfl, ht1, rfl, _, _, rfl, _, _, rfl, rfl, ?_⟩
      dsimp only [gName]
      refine ⟨_, rfl, _, rfl, .inl ⟨rfl, _, rfl, ?_⟩⟩
      refine dec_b (fun h1 => ?_) (fun h1 => ?_)
      rotate_left
      · refine ⟨zs, L, _, _, rfl, sf, hDf, dzf, W.skip (fun e => h1 (by
          rw [ei1] at e
          cases e
          rfl)), by omega⟩
      have h1' : i1 = c := by
        have := vint_inj h1
        omega
      subst h1'
      refine ⟨_, rfl, .inl ⟨rfl, _, SqL.of hDf⟩, _, rfl, a.x, dx, _, rfl, sf _ _ ob, fl_with, _, rfl, _, rfl, _, rfl, _, rfl, ?_⟩
      refine ⟨a, Tb, n, m, cs, co, g, ws, cnt, is, ia, i1, N, p, rfl, S.same sf, (Tps.same sf) _ _ hia, il, iln, hcN, hNm, hm, fun rp zs2 F Hg sg rp0 hrp d2 WF lF => ?_⟩
      have hDg := sg _ _ hDf
      have l1 : zs.length = L.length := by rw [DpAll.len dz, List.length_map]
      have l2 : zs2.length = F.length := by rw [DpAll.len d2, List.length_map, List.length_map]
      have tm : Tps K Hg (upd Hg D (.lst (zs ++ zs2))) := .mut hDg trivial
      refine ⟨D, rp, zs, zs2, rfl, rfl, hDg, hrp, Nat.le_of_lt (small_line (by omega)), ?_⟩
      refine ⟨zs ++ zs2, L ++ F.map (·.1), _, _, rfl, ((Fr.of_same (M := []) (sf.trans sg)).put (.inl hD)).same, upd_same, ?_, W.step hcN ei1 WF, ?_⟩
      · rw [List.map_append]
        exact DpAll.app (DpAll.tps ((Tps.same sg).trans tm) _ _ (flatDs_all _ _ flat_nats) dzf) (DpAll.tps tm _ _ (flatDs_all _ _ flat_nats) d2)
      · rw [List.length_append, List.length_map]
        omega
    · rintro _ He ⟨zs, L, v5, v6, rfl, se, hDe, dz, W, _⟩
      rw [List.length_map] at W
      exact hZ _ _ ⟨zs, L, _, _, rfl, se, hDe, dz, W⟩
  rintro _ H2 ⟨zs, L, v5, v6, rfl, s2, hD2, dz, W⟩
  exact ⟨_, rfl, k D zs L H2 s2 hD hD2 dz W⟩
/-! ### spread -/
abbrev s_spread : Stmt := inClass (top 15) 2
abbrev N_spread : List Str := ["self", "own", "number", "place", "numbers"]
theorem sc_spread : FnScope N_spread ["self", "own", "number"] (defScope s_spread) := ⟨rfl, rfl, rfl, by decide +kernel, rfl, by decide +kernel, by decide +kernel⟩
def spSpread (K : PySem.W.Frag) (C : Addr) : Sp := fun vs H Q _ => ∃ (a : FAd) (T : List Row) (n m : Nat) (ar : Nat → Nat) (cs : List Int) (co : Nat → Nat) (g : Fnd) (c : Nat) (u : Tm) (ws : List (Nat × Nat × Tm)) (cnt : Nat) (ul : List Addr),
  vs = [.ref a.x, .int (c : Nat), .int ((g c).length : Nat)] ∧ FSt K C H a T n m cs co (addF g c u) ws cnt ∧ TabG ar T n ∧ CoOk cs co T ∧ UsesAt H a ul T n ∧ c < n ∧ (∀ d, (g d).Nodup) ∧ u ∉ g c ∧ (∀ d, (addF g c u d).length ≤ m) ∧ (∀ d t, t ∈ addF g c u d → Mem T t d) ∧ m ≤ 20 ∧ wid m T ≤ 10000 ∧ ws.length ≤ 10000 ∧
  ∀ (ws' : List (Nat × Nat × Tm)) (E : List (Nat × Tm)) (cnt' : Nat) (H' : Hp), Fr [a.x, a.wp] H H' → FSt K C H' a T n m cs co (addF g c u) ws' cnt' → (ws'.map (·.2)).Perm (ws.map (·.2) ++ E) → NewP T g c u m E → Q .non H'
theorem ok_spread (F : FnP K "spread" "Found.spread" s_spread f fd) (T : Nm mg) (TF : FTxt K mg C) (h_choices : HasM P w K mg base CX0 C "choices" ["self", "classes", "own", "number"] 2 (spChoices K C)) (h_put : HasM P w K mg base CX0 C "put" ["self", "place", "numbers"] 1 (spPut K C)) :
    FnOk P w K mg base CX0 3 f fd ["self", "own", "number"] (spSpread K C) := by
  refine F.ok sc_spread (fun vs H Q E h => ?_) (fun cdv A outer s H vs Q E hr h => ?_)
  · obtain ⟨a, T, n, m, ar, cs, co, g, c, u, ws, cnt, ul, rfl, _⟩ := h
    rfl
  obtain ⟨a, Tb, n, m, ar, cs, co, g, c, u, ws, cnt, ul, rfl, S, G, hco, US, hcn, gnd, un, gl, gm, hm, hw, lws, k⟩ := h
  have hq := hq_of hr
  refine ⟨_, PSs.nox
  (pss_one (ps_for PassesOwn.never rfl (pi_listK K (pe_ix (ix_K K) (pe_fldK K (pv 0)) (pv 1) (fun _ _ => rfl))) (pg_name (i := 3) sc_spread.nd rfl (Or.inl rfl)) (pss_one (ps_for PassesOwn.never rfl (pi_listK K (pe_mH h_choices TF.cl (hr.mono (by decide)) (pv 0) (pa_cons (pe_ix (ix_K K) (pe_ix (ix_K K) (pe_fldK K (pv 0)) (pv 3) (fun _ _ => rfl)) pe_int (fun _ _ => rfl)) (pa_cons (pv 1) (pa_cons (pv 2) pa_nil))))) (pg_name (i := 4) sc_spread.nd rfl (Or.inl rfl)) (pss_one (ps_expr (pe_mH h_put TF.cl (hr.mono (by decide)) (pv 0) (pa_cons (pv 3) (pa_cons (pv 4) pa_nil))))))))), ?_⟩
  obtain ⟨dx, ob⟩ := S.ob
  obtain ⟨b, hb⟩ : ∃ b, ul[c]? = some b := ⟨_, List.getElem?_eq_getElem (by rw [US.len]; exact hcn)⟩
  have hbl := US.at_ c b hb
  have gl0 := gl c
  rw [addF_same, List.length_append, List.length_singleton] at gl0
  have atb : atI (ul.map V.ref) (c : Nat) = some (.ref b) := atI_nat (by rw [List.getElem?_map, hb]; rfl)
  refine ⟨_, rfl, a.x, C, dx, _, _, rfl, ob, TF.cl, TF.nUses, fl_uses, _, rfl, a.up, _, _, _, rfl, rfl, .inl (SqL.of US.hup), atb, b, rfl, ⟨_, SqL.of hbl⟩, ?_⟩
  refine for_it (walk_list (xs := (plc Tb c).map fun p : Nat => V.int (p : Int))) (fun i σ H' => ∃ (ws' : List (Nat × Nat × Tm)) (E : List (Nat × Tm)) (cnt' : Nat) (v3 v4 : Option V), σ = [some (.ref a.x), some (.int (c : Nat)), some (.int ((g c).length : Nat)), v3, v4] ∧ Fr [a.x, a.wp] H H' ∧ FSt K C H' a Tb n m cs co (addF g c u) ws' cnt' ∧ (ws'.map (·.2)).Perm (ws.map (·.2) ++ E) ∧ NewP (rowsAt Tb ((plc Tb c).take i)) g c u m E)
    ⟨ws, [], cnt, _, _, rfl, Fr.refl _ _, S, by rw [List.append_nil], NewP.nil _ _ _ _⟩ ?_ ?_ ?_
  · rintro i σ H' _ ⟨_, _, _, _, _, _, fr, _⟩
    exact SqL.of ((US.fr S fr).at_ c b hb)
  · rintro i v _ Hz Ha hi ⟨ws1, E1, cnt1, v3, v4, rfl, fra, Sa, pm1, N1⟩ ⟨rfl, hv⟩
    rw [List.length_map] at hi
    obtain ⟨p, hp, rfl⟩ := get_natI hv
    obtain ⟨r, hr0, hcr⟩ := mem_plc.mp (List.mem_of_getElem? hp)
    have hrT := List.mem_of_getElem? hr0
    obtain ⟨dxa, oba⟩ := Sa.ob
    have ilen : r.is.length ≤ 3 := by
      rw [G.a3 r hrT]
      exact G.ar3 _
    obtain ⟨xs, ra, ia, hta, era, hra, hia⟩ := tab_get Sa.dt hr0
    dsimp only [gName]
    have subS : ∀ {l : List Nat} {r' : Row}, r' ∈ rowsAt Tb l → r' ∈ Tb := fun {l r'} h => by
      obtain ⟨q, _, e⟩ := mem_rowsAt.mp h
      exact List.mem_of_getElem? e
    refine ⟨_, rfl, a.x, dxa, _, rfl, oba, fl_choices, _, rfl, a.x, C, dxa, _, _, rfl, oba, TF.cl, TF.nTable, fl_table, _, rfl, a.ta, _, _, _, rfl, rfl, .inr hta, era, ra, _, 1, _, rfl, rfl, .inr hra, rfl, _, rfl, _, rfl, ?_⟩
    refine ⟨a, Tb, n, m, cs, co, addF g c u, ws1, cnt1, r.is, ia, c, (g c).length, rfl, Sa, hia, ilen, (G.cl r hrT).2, by rw [addF_same, List.length_append]; rfl, gl0, hm, fun lp zs L Hb sab lp0 hlp dL CL => ?_⟩
    refine ⟨lp, rfl, ⟨_, SqL.of hlp⟩, ?_⟩
    have lz : zs.length = L.length := by rw [DpAll.len dL, List.length_map]
    have rnew : r ∉ rowsAt Tb ((plc Tb c).take i) := fun h => by
      obtain ⟨q, h1, h2⟩ := mem_rowsAt.mp h
      obtain ⟨j, hj⟩ := List.mem_iff_getElem?.mp h1
      rw [List.getElem?_take] at hj
      split at hj
      · obtain ⟨z1, z2⟩ := List.getElem?_eq_some_iff.mp h2
        obtain ⟨z3, z4⟩ := List.getElem?_eq_some_iff.mp hr0
        have e1 := (List.getElem_inj G.nd).mp (z2.trans z4.symm)
        subst e1
        obtain ⟨z5, z6⟩ := List.getElem?_eq_some_iff.mp hj
        obtain ⟨z7, z8⟩ := List.getElem?_eq_some_iff.mp hp
        have := (List.getElem_inj (plc_nodup Tb c)).mp (z6.trans z8.symm)
        omega
      · cases hj
    have N2 := N1.add G.uq (addF_nodup gnd un) gm (fun r' h => subS h) hrT rnew CL
    have lE := R59.NewP.len N2 (T := Tb) (fun r' h => by
      rcases List.mem_append.mp h with h | h
      · exact subS h
      · rw [List.mem_singleton.mp h]
        exact hrT) gl
    rw [List.length_append, List.length_map] at lE
    have esr : rowsAt Tb ((plc Tb c).take (i + 1)) = rowsAt Tb ((plc Tb c).take i) ++ [r] := by
      unfold rowsAt
      rw [take_get hp, List.filterMap_append]
      simp [hr0]
    have wlp : lp ≠ a.wp ∧ lp ≠ a.x := by
      refine ⟨fun e => ?_, fun e => ?_⟩
      · obtain ⟨vs, h1, _⟩ := Sa.hw
        rw [e, h1] at lp0
        cases lp0
      · rw [e, oba] at lp0
        cases lp0
    refine for_it (walk_list (xs := zs)) (fun j σ H' => ∃ (ws' : List (Nat × Nat × Tm)) (cnt' : Nat) (v4 : Option V), σ = [some (.ref a.x), some (.int (c : Nat)), some (.int ((g c).length : Nat)), some (.int (p : Nat)), v4] ∧ Fr [a.x, a.wp] Hb H' ∧ FSt K C H' a Tb n m cs co (addF g c u) ws' cnt' ∧ (ws'.map (·.2)).Perm ((ws.map (·.2) ++ E1) ++ (L.take j).map fun js => (r.c, Tm.node r.s (atF (addF g c u) r.is js))))
      ⟨ws1, cnt1, _, rfl, Fr.refl _ _, Sa.same sab, by simpa using pm1⟩ ?_ ?_ ?_
    · rintro j σ H' _ ⟨_, _, _, _, fr, _⟩
      exact SqL.of (fr _ _ hlp (by simp [wlp]))
    · rintro j v _ Hz Hc hj ⟨ws2, cnt2, v4, rfl, frc, Sc, pm2⟩ ⟨rfl, hv⟩
      have Sb := Sa.same sab
      have tpc : Tps K Hb Hc := frc.tps fun q hq => by
        obtain ⟨dxb, obb⟩ := Sb.ob
        obtain ⟨vs, w1, _⟩ := Sb.hw
        rcases List.mem_cons.mp hq with e | hq
        · rw [e]
          exact ⟨_, obb, trivial⟩
        · rw [List.mem_singleton.mp hq]
          exact ⟨_, w1, trivial⟩
      obtain ⟨dd, ed, dr⟩ := DpAll.get' (DpAll.tps tpc _ _ (flatDs_all _ _ flat_nats) dL) hv
      rw [List.getElem?_map] at ed
      cases er : L[j]? with
      | none =>
        rw [er] at ed
        cases ed
      | some js =>
      rw [er] at ed
      obtain rfl := Option.some.inj ed
      obtain ⟨dxc, obc⟩ := Sc.ob
      have hat := atF_at ((CL.mem js).mp (List.mem_of_getElem? er)).1
      have lw2 : ws2.length ≤ 20000 := by
        have h1 := pm2.length_eq
        rw [List.length_map, List.length_append, List.length_append, List.length_map, List.length_map, List.length_take] at h1
        omega
      refine ⟨_, rfl, a.x, dxc, _, rfl, obc, fl_put, _, rfl, _, rfl, ?_⟩
      refine ⟨a, Tb, n, m, ar, cs, co, addF g c u, ws2, cnt2, p, r, v, _, js, rfl, Sc, G, hco, hr0, dr, hat, lw2, fun ws3 Hd frd Sd pm3 => ?_⟩
      refine ⟨ws3, _, _, rfl, frc.trans frd, Sd, ?_⟩
      rw [take_get er, List.map_append, ← List.append_assoc]
      exact pm3.trans (pm2.append_right _)
    · rintro _ Hc ⟨ws2, cnt2, v4, rfl, frc, Sc, pm2⟩
      rw [lz, List.take_of_length_le (Nat.le_refl _)] at pm2
      refine ⟨ws2, _, cnt2, _, _, rfl, (fra.trans (.of_same sab)).trans frc, Sc, ?_, by rw [esr]; exact N2⟩
      rw [← List.append_assoc]
      exact pm2
  · rintro _ Ha ⟨ws1, E1, cnt1, v3, v4, rfl, fra, Sa, pm1, N1⟩
    rw [List.length_map, List.take_of_length_le (Nat.le_refl _)] at N1
    refine k ws1 E1 cnt1 Ha fra Sa pm1 (R59.NewP.wide N1 (fun r h => ?_) fun r h hc => ?_)
    · obtain ⟨q, _, e⟩ := mem_rowsAt.mp h
      exact List.mem_of_getElem? e
    · obtain ⟨p, hp⟩ := List.mem_iff_getElem?.mp h
      exact mem_rowsAt.mpr ⟨p, mem_plc.mpr ⟨r, hp, hc⟩, hp⟩
end
end R59
/-! W21 -/
set_option maxHeartbeats 1000000
namespace R59
open PySem PyProof.Rows L2 KB PySem.W
theorem Good.perm {T : List Row} {big : Nat → Prop} {co : Nat → Nat} {m : Nat} {g : Fnd} {fr fr' : List (Nat × Tm)} (G : Good T big co m g fr) (p : fr'.Perm fr) : Good T big co m g fr' :=
  { G with
    fmem := fun d t h => G.fmem d t (p.mem_iff.mp h)
    fnew := fun d t h => G.fnew d t (p.mem_iff.mp h)
    fkid := fun d s ts h => G.fkid d s ts (p.mem_iff.mp h)
    fnd := p.nodup_iff.mpr G.fnd
    full := fun d s is ts js h1 h2 h3 h4 h5 => p.mem_iff.mpr (G.full d s is ts js h1 h2 h3 h4 h5) }
theorem step_prog {T : List Row} {m : Nat} {co : Nat → Nat} {g : Fnd} {rest E fr' : List (Nat × Tm)} {c : Nat} {u : Tm} (U : Uniq T) (pos : ∀ s, 1 ≤ co s) (hm1 : 1 ≤ m) (G : Good T big40 co m g ((c, u) :: rest)) (hmin : ∀ e ∈ (c, u) :: rest, Le big40 co u e.2) (room : (g c).length < m) (N : NewP T g c u m E)
    (pm : fr'.Perm (rest ++ E)) : Good T big40 co m (addF g c u) fr' := by
  have hu : (c, u) ∈ (c, u) :: rest := List.mem_cons_self
  have hum := G.fmem c u hu
  have nd := List.nodup_cons.mp G.fnd
  have kidm : ∀ d t, t ∈ addF g c u d → Mem T t d := fun d t h => by
    rcases mem_addF.mp h with h | ⟨rfl, rfl⟩
    · exact G.mem d t h
    · exact hum
  refine Good.pop big_up pos hm1 U G hu hmin room (fun e he => ?_) (pm.nodup_iff.mpr ?_) (fun e he hne hl => ?_) (fun d s is ts js hr ha hp hk hl => ?_)
  · rcases List.mem_append.mp (pm.mem_iff.mp he) with h | h
    · exact .inl ⟨List.mem_cons_of_mem _ h, fun q => nd.1 (q ▸ h)⟩
    · exact .inr (N.new e h)
  · refine List.nodup_append.mpr ⟨nd.2, N.nd, fun a ha b hb e => ?_⟩
    subst e
    obtain ⟨s, ts, is, e1, hr, hk, k, hk1, hk2⟩ := N.new a hb
    obtain ⟨d, t⟩ := a
    dsimp only at e1
    subst e1
    obtain ⟨is', hr', hk'⟩ := G.fkid d s ts (List.mem_cons_of_mem _ ha)
    have ei : is' = is := MemL.one U ts _ _ (hk'.mem G.mem) (hk.mem kidm)
    subst ei
    exact G.fnew c u hu (hk'.get k u c hk2 hk1)
  · rcases List.mem_cons.mp he with q | q
    · exact absurd q hne
    · exact pm.mem_iff.mpr (List.mem_append_left _ q)
  · exact pm.mem_iff.mpr (List.mem_append_right _ (N.all d s is ts js hr ha hp hk))
theorem Dp.ent {K : PySem.W.Frag} {H : Hp} {v : V} {e : Ent} (h : Dp K H v (entD e)) : ∃ a sa w, v = .ref a ∧ SqT K H a [.int e.c, .int e.n, .ref sa, .int e.k, .int e.own, w] ∧ SqT K H sa (e.r.map V.int) ∧ Dp K H w e.t := by
  obtain ⟨a, ys, rfl, h1, h2⟩ := Dp.tupOf h
  cases h2 with
  | cons d1 h2 =>
  cases h2 with
  | cons d2 h2 =>
  cases h2 with
  | cons d3 h2 =>
  cases h2 with
  | cons d4 h2 =>
  cases h2 with
  | cons d5 h2 =>
  cases h2 with
  | cons d6 h2 =>
  cases h2
  cases d1
  cases d2
  cases d4
  cases d5
  obtain ⟨sa, rfl, q⟩ := Dp.tupInts d3
  exact ⟨a, sa, _, rfl, h1, q, d6⟩
theorem FSt.app {K : PySem.W.Frag} {C : Addr} {H : Hp} {a : FAd} {T : List Row} {n m : Nat} {cs : List Int} {co : Nat → Nat} {g : Fnd} {ws : List (Nat × Nat × Tm)} {cnt : Nat} (S : FSt K C H a T n m cs co g ws cnt) {i : Nat} {b : Addr} {ys : List V} {v : V} {u : Tm} (hb : a.ml[i]? = some b) (hy : H b = some (.lst ys)) (dv : Dp K H v (memD co u)) :
    FSt K C (upd H b (.lst (ys ++ [v]))) a T n m cs co (addF g i u) ws cnt := by
  have tm : Tps K H (upd H b (.lst (ys ++ [v]))) := .mut hy trivial
  have bm := List.mem_of_getElem? hb
  obtain ⟨dx, ob⟩ := S.ob
  obtain ⟨vs, w1, w2⟩ := S.hw
  have bx : a.x ≠ b := fun e => by
    rw [e, hy] at ob
    cases ob
  have bw : a.wp ≠ b := fun e => S.wml (e ▸ bm)
  have bp : a.mp ≠ b := fun e => S.mpl (e ▸ bm)
  refine ⟨⟨dx, by rw [upd_ne bx]; exact ob⟩, by rw [upd_ne bp]; exact S.hmp, S.mlen, fun j q e => ?_, S.mnd, ⟨vs, by rw [upd_ne bw]; exact w1, DpAll.tps tm _ _ (ents_flat co ws) w2⟩, S.ok, S.wml, S.wmp, S.mpl, S.ks, Dp.tps tm _ _ (tabD_flat _) S.dt, tm _ _ S.hca⟩
  obtain ⟨zs, e1, e2⟩ := S.mat j q e
  by_cases z : j = i
  · subst z
    rw [hb] at e
    cases e
    rw [hy] at e1
    cases e1
    refine ⟨ys ++ [v], upd_same, ?_⟩
    rw [addF_same, List.map_append]
    exact DpAll.app (DpAll.tps tm _ _ (mems_flat co _) e2) (.cons (Dp.tps tm _ _ (memD_flat co _) dv) .nil)
  · have : q ≠ b := fun y => by
      subst y
      obtain ⟨h1, h2⟩ := List.getElem?_eq_some_iff.mp e
      obtain ⟨h3, h4⟩ := List.getElem?_eq_some_iff.mp hb
      exact z ((List.getElem_inj S.mnd).mp (h2.trans h4.symm))
    rw [addF_ne g u z]
    exact ⟨zs, by rw [upd_ne this]; exact e1, DpAll.tps tm _ _ (mems_flat co _) e2⟩
theorem UsesAt.app {H : Hp} {a : FAd} {ul : List Addr} {T : List Row} {n : Nat} (U : UsesAt H a ul T n) {b : Addr} (hb : b ∈ a.ml) {o : HO} : UsesAt (upd H b o) a ul T n := ⟨by rw [upd_ne fun (e : a.up = b) => U.mu (e ▸ hb)]; exact U.hup, U.len, fun i q e => by
  rw [upd_ne fun (z : q = b) => U.mul q (List.mem_of_getElem? e) (z ▸ hb)]
  exact U.at_ i q e, U.wu, U.wul, U.mu, U.mul⟩
section
variable {P : Program} {w : World} {K : PySem.W.Frag} {mg : Str → Option Value} {base : Heap} {f C : Addr} {fd : FuncData}
/-! ### of -/
abbrev s_of : Stmt := inClass (top 15) 5
abbrev N_of : List Str := ["self", "number", "cost", "size", "symbols", "count", "own", "term"]
theorem sc_of : FnScope N_of ["self", "number"] (defScope s_of) := ⟨rfl, rfl, rfl, by decide +kernel, rfl, by decide +kernel, by decide +kernel⟩
def spOf (K : PySem.W.Frag) (C : Addr) : Sp := fun vs H Q _ => ∃ (a : FAd) (T : List Row) (n m : Nat) (ar : Nat → Nat) (cs : List Int) (co : Nat → Nat) (g : Fnd) (ws : List (Nat × Nat × Tm)) (cnt : Nat) (ul : List Addr) (c0 : Nat),
  vs = [.ref a.x, .int (c0 : Nat)] ∧ FSt K C H a T n m cs co g ws cnt ∧ TabG ar T n ∧ CoOk cs co T ∧ UsesAt H a ul T n ∧ Good T big40 co m g (ws.map (·.2)) ∧ c0 < n ∧ (∀ s, 1 ≤ co s) ∧ 1 ≤ m ∧ m ≤ 20 ∧ wid m T ≤ 10000 ∧
  ∀ (b : Addr) (ys : List V) (l : List Tm) (H' : Hp), Fr (a.x :: a.wp :: a.ml) H H' → H' b = some (.lst ys) → DpAll K H' ys (l.map (memD co)) → FP T big40 co m c0 l → Q (.ref b) H'
set_option maxHeartbeats 4000000 in
theorem ok_ofM (F : FnP K "of" "Found.of" s_of f fd) (T : Nm mg) (TF : FTxt K mg C) (h_spread : HasM P w K mg base CX0 C "spread" ["self", "own", "number"] 3 (spSpread K C)) :
    FnOk P w K mg base CX0 4 f fd ["self", "number"] (spOf K C) := by
  refine F.ok sc_of (fun vs H Q E h => ?_) (fun cdv A outer s H vs Q E hr h => ?_)
  · obtain ⟨a, T, n, m, ar, cs, co, g, ws, cnt, ul, c0, rfl, _⟩ := h
    rfl
  obtain ⟨a, Tb, n, m, ar, cs, co, g, ws, cnt, ul, c0, rfl, S, G, hco, US, GD, hc0, pos, hm1, hm, hw, k⟩ := h
  have hq := hq_of hr
  refine ⟨_, PSs.nox
  (pss_cons (ps_while PassesOwn.never (PW.pt (pw_and (pt_cmpR (op_neK K hq) (pe_fldK K (pv 0)) (pe_lst pa_nil) (nomark _)) (pw_and1 (pt_cmpR (op_ltK K hq) (pe_callB (cr_lenK K) (by rfl) T.len bt_len (pa_cons (pe_ix (ix_K K) (pe_fldK K (pv 0)) (pv 1) (fun _ _ => rfl)) pa_nil)) (pe_fldK K (pv 0)) (nomark _))))) (pss_cons (ps_asg (pe_callBfun (cr_popK K hq) (by rfl) TF.heappop (pa_cons (pe_fldK K (pv 0)) pa_nil)) (pg_tupK (n := 6) K rfl (pgs_cons (pg_name (i := 2) sc_of.nd rfl (Or.inl rfl)) (pgs_cons (pg_name (i := 3) sc_of.nd rfl (Or.inl rfl)) (pgs_cons (pg_name (i := 4) sc_of.nd rfl (Or.inl rfl)) (pgs_cons (pg_name (i := 5) sc_of.nd rfl (Or.inl rfl)) (pgs_cons (pg_name (i := 6) sc_of.nd rfl (Or.inl rfl)) (pgs_cons (pg_name (i := 7) sc_of.nd rfl (Or.inl rfl)) pgs_nil))))))))
      (pss_one (ps_if (pt_cmpR (op_ltK K hq) (pe_callB (cr_lenK K) (by rfl) T.len bt_len (pa_cons (pe_ix (ix_K K) (pe_fldK K (pv 0)) (pv 6) (fun _ _ => rfl)) pa_nil)) (pe_fldK K (pv 0)) (nomark _)) (pss_cons (ps_expr (pe_appK K (pe_ix (ix_K K) (pe_fldK K (pv 0)) (pv 6) (fun _ _ => rfl)) (pe_tup (pa_cons (pv 2) (pa_cons (pv 3) (pa_cons (pv 7) (pa_cons (pv 4) pa_nil)))))))
      (pss_one (ps_expr (pe_mH h_spread TF.cl (hr.mono (by decide)) (pv 0) (pa_cons (pv 6) (pa_cons (pe_op op_sub (pe_callB (cr_lenK K) (by rfl) T.len bt_len (pa_cons (pe_ix (ix_K K) (pe_fldK K (pv 0)) (pv 6) (fun _ _ => rfl)) pa_nil)) pe_int) pa_nil)))))) pss_nil))))
      (pss_one (ps_ret (pe_ix (ix_K K) (pe_fldK K (pv 0)) (pv 1) (fun _ _ => rfl))))), ?_⟩
  have frA : ∀ {H1 H2 : Hp}, Fr [a.x, a.wp] H1 H2 → Fr (a.x :: a.wp :: a.ml) H1 H2 := fun h => h.less fun q hq => by
    rcases List.mem_cons.mp hq with e | hq
    · rw [e]; exact List.mem_cons_self
    · rw [List.mem_singleton.mp hq]; exact List.mem_cons_of_mem _ List.mem_cons_self
  refine seq_cut (fun σ H' => ∃ (g : Fnd) (ws : List (Nat × Nat × Tm)) (cnt : Nat) (v2 v3 v4 v5 v6 v7 : Option V), σ = [some (.ref a.x), some (.int (c0 : Nat)), v2, v3, v4, v5, v6, v7] ∧ Fr (a.x :: a.wp :: a.ml) H H' ∧ FSt K C H' a Tb n m cs co g ws cnt ∧ FP Tb big40 co m c0 (g c0)) (fun Z hZ => ?_) ?_
  · refine while_d (fun μ σ H' => ∃ (g : Fnd) (ws : List (Nat × Nat × Tm)) (cnt : Nat) (v2 v3 v4 v5 v6 v7 : Option V), σ = [some (.ref a.x), some (.int (c0 : Nat)), v2, v3, v4, v5, v6, v7] ∧ Fr (a.x :: a.wp :: a.ml) H H' ∧ FSt K C H' a Tb n m cs co g ws cnt ∧ UsesAt H' a ul Tb n ∧ Good Tb big40 co m g (ws.map (·.2)) ∧ lmu Tb n m g (ws.map (·.2)) = μ)
      ⟨_, g, ws, cnt, _, _, _, _, _, _, rfl, Fr.refl _ _, S, US, GD, rfl⟩ ?_
    clear S US GD k
    rintro μ _ Ha ⟨g, ws, cnt, v2, v3, v4, v5, v6, v7, rfl, fra, Sa, Ua, GD, hμ⟩
    obtain ⟨dx, ob⟩ := Sa.ob
    obtain ⟨vs, hwp, dvs⟩ := Sa.hw
    have lvs : vs.length = ws.length := by rw [DpAll.len dvs, List.length_map, List.length_map]
    -- self.waiting != []
    refine ⟨_, rfl, a.x, C, dx, _, _, rfl, ob, TF.cl, TF.nWaiting, fl_waiting, Nat.zero_le _, fun p hp => Or.inr ⟨.list ((ws.map (entOf co)).map entD), .list [], .lst (SqL.of (Fr.new (M := []) hp _ _ hwp (by simp))) (DpAll.tps (Tps.new hp) _ _ (ents_flat co ws) dvs), .lst (SqL.of upd_same) .nil, by simp [PyData.depth, PyData.depthAll], _, rfl, ?_⟩⟩
    rw [eqv_nilD]
    have sp : Same Ha (upd Ha p (.lst [])) := (Fr.new (M := []) hp).same
    generalize upd Ha p (.lst []) = Hb at sp
    have Sb := Sa.same sp
    have Ub := Ua.same sp
    have frb := fra.trans (.of_same sp)
    have obb := sp _ _ ob
    refine ndec_b (fun hne => ?_) (fun he => ?_)
    rotate_left
    · have : ws = [] := by
        have h1 := congrArg List.length he
        rw [List.length_map, List.length_map] at h1
        exact List.length_eq_zero_iff.mp h1
      subst this
      exact hZ _ _ ⟨g, [], cnt, _, _, _, _, _, _, rfl, frb, Sb, Good.fp_end big_up pos hm1 GD c0⟩
    obtain ⟨b0, ys0, hb0, eb0, hys0, dys0⟩ := Sb.get hc0
    have lys0 : ys0.length = (g c0).length := by rw [DpAll.len dys0, List.length_map]
    refine ⟨_, rfl, a.x, C, dx, _, _, rfl, obb, TF.cl, TF.nMembers, fl_members, _, rfl, a.mp, _, _, _, rfl, rfl, .inl (SqL.of Sb.hmp), eb0, b0, ys0, rfl, .inl (SqL.of hys0), _, rfl, a.x, C, dx, _, _, rfl, obb, TF.cl, TF.nMany, fl_many, .inl ⟨_, _, rfl, rfl, _, rfl, ?_⟩⟩
    refine dec_b (fun hlt => ?_) (fun hge => ?_)
    rotate_left
    · have := GD.len c0
      exact hZ _ _ ⟨g, ws, cnt, _, _, _, _, _, _, rfl, frb, Sb, GD.fp_full (by omega)⟩
    refine ⟨_, fun σ' H' h => h, ?_⟩
    -- cost, size, symbols, count, own, term = heappop(self.waiting)
    obtain ⟨vs, hwp, dvs⟩ := Sb.hw
    refine ⟨_, rfl, a.x, C, dx, _, _, rfl, obb, TF.cl, TF.nWaiting, fl_waiting, a.wp, vs, ws.map (entOf co), rfl, hwp, dvs, Sb.ok, fun e => hne (by rw [e]; rfl), fun x e vs' es' pm hmin ok' dv' dx' => ?_⟩
    obtain ⟨l', el, pl⟩ := perm_lift (entOf co) pm ws rfl
    cases l' with
    | nil => cases el
    | cons w0 ws' =>
    rw [List.map_cons] at el
    injection el with e1 e2
    subst e1 e2
    obtain ⟨k0, c, u⟩ := w0
    have fr1 : Fr [a.x, a.wp] Hb (upd Hb a.wp (.lst vs')) := (Fr.refl _ _).put (.inr (by simp))
    have wx : a.x ≠ a.wp := fun e => by
      rw [e, hwp] at obb
      cases obb
    have obc : upd Hb a.wp (.lst vs') a.x = some (.ins C dx (flds a.ta a.ca m a.mp a.wp cnt a.up)) := by rw [upd_ne wx]; exact obb
    have Sc := Sb.moved (ws' := ws') (cnt' := cnt) fr1 ⟨dx, obc⟩ ⟨vs', upd_same, dv'⟩ ok' fun e he => Sb.ks e (pl.mem_iff.mp (List.mem_cons_of_mem _ he))
    have Uc := Ub.fr Sb fr1
    have frc := frb.trans (frA fr1)
    generalize upd Hb a.wp (.lst vs') = Hc at Sc Uc frc obc dx'
    have GD2 : Good Tb big40 co m g ((c, u) :: ws'.map (·.2)) := R59.Good.perm GD (List.Perm.map (fun x : Nat × Nat × Tm => x.2) pl)
    have hmin2 : ∀ e ∈ (c, u) :: ws'.map (·.2), Le big40 co u e.2 := fun e he => by
      rcases List.mem_cons.mp he with q | q
      · rw [q]
        exact Le.refl _
      · obtain ⟨w1, h1, rfl⟩ := List.mem_map.mp q
        exact ent_le (a := (k0, c, u)) (hmin _ (List.mem_map.mpr ⟨w1, h1, rfl⟩))
    have hum := GD2.fmem c u List.mem_cons_self
    have hcn : c < n := by
      cases hum with
      | mk hr _ => exact (G.cl _ hr).1
    obtain ⟨q6, sa, tv, rfl, hq6, hsa, dtv⟩ := Dp.ent dx'
    refine ⟨q6, _, rfl, hq6, rfl, _, _, rfl, _, _, rfl, _, _, rfl, _, _, rfl, _, _, rfl, _, _, rfl, rfl, ?_⟩
    dsimp only [gName]
    obtain ⟨b, ys, hb, eb, hys, dys⟩ := Sc.get hcn
    have lys : ys.length = (g c).length := by rw [DpAll.len dys, List.length_map]
    have gl := GD2.len c
    -- if len(self.members[own]) < self.many
    refine ⟨_, rfl, a.x, C, dx, _, _, rfl, obc, TF.cl, TF.nMembers, fl_members, _, rfl, a.mp, _, _, _, rfl, rfl, .inl (SqL.of Sc.hmp), eb, b, ys, rfl, .inl (SqL.of hys), _, rfl, a.x, C, dx, _, _, rfl, obc, TF.cl, TF.nMany, fl_many, .inl ⟨_, _, rfl, rfl, _, rfl, ?_⟩⟩
    have lpl := pl.length_eq
    rw [List.length_cons] at lpl
    refine dec_b (fun hroom => ?_) (fun hfull => ?_)
    rotate_left
    · refine ⟨lmu Tb n m g (ws'.map (·.2)), ?_, g, ws', cnt, _, _, _, _, _, _, rfl, frc, Sc, Uc, ?_, rfl⟩
      · rw [← hμ]
        exact lmu_drop (by rw [List.length_map, List.length_map]; omega)
      · have nd := GD2.fnd
        rw [List.nodup_cons] at nd
        exact GD2.drop (c := c) (u := u) (by omega) (fun e he => List.mem_cons_of_mem _ he) nd.2 fun e he hne => (List.mem_cons.mp he).resolve_left hne
    have room : (g c).length < m := by omega
    -- self.members[own].append((cost, size, term, symbols))
    refine ⟨_, rfl, a.x, C, dx, _, _, rfl, obc, TF.cl, TF.nMembers, fl_members, _, rfl, a.mp, _, _, _, rfl, rfl, .inl (SqL.of Sc.hmp), eb, .inl ⟨rfl, _, SqL.of hys⟩, _, rfl, _, rfl, _, rfl, _, rfl, by show 4 ≤ sizeLine; decide, fun t4 ht4 => ?_⟩
    have s4 : Same Hc (upd Hc t4 (.tup [.int (u.cost co : Nat), .int (u.size : Nat), tv, .ref sa])) := (Fr.new (M := []) ht4).same
    have wt4 : SqT K (upd Hc t4 (.tup [.int (u.cost co : Nat), .int (u.size : Nat), tv, .ref sa])) t4 [.int (u.cost co : Nat), .int (u.size : Nat), tv, .ref sa] := SqT.of upd_same
    refine ⟨b, ys, .ref t4, rfl, rfl, s4 _ _ hys, small_line (by omega), ?_⟩
    dsimp only [entOf]
    generalize upd Hc t4 (.tup [.int (u.cost co : Nat), .int (u.size : Nat), tv, .ref sa]) = Hd at s4 wt4
    have Sd := Sc.same s4
    have Ud := Uc.same s4
    have frd := frc.trans (.of_same s4)
    have dm : Dp K Hd (.ref t4) (memD co u) := .tup wt4 (.cons (.int _) (.cons (.int _) (.cons (Dp.tps (Tps.same s4) _ _ (trmD_flat _) dtv) (.cons (.tup ((Tps.same s4) _ _ hsa) (DpAll.ints _)) .nil))))
    have bm := List.mem_of_getElem? hb
    have Se := Sd.app hb (s4 _ _ hys) dm
    have Ue := Ud.app bm (o := .lst (ys ++ [.ref t4]))
    have fre : Fr (a.x :: a.wp :: a.ml) H (upd Hd b (.lst (ys ++ [.ref t4]))) := frd.put (.inr (List.mem_cons_of_mem _ (List.mem_cons_of_mem _ bm)))
    generalize upd Hd b (.lst (ys ++ [.ref t4])) = He at Se Ue fre
    obtain ⟨dxe, obe⟩ := Se.ob
    obtain ⟨b', ys', hb', eb', hys', dys'⟩ := Se.get hcn
    have lys' : ys'.length = (g c).length + 1 := by
      rw [DpAll.len dys', List.length_map, addF_same, List.length_append]
      rfl
    have un := GD2.fnew c u List.mem_cons_self
    have mem' : ∀ d t, t ∈ addF g c u d → Mem Tb t d := fun d t h => by
      rcases mem_addF.mp h with h | ⟨rfl, rfl⟩
      · exact GD2.mem d t h
      · exact hum
    have len' : ∀ d, (addF g c u d).length ≤ m := fun d => by
      have := GD2.len d
      rw [addF_len]
      split
      · next e => subst e; omega
      · omega
    have lfr := GD2.flen
    rw [List.length_cons, List.length_map] at lfr
    -- self.spread(own, len(self.members[own]) - 1)
    refine ⟨_, rfl, a.x, dxe, _, rfl, obe, fl_spread, _, rfl, _, rfl, a.x, C, dxe, _, _, rfl, obe, TF.cl, TF.nMembers, fl_members, _, rfl, a.mp, _, _, _, rfl, rfl, .inl (SqL.of Se.hmp), eb', b', ys', rfl, .inl (SqL.of hys'), _, _, rfl, rfl, ?_⟩
    have el1 : ((ys'.length : Nat) : Int) - 1 = (((g c).length : Nat) : Int) := by omega
    dsimp only
    rw [el1]
    refine ⟨a, Tb, n, m, ar, cs, co, g, c, u, ws', cnt, ul, rfl, Se, G, hco, Ue, hcn, GD2.nd, un, len', mem', hm, hw, by omega, fun ws2 E cnt2 Hf frf Sf pm2 N => ?_⟩
    have GD' := step_prog G.uq pos hm1 GD2 hmin2 room N pm2
    refine ⟨lmu Tb n m (addF g c u) (ws2.map (·.2)), ?_, _, ws2, cnt2, _, _, _, _, _, _, rfl, fre.trans (frA frf), Sf, Ue.fr Se frf, GD', rfl⟩
    rw [← hμ]
    exact lmu_add hcn GD'
  rintro _ H2 ⟨g, ws, cnt, v2, v3, v4, v5, v6, v7, rfl, fr2, S2, FP2⟩
  obtain ⟨dx, ob⟩ := S2.ob
  obtain ⟨b0, ys0, hb0, eb0, hys0, dys0⟩ := S2.get hc0
  exact ⟨_, rfl, a.x, C, dx, _, _, rfl, ob, TF.cl, TF.nMembers, fl_members, _, rfl, a.mp, _, _, _, rfl, rfl, .inl (SqL.of S2.hmp), eb0, k b0 ys0 (g c0) H2 fr2 hys0 dys0 FP2⟩
end
end R59
/-! W22 -/
set_option maxHeartbeats 1000000
namespace R59
open PySem PyProof.Rows L2 KB PySem.W
theorem cr_setW (K : PySem.W.Frag) (w : World) {X : Cx} (hc : X.calm = true) (hK : X.K = K := by rfl) (hw : X.w = w := by rfl) : CallR X (.type "set") (rSetT K w) := by
  subst hK hw
  exact cr_setT hc
theorem cr_sortedSetW (w : World) {X : Cx} (hc : X.calm = true) (hw : X.w = w := by rfl) : CallR X (.builtin "sorted") (rSortedSet w) := by
  subst hw
  exact cr_sortedSet hc
def fz0 : List (Str × V) := []
def fz1 (a : V) : List (Str × V) := [("table", a)]
def fz2 (a b : V) : List (Str × V) := [("table", a), ("costs", b)]
def fz3 (a b c : V) : List (Str × V) := [("table", a), ("costs", b), ("many", c)]
def fz4 (a b c d : V) : List (Str × V) := [("table", a), ("costs", b), ("many", c), ("members", d)]
def fz5 (a b c d e : V) : List (Str × V) := [("table", a), ("costs", b), ("many", c), ("members", d), ("waiting", e)]
def fz6 (a b c d e f : V) : List (Str × V) := [("table", a), ("costs", b), ("many", c), ("members", d), ("waiting", e), ("count", f)]
theorem pf1 (a : V) : putF "table" a [] = fz1 a := by kernel_rfl
theorem pf2 (a b : V) : putF "costs" b (fz1 a) = fz2 a b := by kernel_rfl
theorem pf3 (a b c : V) : putF "many" c (fz2 a b) = fz3 a b c := by kernel_rfl
theorem pf4 (a b c d : V) : putF "members" d (fz3 a b c) = fz4 a b c d := by kernel_rfl
theorem pf5 (a b c d e : V) : putF "waiting" e (fz4 a b c d) = fz5 a b c d e := by kernel_rfl
theorem pf6 (a b c d e f : V) : putF "count" f (fz5 a b c d e) = fz6 a b c d e f := by kernel_rfl
theorem pf7 (ta ca mp wp up : Addr) (m cnt : Nat) : putF "uses" (.ref up) (fz6 (.ref ta) (.ref ca) (.int (m : Nat)) (.ref mp) (.ref wp) (.int (cnt : Nat))) = flds ta ca m mp wp cnt up := by kernel_rfl
/-- the places ahead of p -/
def plcN (T : List Row) (p i : Nat) : List Nat := (List.range p).filter fun p => match T[p]? with
  | some r => decide (i ∈ r.is)
  | none => false
theorem plcN_all (T : List Row) (i : Nat) : plcN T T.length i = plc T i := rfl
theorem plcN_succ {T : List Row} {p i : Nat} {r : Row} (h : T[p]? = some r) : plcN T (p + 1) i = plcN T p i ++ if i ∈ r.is then [p] else [] := by
  unfold plcN
  rw [List.range_succ, List.filter_append]
  congr 1
  by_cases hi : i ∈ r.is <;> simp [h, hi]
theorem plcN_len (T : List Row) (p i : Nat) : (plcN T p i).length ≤ p := by
  have := List.length_filter_le (fun p => match T[p]? with
  | some r => decide (i ∈ r.is)
  | none => false) (List.range p)
  rw [List.length_range] at this
  exact this
theorem frt_succ {T : List Row} {p : Nat} {r : Row} (h : T[p]? = some r) : frt (T.take (p + 1)) = frt (T.take p) ++ if r.is = [] then [(r.c, Tm.node r.s [])] else [] := by
  unfold frt
  rw [take_get h, List.filter_append, List.map_append]
  congr 1
  by_cases hi : r.is = [] <;> simp [hi]
/-- new lists, one a class -/
structure NewLs (H H' : Hp) (D : Addr) (ls : List Addr) (n : Nat) : Prop where
  hD : H D = none
  at_ : H' D = some (.lst (ls.map V.ref))
  len : ls.length = n
  nd : ls.Nodup
  out : D ∉ ls
  el : ∀ b ∈ ls, H b = none ∧ H' b = some (.lst [])
theorem FSt.upd {K : PySem.W.Frag} {C : Addr} {H : Hp} {a : FAd} {T : List Row} {n m : Nat} {cs : List Int} {co : Nat → Nat} {g : Fnd} {ws : List (Nat × Nat × Tm)} {cnt : Nat} (S : FSt K C H a T n m cs co g ws cnt) {b : Addr} {ys zs : List V} (hy : H b = some (.lst ys)) (h1 : b ≠ a.wp) (h2 : b ≠ a.mp) (h3 : b ∉ a.ml) :
    FSt K C (L2.upd H b (.lst zs)) a T n m cs co g ws cnt := by
  have tm : Tps K H (L2.upd H b (.lst zs)) := .mut hy trivial
  obtain ⟨dx, ob⟩ := S.ob
  obtain ⟨vs, w1, w2⟩ := S.hw
  have bx : a.x ≠ b := fun e => by
    rw [e, hy] at ob
    cases ob
  refine ⟨⟨dx, by rw [upd_ne bx]; exact ob⟩, by rw [upd_ne h2.symm]; exact S.hmp, S.mlen, fun j q e => ?_, S.mnd, ⟨vs, by rw [upd_ne h1.symm]; exact w1, DpAll.tps tm _ _ (ents_flat co ws) w2⟩, S.ok, S.wml, S.wmp, S.mpl, S.ks, Dp.tps tm _ _ (tabD_flat _) S.dt, tm _ _ S.hca⟩
  obtain ⟨zs', e1, e2⟩ := S.mat j q e
  exact ⟨zs', by rw [upd_ne fun (z : q = b) => h3 (z ▸ List.mem_of_getElem? e)]; exact e1, DpAll.tps tm _ _ (mems_flat co _) e2⟩
theorem sfld_cut {K : PySem.W.Frag} {ta tv : TE} {u : TS} {fl : Str} {D : Ends} {σ : L2.St} {H : Hp} (Mid : V → Hp → Prop) (h1 : ∀ Z : VK, (∀ v H, Mid v H → Z v H) → tv σ H Z)
    (h2 : ∀ y H1, Mid y H1 → ta σ H1 fun x H2 => ∃ a C dx fs, x = .ref a ∧ H2 a = some (.ins C dx fs) ∧ Cls K C ∧ NoAttr K C fl ∧ fs.length < 1000 ∧ u D σ (L2.upd H2 a (.ins C dx (putF fl y fs)))) : tSeq (sFld K ta tv fl) u D σ H := h1 _ h2
section
variable {P : Program} {w : World} {K : PySem.W.Frag} {mg : Str → Option Value} {base : Heap} {f C : Addr} {fd : FuncData}
/-! ### __init__ -/
abbrev s_init : Stmt := inClass (top 15) 0
abbrev N_init : List Str := ["self", "table", "costs", "many", "place", "row", "own"]
theorem sc_init : FnScope N_init ["self", "table", "costs", "many"] (defScope s_init) := ⟨rfl, rfl, rfl, by decide +kernel, rfl, by decide +kernel, by decide +kernel⟩
def spInit (K : PySem.W.Frag) (C : Addr) : Sp := fun vs H Q _ => ∃ (x dx ta ca : Addr) (T : List Row) (n m : Nat) (ar : Nat → Nat) (cs : List Int) (co : Nat → Nat),
  vs = [.ref x, .ref ta, .ref ca, .int (m : Nat)] ∧ H x = some (.ins C dx []) ∧ Dp K H (.ref ta) (tabD T) ∧ TabG ar T n ∧ SqT K H ca (cs.map V.int) ∧ CoOk cs co T ∧
  ∀ (a : FAd) (ws : List (Nat × Nat × Tm)) (cnt : Nat) (ul : List Addr) (H' : Hp), a.x = x → H a.mp = none → H a.wp = none → (∀ b ∈ a.ml, H b = none) → Fr [x] H H' → FSt K C H' a T n m cs co (fun _ => []) ws cnt → UsesAt H' a ul T n → (ws.map (·.2)).Perm (frt T) → Q .non H'
set_option maxHeartbeats 4000000 in
theorem ok_init (F : FnP K "__init__" "Found.__init__" s_init f fd) (T : Nm mg) (TF : FTxt K mg C) (h_how_many : Has P w K mg base CX0 "how_many" ["table"] 1 (spMany K)) (h_put : HasM P w K mg base CX0 C "put" ["self", "place", "numbers"] 1 (spPut K C)) :
    FnOk P w K mg base CX0 2 f fd ["self", "table", "costs", "many"] (spInit K C) := by
  refine F.ok sc_init (fun vs H Q E h => ?_) (fun cdv A outer s H vs Q E hr h => ?_)
  · obtain ⟨x, dx, ta, ca, T, n, m, ar, cs, co, rfl, _⟩ := h
    rfl
  obtain ⟨x, dx, ta, ca, Tb, n, m, ar, cs, co, rfl, hx, dt, G, hca, hco, k⟩ := h
  have hq := hq_of hr
  have hu := hu_of hr
  refine ⟨_, PSs.nox
  (pss_cons (ps_fld (pv 0) (pv 1) rfl)
      (pss_cons (ps_fld (pv 0) (pv 2) rfl)
      (pss_cons (ps_fld (pv 0) (pv 3) rfl)
      (pss_cons (ps_fld (pv 0) (pe_lc (own := [("own", 6)]) rfl sc_init.nd (pi_range1 (by rfl) T.range (pa_cons (pe_f h_how_many (hr.mono (by decide)) (by rfl) (pa_cons (pv 1) pa_nil)) pa_nil)) (blkOk_by (N := N_init) (sc := defScope s_init) (by decide +kernel)) (fun _ _ _ _ _ => (pg_name (i := 6) sc_init.nd rfl (Or.inl rfl))) (fun _ _ _ _ _ => pts_nil) (fun _ _ _ _ _ => (pe_lst pa_nil))) rfl)
      (pss_cons (ps_fld (pv 0) (pe_lst pa_nil) rfl)
      (pss_cons (ps_fld (pv 0) pe_int rfl)
      (pss_cons (ps_fld (pv 0) (pe_lc (own := [("own", 6)]) rfl sc_init.nd (pi_range1 (by rfl) T.range (pa_cons (pe_f h_how_many (hr.mono (by decide)) (by rfl) (pa_cons (pv 1) pa_nil)) pa_nil)) (blkOk_by (N := N_init) (sc := defScope s_init) (by decide +kernel)) (fun _ _ _ _ _ => (pg_name (i := 6) sc_init.nd rfl (Or.inl rfl))) (fun _ _ _ _ _ => pts_nil) (fun _ _ _ _ _ => (pe_lst pa_nil))) rfl)
      (pss_one (ps_for PassesOwn.never rfl (pi_enumT (by rfl) T.enumerate (pa_cons (pv 1) pa_nil)) (pg_tupK (n := 2) K rfl (pgs_cons (pg_name (i := 4) sc_init.nd rfl (Or.inl rfl)) (pgs_cons (pg_name (i := 5) sc_init.nd rfl (Or.inl rfl)) pgs_nil))) (pss_cons (ps_for PassesOwn.never rfl (pi_listK K (pe_callB (cr_sortedSetW w rfl) (by rfl) T.sorted bt_sorted (pa_cons (pe_callTy (cr_setW K w rfl) (by rfl) T.set bt_set (pa_cons (pe_ix (ix_K K) (pv 5) pe_int (fun _ _ => rfl)) pa_nil)) pa_nil))) (pg_name (i := 6) sc_init.nd rfl (Or.inl rfl)) (pss_one (ps_expr (pe_appK K (pe_ix (ix_K K) (pe_fldK K (pv 0)) (pv 6) (fun _ _ => rfl)) (pv 4)))))
      (pss_one (ps_if (pt_cmpR (op_eqK K hq) (pe_ix (ix_K K) (pv 5) pe_int (fun _ _ => rfl)) (pe_tup pa_nil) (nomark _)) (pss_one (ps_expr (pe_mH h_put TF.cl (hr.mono (by decide)) (pv 0) (pa_cons (pv 4) (pa_cons (pe_tup pa_nil) pa_nil))))) pss_nil)))))))))))), ?_⟩
  have n42 := G.n42
  -- self.table = table; self.costs = costs; self.many = many
  refine ⟨_, rfl, _, rfl, x, C, dx, [], rfl, hx, TF.cl, TF.nTable, (by show 0 < 1000; decide), ?_⟩
  rw [pf1]
  refine ⟨_, rfl, _, rfl, x, C, dx, _, rfl, upd_same, TF.cl, TF.nCosts, (by show 1 < 1000; decide), ?_⟩
  rw [pf2]
  refine ⟨_, rfl, _, rfl, x, C, dx, _, rfl, upd_same, TF.cl, TF.nMany, (by show 2 < 1000; decide), ?_⟩
  rw [pf3]
  have f3 : Fr [x] H (L2.upd (L2.upd (L2.upd H x (.ins C dx (fz1 (.ref ta)))) x (.ins C dx (fz2 (.ref ta) (.ref ca)))) x (.ins C dx (fz3 (.ref ta) (.ref ca) (.int (m : Nat))))) := (((Fr.refl _ _).put (.inr (by simp))).put (.inr (by simp))).put (.inr (by simp))
  have o3 : L2.upd (L2.upd (L2.upd H x (.ins C dx (fz1 (.ref ta)))) x (.ins C dx (fz2 (.ref ta) (.ref ca)))) x (.ins C dx (fz3 (.ref ta) (.ref ca) (.int (m : Nat)))) x = some (.ins C dx (fz3 (.ref ta) (.ref ca) (.int (m : Nat)))) := upd_same
  generalize L2.upd (L2.upd (L2.upd H x (.ins C dx (fz1 (.ref ta)))) x (.ins C dx (fz2 (.ref ta) (.ref ca)))) x (.ins C dx (fz3 (.ref ta) (.ref ca) (.int (m : Nat)))) = H3 at f3 o3
  have tpx : ∀ {Hy : Hp}, Fr [x] H Hy → Tps K H Hy := fun fr => fr.tps fun b hb => by
    rw [List.mem_singleton.mp hb]
    exact ⟨_, hx, trivial⟩
  have dt3 := Dp.tps (tpx f3) _ _ (tabD_flat _) dt
  -- self.members = [[] for own in range(how_many(table))]
  dsimp only
  refine sfld_cut (fun v H' => ∃ (D : Addr) (ls : List Addr), v = .ref D ∧ Same H3 H' ∧ NewLs H3 H' D ls n) (fun Z hZ => ?_) ?_
  · refine ⟨_, rfl, ta, Tb, n, ar, rfl, dt3, G, fun H4 s4 => ?_⟩
    refine ⟨_, rfl, by omega, by omega, fun D hD => ?_⟩
    refine lcM (walk_range (lo := 0) (n := ((n : Nat) : Int).toNat)) [] hD (fun i acc H' => ∃ ls : List Addr, acc = ls.map V.ref ∧ ls.length = i ∧ ls.Nodup ∧ D ∉ ls ∧ (∀ a ∈ ls, H4 a = none ∧ H' a = some (.lst []))) ⟨[], rfl, rfl, List.nodup_nil, by simp, fun a h => by cases h⟩ (fun _ _ _ _ _ => trivial) ?_ ?_
    · rintro i y acc H5 H6 Nx hN hi fr e ⟨ls, rfl, c1, c2, c3, c4⟩ ⟨rfl, rfl⟩
      refine ⟨rfl, ?_⟩
      refine yes_cut ?_
      refine ⟨Nat.zero_le _, fun p hp => ?_⟩
      have pD : p ≠ D := fun q => by
        rw [q, e] at hp
        cases hp
      have p1 : H4 p = none := fr.free hp (by simp)
      refine ⟨_, by rw [upd_ne pD.symm]; exact e, small_line (by rw [List.length_map]; omega), hN _ _ upd_same ((fr.trans (Fr.new hp)).put (.inl hD)) ⟨ls ++ [p], by simp, by simp [c1], ?_, ?_, ?_⟩⟩
      · refine List.nodup_append.mpr ⟨c2, by simp, fun a ha b hb q => ?_⟩
        rw [List.mem_singleton.mp hb] at q
        subst q
        rw [(c4 a ha).2] at hp
        cases hp
      · simp only [List.mem_append, List.mem_singleton, not_or]
        exact ⟨c3, Ne.symm pD⟩
      · intro a ha
        rcases List.mem_append.mp ha with ha | ha
        · have n1 : a ≠ D := fun q => c3 (q ▸ ha)
          have n2 : a ≠ p := fun q => by
            rw [← q, (c4 a ha).2] at hp
            cases hp
          exact ⟨(c4 a ha).1, by rw [upd_ne n1, upd_ne n2]; exact (c4 a ha).2⟩
        · rw [List.mem_singleton.mp ha]
          exact ⟨p1, by rw [upd_ne pD, upd_same]⟩
    · rintro acc H5 fr e ⟨ls, rfl, c1, c2, c3, c4⟩
      exact hZ _ _ ⟨D, ls, rfl, s4.trans fr.same, s4.free hD, e, by omega, c2, c3, fun b hb => ⟨s4.free (c4 b hb).1, (c4 b hb).2⟩⟩
  rintro _ H4 ⟨mp, ml, rfl, s34, NL⟩
  have f4 : Fr [x] H H4 := f3.trans (.of_same s34)
  have mx : ∀ {b : Addr}, H3 b = none → b ≠ x := fun {b} h e => by
    rw [e, o3] at h
    cases h
  have xnew : ∀ {b : Addr}, b ≠ x → H3 b = none → H b = none := fun {b} hb h => f3.free h (by simpa using hb)
  refine ⟨_, rfl, x, C, dx, _, rfl, s34 _ _ o3, TF.cl, TF.nMembers, (by show 3 < 1000; decide), ?_⟩
  rw [pf4]
  have f5 : Fr [x] H4 (L2.upd H4 x (.ins C dx (fz4 (.ref ta) (.ref ca) (.int (m : Nat)) (.ref mp)))) := (Fr.refl _ _).put (.inr (by simp))
  have o5 : L2.upd H4 x (.ins C dx (fz4 (.ref ta) (.ref ca) (.int (m : Nat)) (.ref mp))) x = some (.ins C dx (fz4 (.ref ta) (.ref ca) (.int (m : Nat)) (.ref mp))) := upd_same
  have n5 : ∀ {b : Addr}, b ≠ x → L2.upd H4 x (.ins C dx (fz4 (.ref ta) (.ref ca) (.int (m : Nat)) (.ref mp))) b = H4 b := fun {b} hb => upd_ne hb
  generalize L2.upd H4 x (.ins C dx (fz4 (.ref ta) (.ref ca) (.int (m : Nat)) (.ref mp))) = H5 at f5 o5 n5
  have mp5 : H5 mp = some (.lst (ml.map V.ref)) := by rw [n5 (mx NL.hD)]; exact NL.at_
  have el5 : ∀ b ∈ ml, b ≠ x ∧ H5 b = some (.lst []) := fun b hb => by
    have hbx := mx (NL.el b hb).1
    exact ⟨hbx, by rw [n5 hbx]; exact (NL.el b hb).2⟩
  -- self.waiting = []; self.count = 0
  refine ⟨Nat.zero_le _, fun wp hwp => ?_⟩
  have wpx : wp ≠ x := fun e => by
    rw [e, o5] at hwp
    cases hwp
  have wpm : wp ≠ mp := fun e => by
    rw [e, mp5] at hwp
    cases hwp
  have wpl : wp ∉ ml := fun e => by
    rw [(el5 wp e).2] at hwp
    cases hwp
  have s6 : Same H5 (L2.upd H5 wp (.lst [])) := (Fr.new (M := []) hwp).same
  have w6 : L2.upd H5 wp (.lst []) wp = some (.lst []) := upd_same
  generalize L2.upd H5 wp (.lst []) = H6 at s6 w6
  refine ⟨_, rfl, x, C, dx, _, rfl, s6 _ _ o5, TF.cl, TF.nWaiting, (by show 4 < 1000; decide), ?_⟩
  rw [pf5]
  refine ⟨_, rfl, x, C, dx, _, rfl, upd_same, TF.cl, TF.nCount, (by show 5 < 1000; decide), ?_⟩
  rw [pf6]
  have f7 : Fr [x] H6 (L2.upd (L2.upd H6 x (.ins C dx (fz5 (.ref ta) (.ref ca) (.int (m : Nat)) (.ref mp) (.ref wp)))) x (.ins C dx (fz6 (.ref ta) (.ref ca) (.int (m : Nat)) (.ref mp) (.ref wp) (.int 0)))) := ((Fr.refl _ _).put (.inr (by simp))).put (.inr (by simp))
  have o7 : L2.upd (L2.upd H6 x (.ins C dx (fz5 (.ref ta) (.ref ca) (.int (m : Nat)) (.ref mp) (.ref wp)))) x (.ins C dx (fz6 (.ref ta) (.ref ca) (.int (m : Nat)) (.ref mp) (.ref wp) (.int 0))) x = some (.ins C dx (fz6 (.ref ta) (.ref ca) (.int (m : Nat)) (.ref mp) (.ref wp) (.int 0))) := upd_same
  generalize L2.upd (L2.upd H6 x (.ins C dx (fz5 (.ref ta) (.ref ca) (.int (m : Nat)) (.ref mp) (.ref wp)))) x (.ins C dx (fz6 (.ref ta) (.ref ca) (.int (m : Nat)) (.ref mp) (.ref wp) (.int 0))) = H7 at f7 o7
  have f07 : Fr [x] H H7 := ((f4.trans f5).trans (.of_same s6)).trans f7
  have dt7 := Dp.tps (tpx f07) _ _ (tabD_flat _) dt
  -- self.uses = [[] for own in range(how_many(table))]
  dsimp only
  refine sfld_cut (fun v H' => ∃ (D : Addr) (ls : List Addr), v = .ref D ∧ Same H7 H' ∧ NewLs H7 H' D ls n) (fun Z hZ => ?_) ?_
  · refine ⟨_, rfl, ta, Tb, n, ar, rfl, dt7, G, fun H4 s4 => ?_⟩
    refine ⟨_, rfl, by omega, by omega, fun D hD => ?_⟩
    refine lcM (walk_range (lo := 0) (n := ((n : Nat) : Int).toNat)) [] hD (fun i acc H' => ∃ ls : List Addr, acc = ls.map V.ref ∧ ls.length = i ∧ ls.Nodup ∧ D ∉ ls ∧ (∀ a ∈ ls, H4 a = none ∧ H' a = some (.lst []))) ⟨[], rfl, rfl, List.nodup_nil, by simp, fun a h => by cases h⟩ (fun _ _ _ _ _ => trivial) ?_ ?_
    · rintro i y acc H5 H6 Nx hN hi fr e ⟨ls, rfl, c1, c2, c3, c4⟩ ⟨rfl, rfl⟩
      refine ⟨rfl, ?_⟩
      refine yes_cut ?_
      refine ⟨Nat.zero_le _, fun p hp => ?_⟩
      have pD : p ≠ D := fun q => by
        rw [q, e] at hp
        cases hp
      have p1 : H4 p = none := fr.free hp (by simp)
      refine ⟨_, by rw [upd_ne pD.symm]; exact e, small_line (by rw [List.length_map]; omega), hN _ _ upd_same ((fr.trans (Fr.new hp)).put (.inl hD)) ⟨ls ++ [p], by simp, by simp [c1], ?_, ?_, ?_⟩⟩
      · refine List.nodup_append.mpr ⟨c2, by simp, fun a ha b hb q => ?_⟩
        rw [List.mem_singleton.mp hb] at q
        subst q
        rw [(c4 a ha).2] at hp
        cases hp
      · simp only [List.mem_append, List.mem_singleton, not_or]
        exact ⟨c3, Ne.symm pD⟩
      · intro a ha
        rcases List.mem_append.mp ha with ha | ha
        · have n1 : a ≠ D := fun q => c3 (q ▸ ha)
          have n2 : a ≠ p := fun q => by
            rw [← q, (c4 a ha).2] at hp
            cases hp
          exact ⟨(c4 a ha).1, by rw [upd_ne n1, upd_ne n2]; exact (c4 a ha).2⟩
        · rw [List.mem_singleton.mp ha]
          exact ⟨p1, by rw [upd_ne pD, upd_same]⟩
    · rintro acc H5 fr e ⟨ls, rfl, c1, c2, c3, c4⟩
      exact hZ _ _ ⟨D, ls, rfl, s4.trans fr.same, s4.free hD, e, by omega, c2, c3, fun b hb => ⟨s4.free (c4 b hb).1, (c4 b hb).2⟩⟩
  rintro _ H8 ⟨up, ul, rfl, s78, NU⟩
  have ux : ∀ {b : Addr}, H7 b = none → b ≠ x := fun {b} h e => by
    rw [e, o7] at h
    cases h
  refine ⟨_, rfl, x, C, dx, _, rfl, s78 _ _ o7, TF.cl, TF.nUses, (by show 6 < 1000; decide), ?_⟩
  have e7 := pf7 ta ca mp wp up m 0
  rw [show (V.int ((0 : Nat) : Int)) = V.int 0 from rfl] at e7
  rw [e7]
  have f9 : Fr [x] H8 (L2.upd H8 x (.ins C dx (flds ta ca m mp wp 0 up))) := (Fr.refl _ _).put (.inr (by simp))
  have o9 : L2.upd H8 x (.ins C dx (flds ta ca m mp wp 0 up)) x = some (.ins C dx (flds ta ca m mp wp 0 up)) := upd_same
  have n9 : ∀ {b : Addr}, b ≠ x → L2.upd H8 x (.ins C dx (flds ta ca m mp wp 0 up)) b = H8 b := fun {b} hb => upd_ne hb
  generalize L2.upd H8 x (.ins C dx (flds ta ca m mp wp 0 up)) = H9 at f9 o9 n9
  have f09 : Fr [x] H H9 := (f07.trans (.of_same s78)).trans f9
  have tp9 := tpx f09
  have f59 : ∀ {b : Addr} {o : HO}, b ≠ x → H5 b = some o → H9 b = some o := fun {b o} hb e => f9 _ _ (s78 _ _ (f7 _ _ (s6 _ _ e) (by simpa using hb))) (by simpa using hb)
  have w9 : H9 wp = some (.lst []) := f9 _ _ (s78 _ _ (f7 _ _ w6 (by simpa using wpx))) (by simpa using wpx)
  have new7 : ∀ {b : Addr}, H7 b = none → H b = none := fun {b} h => f07.free h (by simpa using ux h)
  have wp0 : H wp = none := (f4.trans f5).free hwp (by simpa using wpx)
  have u9 : ∀ b ∈ ul, b ≠ x ∧ H9 b = some (.lst []) := fun b hb => by
    have hbx := ux (NU.el b hb).1
    exact ⟨hbx, by rw [n9 hbx]; exact (NU.el b hb).2⟩
  have up9 : H9 up = some (.lst (ul.map V.ref)) := by rw [n9 (ux NU.hD)]; exact NU.at_
  have k7 : ∀ {b : Addr}, (∃ o, H7 b = some o) → b ≠ up ∧ b ∉ ul := fun {b} ⟨o, h⟩ => by
    refine ⟨fun e => ?_, fun e => ?_⟩
    · have := NU.hD
      rw [← e, h] at this
      cases this
    · have := (NU.el b e).1
      rw [h] at this
      cases this
  have kml : ∀ b ∈ ml, b ≠ up ∧ b ∉ ul := fun b hb => k7 ⟨_, f7 _ _ (s6 _ _ (el5 b hb).2) (by simpa using (el5 b hb).1)⟩
  have kwp : wp ≠ up ∧ wp ∉ ul := k7 ⟨_, f7 _ _ w6 (by simpa using wpx)⟩
  have kmp : mp ≠ up ∧ mp ∉ ul := k7 ⟨_, f7 _ _ (s6 _ _ mp5) (by simpa using mx NL.hD)⟩
  have mlx : mp ≠ x := mx NL.hD
  have S9 : FSt K C H9 ⟨x, ta, ca, mp, wp, up, ml⟩ Tb n m cs co (fun _ => []) [] 0 := ⟨⟨dx, o9⟩, f59 mlx mp5, NL.len, fun i b e => ⟨[], f59 (el5 b (List.mem_of_getElem? e)).1 (el5 b (List.mem_of_getElem? e)).2, .nil⟩, NL.nd, ⟨[], w9, .nil⟩, ⟨KH.Hpd.nil, List.Pairwise.nil, fun _ h => nomatch h⟩, wpl, wpm, NL.out, (fun _ h => nomatch h), Dp.tps tp9 _ _ (tabD_flat _) dt, tp9 _ _ hca⟩
  have ul0 : ∀ b ∈ ul, H b = none := fun b hb => new7 (NU.el b hb).1
  have up0 : H up = none := new7 NU.hD
  obtain ⟨a', xsT, ea, htaT, dxT⟩ := Dp.tupOf dt
  cases ea
  have lxT : xsT.length = Tb.length := by rw [DpAll.len dxT, List.length_map]
  have p9 : ∀ (c : Nat) b, ul[c]? = some b → H9 b = some (.lst ((plcN Tb 0 c).map fun p : Nat => V.int (p : Int))) := fun c b e => (u9 b (List.mem_of_getElem? e)).2
  have mp0 : H mp = none := xnew mlx NL.hD
  have ml0 : ∀ b ∈ ml, H b = none := fun b hb => xnew (mx (NL.el b hb).1) (NL.el b hb).1
  have ulen := NU.len
  have und := NU.nd
  have uout := NU.out
  have mlen := NL.len
  refine ⟨_, rfl, ta, _, rfl, tp9 _ _ htaT, ?_⟩
  refine for_it (walk_enumT (xs := xsT)) (fun p σ H' => ∃ (ws : List (Nat × Nat × Tm)) (cnt : Nat) (v4 v5 v6 : Option V), σ = [some (.ref x), some (.ref ta), some (.ref ca), some (.int (m : Nat)), v4, v5, v6] ∧ Fr [x] H H' ∧ FSt K C H' ⟨x, ta, ca, mp, wp, up, ml⟩ Tb n m cs co (fun _ => []) ws cnt ∧ H' up = some (.lst (ul.map V.ref)) ∧
      (∀ (c : Nat) b, ul[c]? = some b → H' b = some (.lst ((plcN Tb p c).map fun p : Nat => V.int (p : Int)))) ∧ (ws.map (·.2)).Perm (frt (Tb.take p)))
    ⟨[], 0, _, _, _, rfl, f09, S9, up9, p9, .refl _⟩ ?_ ?_ ?_
  · rintro p σ H' _ ⟨_, _, _, _, _, _, fr, _⟩
    exact tpx fr _ _ htaT
  · rintro p v _ Hz Hb hp ⟨ws, cnt, v4, v5, v6, rfl, frb, Sb, hup, hpl, pm⟩ ⟨t, y1, y2, rfl, ht0, rfl, e1, hv⟩
    cases e1
    obtain ⟨dd, ed, dr0⟩ := DpAll.get' dxT hv
    rw [List.getElem?_map] at ed
    cases hr0 : Tb[p]? with
    | none =>
      rw [hr0] at ed
      cases ed
    | some r =>
    rw [hr0] at ed
    obtain rfl := Option.some.inj ed
    have hrT := List.mem_of_getElem? hr0
    have ilen : r.is.length ≤ 3 := by
      rw [G.a3 r hrT]
      exact G.ar3 _
    have lT := G.len
    obtain ⟨ra, ia, rfl, hra0, hia0⟩ := Dp.row dr0
    have s1 : Same Hz (L2.upd Hz t (.tup [.int (p : Nat), .ref ra])) := (Fr.new (M := []) ht0).same
    have wt : SqT K (L2.upd Hz t (.tup [.int (p : Nat), .ref ra])) t [.int (p : Nat), .ref ra] := SqT.of upd_same
    generalize L2.upd Hz t (.tup [.int (p : Nat), .ref ra]) = Ha at s1 wt
    have fra : Fr [x] H Ha := frb.trans (.of_same s1)
    have Sa := Sb.same s1
    refine ⟨t, _, rfl, wt, rfl, _, _, rfl, _, _, rfl, rfl, ?_⟩
    dsimp only [gName]
    have hra := tpx fra _ _ hra0
    have hia := tpx fra _ _ hia0
    -- for own in sorted(set(row[1]))
    refine seq_cut (fun σ H' => ∃ v6, σ = [some (.ref x), some (.ref ta), some (.ref ca), some (.int (m : Nat)), some (.int (p : Nat)), some (.ref ra), v6] ∧ Fr [x] H H' ∧ FSt K C H' ⟨x, ta, ca, mp, wp, up, ml⟩ Tb n m cs co (fun _ => []) ws cnt ∧ H' up = some (.lst (ul.map V.ref)) ∧
      (∀ (c : Nat) b, ul[c]? = some b → H' b = some (.lst ((plcN Tb (p + 1) c).map fun p : Nat => V.int (p : Int))))) (fun Z hZ => ?_) ?_
    · refine ⟨_, rfl, ra, _, 1, _, rfl, rfl, .inr hra, rfl, ia, r.is.map fun i : Nat => (i : Int), rfl, (by rw [List.map_map]; exact hia), by rw [List.length_map]; omega, fun p1 c1 hp1 hc1 => ?_⟩
      rw [List.length_map] at hc1
      have q1 : Same Ha (L2.upd Ha p1 (SetO w p1 (fun j => decide (j ∈ r.is.map fun i : Nat => (i : Int))) c1)) := (Fr.new (M := []) hp1).same
      refine ⟨p1, _, c1, rfl, upd_same, by omega, fun ns p2 srt hmem hlen hp2 => ?_⟩
      generalize L2.upd Ha p1 (SetO w p1 (fun j => decide (j ∈ r.is.map fun i : Nat => (i : Int))) c1) = Hc at q1 hp2
      have q2 : Same Hc (L2.upd Hc p2 (.lst (ns.map V.int))) := (Fr.new (M := []) hp2).same
      have w2 : L2.upd Hc p2 (.lst (ns.map V.int)) p2 = some (.lst (ns.map V.int)) := upd_same
      have sad := (s1.trans q1).trans q2
      have pu : ∀ b ∈ ul, b ≠ p2 := fun b hb e => by
        obtain ⟨c, hc⟩ := List.mem_iff_getElem?.mp hb
        have h1 := (s1.trans q1) _ _ (hpl c b hc)
        rw [e, hp2] at h1
        cases h1
      generalize L2.upd Hc p2 (.lst (ns.map V.int)) = Hd at q2 w2 sad
      refine ⟨p2, rfl, ⟨_, SqL.of w2⟩, ?_⟩
      have ndn : ∀ (j : Nat) (z : Int), ns[j]? = some z → z ∉ ns.take j := fun j z hz h => by
        obtain ⟨i, hi⟩ := List.mem_iff_getElem?.mp h
        rw [List.getElem?_take] at hi
        split at hi
        · next hlt =>
          obtain ⟨a1, a2⟩ := List.getElem?_eq_some_iff.mp hi
          obtain ⟨b1, b2⟩ := List.getElem?_eq_some_iff.mp hz
          have := List.pairwise_iff_getElem.mp srt i j a1 b1 hlt
          omega
        · cases hi
      refine for_it (walk_list (xs := ns.map V.int)) (fun j σ H' => ∃ v6, σ = [some (.ref x), some (.ref ta), some (.ref ca), some (.int (m : Nat)), some (.int (p : Nat)), some (.ref ra), v6] ∧ Fr [x] H H' ∧ H' p2 = some (.lst (ns.map V.int)) ∧ FSt K C H' ⟨x, ta, ca, mp, wp, up, ml⟩ Tb n m cs co (fun _ => []) ws cnt ∧ H' up = some (.lst (ul.map V.ref)) ∧
          (∀ (c : Nat) b, ul[c]? = some b → H' b = some (.lst ((plcN Tb p c ++ if ((c : Nat) : Int) ∈ ns.take j then [p] else []).map fun p : Nat => V.int (p : Int)))))
        ⟨_, rfl, frb.trans (.of_same sad), w2, Sb.same sad, sad _ _ hup, fun c b e => by simpa using sad _ _ (hpl c b e)⟩ ?_ ?_ ?_
      · rintro j σ H' _ ⟨_, _, _, h2, _⟩
        exact SqL.of h2
      · rintro j v _ Hy He hj ⟨v6, rfl, fre, h2e, Se, hupe, hple⟩ ⟨rfl, hv⟩
        obtain ⟨z, hz, rfl⟩ := get_mapI hv
        have hzm : z ∈ r.is.map fun i : Nat => (i : Int) := by
          have := (hmem z).mp (List.mem_of_getElem? hz)
          exact of_decide_eq_true this
        obtain ⟨i0, hi0, rfl⟩ := List.mem_map.mp hzm
        have hin : i0 < n := (G.cl r hrT).2 i0 hi0
        obtain ⟨b, hb⟩ : ∃ b, ul[i0]? = some b := ⟨_, List.getElem?_eq_getElem (by rw [ulen]; exact hin)⟩
        have hbm := List.mem_of_getElem? hb
        have eb : atI (ul.map V.ref) (i0 : Nat) = some (.ref b) := atI_nat (by rw [List.getElem?_map, hb]; rfl)
        have hbl := hple i0 b hb
        rw [if_neg (ndn j _ hz), List.append_nil] at hbl
        obtain ⟨dxe, obe⟩ := Se.ob
        have lpl := plcN_len Tb p i0
        have hpT := (List.getElem?_eq_some_iff.mp hr0).1
        refine ⟨_, rfl, x, C, dxe, _, _, rfl, obe, TF.cl, TF.nUses, fl_uses, _, rfl, up, _, _, _, rfl, rfl, .inl (SqL.of hupe), eb, .inl ⟨rfl, _, SqL.of hbl⟩, _, rfl, b, _, _, rfl, rfl, hbl, small_line (by rw [List.length_map]; omega), ?_⟩
        have kb : ∀ {q : Addr}, q ∉ ul → b ≠ q := fun hq e => hq (e ▸ hbm)
        refine ⟨_, rfl, fre.put (.inl (ul0 b hbm)), by rw [upd_ne (pu b hbm).symm]; exact h2e, Se.upd hbl (kb kwp.2) (kb kmp.2) (fun h => (kml b h).2 hbm), by rw [upd_ne (kb uout).symm]; exact hupe, fun c b' e => ?_⟩
        have et : ns.take (j + 1) = ns.take j ++ [((i0 : Nat) : Int)] := take_get hz
        by_cases hc : c = i0
        · subst hc
          rw [hb] at e
          cases e
          rw [upd_same, et, if_pos (by simp), List.map_append]
          rfl
        · have : b' ≠ b := fun y => by
            subst y
            obtain ⟨h1, h3⟩ := List.getElem?_eq_some_iff.mp e
            obtain ⟨h4, h5⟩ := List.getElem?_eq_some_iff.mp hb
            exact hc ((List.getElem_inj und).mp (h3.trans h5.symm))
          rw [upd_ne this, hple c b' e, et]
          have : (((c : Nat) : Int) ∈ ns.take j ++ [((i0 : Nat) : Int)]) ↔ ((c : Nat) : Int) ∈ ns.take j := by
            rw [List.mem_append, List.mem_singleton]
            constructor
            · rintro (h | h)
              · exact h
              · omega
            · exact .inl
          simp only [this]
      · rintro _ He ⟨v6, rfl, fre, h2e, Se, hupe, hple⟩
        rw [List.length_map, List.take_of_length_le (Nat.le_refl _)] at hple
        refine hZ _ _ ⟨_, rfl, fre, Se, hupe, fun c b e => ?_⟩
        rw [hple c b e, plcN_succ hr0]
        have : ((c : Nat) : Int) ∈ ns ↔ c ∈ r.is := by
          rw [hmem, decide_eq_true_iff, List.mem_map]
          constructor
          · rintro ⟨i, h1, h3⟩
            have : i = c := by omega
            rw [← this]
            exact h1
          · intro h
            exact ⟨c, h, rfl⟩
        simp only [this]
    rintro _ Hc ⟨v6, rfl, frc, Sc, hupc, hplc⟩
    have hrac := tpx frc _ _ hra0
    have hiac := tpx frc _ _ hia0
    -- if row[1] == ()
    refine ⟨_, rfl, ra, _, 1, _, rfl, rfl, .inr hrac, rfl, Nat.zero_le _, fun p3 hp3 => .inr ⟨isD r.is, .tuple [], Dp.of_nats ((Tps.same (Fr.new (M := []) hp3).same) _ _ hiac), .tup (SqT.of upd_same) .nil, by rw [depth_isD]; omega, _, rfl, ?_⟩⟩
    have q3 := (Fr.new (M := []) (o := .tup []) hp3).same
    generalize L2.upd Hc p3 (.tup []) = Hd at q3
    have en : (isD r.is).eqv (.tuple []) = decide (r.is = []) := isD_eqv r.is []
    rw [en]
    have frd : Fr [x] H Hd := frc.trans (.of_same q3)
    have Sd := Sc.same q3
    refine dec_b (fun h1 => ?_) (fun h1 => ?_)
    · obtain ⟨dxd, obd⟩ := Sd.ob
      have lws : ws.length ≤ 20000 := by
        have h2 := pm.length_eq
        rw [List.length_map] at h2
        have h3 : (frt (Tb.take p)).length ≤ Tb.length := by
          unfold frt
          rw [List.length_map]
          have h4 := List.length_filter_le (fun r : Row => decide (r.is = [])) (Tb.take p)
          rw [List.length_take] at h4
          omega
        omega
      refine ⟨_, rfl, x, dxd, _, rfl, obd, fl_put, _, rfl, Nat.zero_le _, fun p4 hp4 => ?_⟩
      have q4 := (Fr.new (M := []) (o := .tup []) hp4).same
      have w4 : SqT K (L2.upd Hd p4 (.tup [])) p4 [] := SqT.of upd_same
      generalize L2.upd Hd p4 (.tup []) = He at q4 w4
      refine ⟨⟨x, ta, ca, mp, wp, up, ml⟩, Tb, n, m, ar, cs, co, fun _ => [], ws, cnt, p, r, .ref p4, [], [], rfl, Sd.same q4, G, hco, hr0, .tup w4 .nil, by rw [h1]; exact .nil, lws, fun ws' Hf frf Sf pm' => ?_⟩
      have nin : ∀ {b : Addr}, b ∈ ul ∨ b = up → b ∉ [x, wp] := fun {b} hb h => by
        rcases List.mem_cons.mp h with e | h
        · rcases hb with hb | hb
          · exact ux (NU.el b hb).1 e
          · rw [hb] at e
            exact ux NU.hD e
        · have e := List.mem_singleton.mp h
          rcases hb with hb | hb
          · exact kwp.2 (e ▸ hb)
          · exact kwp.1 (e.symm.trans hb)
      refine ⟨ws', _, _, _, _, rfl, fun b o hb hn => ?_, Sf, frf _ _ (q4 _ _ (q3 _ _ hupc)) (nin (.inr rfl)), fun c b e => frf _ _ (q4 _ _ (q3 _ _ (hplc c b e))) (nin (.inl (List.mem_of_getElem? e))), ?_⟩
      · refine frf _ _ (q4 _ _ (frd _ _ hb hn)) fun h => ?_
        rcases List.mem_cons.mp h with e | h
        · exact hn (by rw [e]; simp)
        · rw [List.mem_singleton.mp h, wp0] at hb
          cases hb
      · rw [frt_succ hr0, if_pos h1]
        exact pm'.trans (pm.append_right _)
    · refine ⟨ws, _, _, _, _, rfl, frd, Sd, q3 _ _ hupc, fun c b e => q3 _ _ (hplc c b e), ?_⟩
      rw [frt_succ hr0, if_neg h1, List.append_nil]
      exact pm
  · rintro _ Ha ⟨ws, cnt, v4, v5, v6, rfl, fra, Sa, hup, hpl, pm⟩
    rw [lxT] at hpl pm
    rw [List.take_of_length_le (Nat.le_refl _)] at pm
    exact k ⟨x, ta, ca, mp, wp, up, ml⟩ ws cnt ul Ha rfl mp0 wp0 ml0 fra Sa ⟨hup, ulen, fun c b e => hpl c b e, kwp.1, kwp.2, fun h => (kml _ h).1 rfl, fun b hb h => (kml b h).2 hb⟩ pm
end
end R59
/-! W23 -/
set_option maxHeartbeats 1000000
namespace R59
open PySem PyProof.Rows L2 KB PySem.W
structure HasMk (P : Program) (w : World) (K : PySem.W.Frag) (mg : Str → Option Value) (base : Heap) (C : Addr) (ps : List Str) (k : Nat) (sp : Sp) : Prop where
  ex : ∃ f fd, Mk K C f ∧ Binds K fd ps [] ∧ FnOk P w K mg base CX0 k f fd ps sp
theorem pe_makeH {X : Cx} {C : Addr} {ps : List Str} {k : Nat} {sp : Sp} {e : Expr} {es : List Expr} {t : TA} {x : Str} {p pos : Pos} (h : HasMk X.prog X.w X.K X.mg X.base C ps k sp) (hr : Room (k + 1) X.A) (hg : Gl X x) (hm : X.mg x = some (.ref C)) (ha : PA X (e :: es) t)
    (hdb : (x == ("__debug__" : Str)) = false := by decide) (he : starEach (e :: es) X.env = (false, eval e X.env) :: starEach es X.env := by rfl) (hpl : (backTo pos (starEach es X.env)).any (·.1) = false := by rfl) :
    PE X (.Call (.Name x p) (e :: es) [] pos) (tMake C sp [] E0 t) := by
  obtain ⟨f, fd, M, hb, F⟩ := h.ex
  exact pe_make M F hr hg hm hb .nil pass0 ha hdb he hpl
/-- the class TooMany -/
structure TmTxt (P : Program) (w : World) (K : PySem.W.Frag) (mg : Str → Option Value) (base : Heap) (C : Addr) : Prop where
  oex : OexC K C
  mgC : mg "TooMany" = some (.ref C)
  ex : ∃ fI fd, PySem.W.findIn K (.ref C) "__init__" = some (some (.ref fI)) ∧ PySem.W.typeIn K (.ref fI) = some (.type "function") ∧ Binds K fd limPs [] ∧ FnOk P w K mg base CX0 1 fI fd limPs (spLim C "limit")
theorem pmk_many {X : Cx} {C : Addr} {e : Expr} {es : List Expr} {ta : TA} {p pos : Pos} (T : TmTxt X.prog X.w X.K X.mg X.base C) (hr : Room 2 X.A) (hg : Gl X "TooMany") (ha : PA X (e :: es) ta)
    (he : starEach (e :: es) X.env = (false, eval e X.env) :: starEach es X.env := by rfl) (hpl : (backTo pos (starEach es X.env)).any (·.1) = false := by rfl) :
    PMk X (.Call (.Name "TooMany" p) (e :: es) [] pos) (tMkO C (spLim C "limit") [] ta) := by
  obtain ⟨fI, fd, iC, tI, hb, F⟩ := T.ex
  exact pmk_oex T.oex iC tI F hr hb .nil pass0 hg T.mgC ha (by decide) he hpl
section
variable {P : Program} {w : World} {K : PySem.W.Frag} {mg : Str → Option Value} {base : Heap} {f C CT : Addr} {fd : FuncData}
/-! ### bests -/
abbrev s_bests : Stmt := top 16
abbrev N_bests : List Str := ["table", "costs", "number", "many", "found", "member"]
theorem sc_bests : FnScope N_bests ["table", "costs", "number", "many"] (defScope s_bests) := ⟨rfl, rfl, rfl, by decide +kernel, rfl, by decide +kernel, by decide +kernel⟩
/-- what bests and cheapest tell of the best members l of a class: an answer, or the refusal -/
def Told (K : PySem.W.Frag) (CT : Addr) (H : Hp) (l : List Tm) (A : V → Hp → Prop) (E : XK) : Prop :=
  ((∀ t ∈ l, t.size ≤ 40) → ∀ v H', Same H H' → A v H') ∧ ((∃ t ∈ l, 40 < t.size) → ∀ d H', Same H H' → H d = none → H' d = some (.xd [("limit", .int 40)]) → E (.ref CT) (some d) H')
def spBB (K : PySem.W.Frag) (CT : Addr) : Sp := fun vs H Q E => ∃ (ta ca : Addr) (T : List Row) (n m : Nat) (ar : Nat → Nat) (cs : List Int) (co : Nat → Nat) (c0 : Nat),
  vs = [.ref ta, .ref ca, .int (c0 : Nat), .int (m : Nat)] ∧ Dp K H (.ref ta) (tabD T) ∧ TabG ar T n ∧ SqT K H ca (cs.map V.int) ∧ CoOk cs co T ∧ (∀ s, 1 ≤ co s) ∧ 1 ≤ m ∧ m ≤ 20 ∧ wid m T ≤ 10000 ∧ c0 < n ∧
  ∀ l, FP T big40 co m c0 l → ((∀ t ∈ l, t.size ≤ 40) → ∀ v H', Same H H' → Dp K H' v (.tuple (l.map tmD)) → Q v H') ∧ ((∃ t ∈ l, 40 < t.size) → ∀ d H', Same H H' → H d = none → H' d = some (.xd [("limit", .int 40)]) → E (.ref CT) (some d) H')
theorem any_none (l : List Tm) : ((l.map trmD).any fun z => PyData.eqv z .none) = decide (∃ t ∈ l, 40 < t.size) := by
  induction l with
  | nil => simp
  | cons t l ih =>
    rw [List.map_cons, List.any_cons, ih]
    unfold trmD
    by_cases h : t.size ≤ 40
    · rw [if_pos h]
      have : PyData.eqv (tmD t) .none = false := by
        cases t with
        | node s ts =>
          rw [tmD]
          rfl
      rw [this]
      have h2 : ¬ 40 < t.size := by omega
      simp [h2]
    · rw [if_neg h]
      have h2 : 40 < t.size := by omega
      simp [PyData.eqv, h2]
theorem trm_small {l : List Tm} (h : ∀ t ∈ l, t.size ≤ 40) : l.map trmD = l.map tmD := List.map_congr_left fun t ht => by
  unfold trmD
  rw [if_pos (h t ht)]
set_option maxHeartbeats 4000000 in
theorem ok_bb (F : FnP K "bests" "bests" s_bests f fd) (T : Nm mg) (TF : FTxt K mg C) (TM : TmTxt P w K mg base CT) (h_Found : HasMk P w K mg base C ["self", "table", "costs", "many"] 2 (spInit K C)) (h_of : HasM P w K mg base CX0 C "of" ["self", "number"] 4 (spOf K C)) :
    FnOk P w K mg base (L2.CX P w) 5 f fd ["table", "costs", "number", "many"] (spBB K CT) := by
  refine F.ok sc_bests (fun vs H Q E h => ?_) (fun cdv A outer s H vs Q E hr h => ?_)
  · obtain ⟨ta, ca, T, n, m, ar, cs, co, c0, rfl, _⟩ := h
    rfl
  obtain ⟨ta, ca, Tb, n, m, ar, cs, co, c0, rfl, dt, G, hca, hco, pos, hm1, hm, hw, hc0, k⟩ := h
  have hq := hq_of hr
  obtain ⟨tM, hM⟩ := TF.max
  refine ⟨_,
  (pss_cons (ps_set (i := 4) sc_bests.nd rfl (Or.inl rfl) (pe_callTy (cr_tupleK K) (by rfl) T.tuple bt_tuple (pa_cons (pe_lc (own := [("member", 5)]) rfl sc_bests.nd (pi_listK K (pe_mH h_of TF.cl (hr.mono (by decide)) (pe_makeH h_Found (hr.mono (by decide)) (by rfl) TF.mgF (pa_cons (pv 0) (pa_cons (pv 1) (pa_cons (pv 3) pa_nil)))) (pa_cons (pv 2) pa_nil))) (blkOk_by (N := N_bests) (sc := defScope s_bests) (by decide +kernel)) (fun _ _ _ _ _ => (pg_name (i := 5) sc_bests.nd rfl (Or.inl rfl))) (fun _ _ _ _ _ => pts_nil) (fun _ _ _ _ _ => (pe_ix (ix_K K) (pv 5) pe_int (fun _ _ => rfl)))) pa_nil)))
      (pss_cons (ps_if (pt_cmpR (op_inK K hq) pe_non (pv 4) (by rfl)) (pss_one (ps_raise rfl (takes_of rfl rfl rfl rfl) (pmk_many TM (hr.mono (by decide)) (by rfl) (pa_cons (pe_glob (v := .int 40) (by rfl) hM ⟨_, rfl⟩) pa_nil)))) pss_nil)
      (pss_one (ps_ret (pv 4))))), ?_⟩
  -- found = tuple([member[2] for member in Found(table, costs, many).of(number)])
  refine seq_cut (fun σ H' => ∃ (tp : Addr) (l : List Tm) (v5 : Option V), σ = [some (.ref ta), some (.ref ca), some (.int (c0 : Nat)), some (.int (m : Nat)), some (.ref tp), v5] ∧ Same H H' ∧ Dp K H' (.ref tp) (.tuple (l.map trmD)) ∧ FP Tb big40 co m c0 l) (fun Z hZ => ?_) ?_
  · refine ⟨_, rfl, _, rfl, _, rfl, fun x dx hx hdx hne => ?_⟩
    have f1 : Fr [] H (upd (upd H dx (.own x)) x (.ins C dx [])) := ((Fr.refl [] H).put (.inl hdx)).put (.inl hx)
    refine ⟨x, dx, ta, ca, Tb, n, m, ar, cs, co, rfl, upd_same, Dp.tps (Tps.same f1.same) _ _ (tabD_flat _) dt, G, (Tps.same f1.same) _ _ hca, hco, fun a ws cnt ul H2 ex mp0 wp0 ml0 fr2 S US pm => ?_⟩
    subst ex
    refine ⟨rfl, ?_⟩
    obtain ⟨dx2, ob⟩ := S.ob
    have old : ∀ {b : Addr}, upd (upd H dx (.own a.x)) a.x (.ins C dx []) b = none → H b = none := fun {b} h => f1.same.free h
    have s2 : Same H H2 := fun b o e => fr2 b o (f1.same b o e) fun h => by
      rw [List.mem_singleton.mp h, hx] at e
      cases e
    refine ⟨a.x, dx2, _, rfl, ob, fl_of, _, rfl, ?_⟩
    refine ⟨a, Tb, n, m, ar, cs, co, fun _ => [], ws, cnt, ul, c0, rfl, S, G, hco, US, R59.Good.perm (frt_good G) pm, hc0, pos, hm1, hm, hw, fun b ys l H3 fr3 hys dys FPl => ?_⟩
    have s3 : Same H H3 := fun q o e => fr3 q o (s2 q o e) fun h => by
      rcases List.mem_cons.mp h with h | h
      · rw [h, hx] at e
        cases e
      · rcases List.mem_cons.mp h with h | h
        · rw [h, old wp0] at e
          cases e
        · rw [old (ml0 q h)] at e
          cases e
    have lys : ys.length = l.length := by rw [DpAll.len dys, List.length_map]
    have ll := FPl.len
    refine ⟨b, rfl, ⟨_, SqL.of hys⟩, fun D hD => ?_⟩
    refine lcM (walk_list (xs := ys)) [] hD (fun i acc H' => DpAll K H' acc ((l.take i).map trmD)) .nil (fun i acc H' fr _ => SqL.of (fr.same _ _ hys)) ?_ ?_
    · rintro j v acc Hy Hc Nx hN hj fr e dA ⟨rfl, hv⟩
      obtain ⟨dd, ed, dr⟩ := DpAll.get' (DpAll.tps (Tps.same fr.same) _ _ (mems_flat co _) dys) hv
      rw [List.getElem?_map] at ed
      cases et : l[j]? with
      | none =>
        rw [et] at ed
        cases ed
      | some t =>
      rw [et] at ed
      obtain rfl := Option.some.inj ed
      obtain ⟨q, wv, sa, rfl, hq1, dwv, _⟩ := Dp.mem dr
      refine ⟨rfl, ?_⟩
      refine yes_cut ?_
      have tm := Tps.mut (K := K) (o := .lst (acc ++ [wv])) e trivial
      have lacc : acc.length ≤ 20 := by
        rw [DpAll.len dA, List.length_map, List.length_take]
        omega
      refine ⟨_, rfl, q, _, 2, _, rfl, rfl, .inr hq1, rfl, _, e, small_line (by omega), hN _ _ upd_same (fr.put (.inl hD)) ?_⟩
      rw [take_get et, List.map_append]
      exact DpAll.app (DpAll.tps tm _ _ (flatDs_all _ _ trmD_flat) dA) (.cons (Dp.tps tm _ _ (trmD_flat _) dwv) .nil)
    · rintro acc Hc fr e dA
      rw [lys, List.take_of_length_le (Nat.le_refl _)] at dA
      refine ⟨D, acc, rfl, .inl ⟨SqL.of e, fun tp htp => ?_⟩⟩
      have s4 := (Fr.new (M := []) (o := .tup acc) htp).same
      exact hZ _ _ ⟨tp, l, _, rfl, (s3.trans fr.same).trans s4, .tup (SqT.of upd_same) (DpAll.tps (Tps.same s4) _ _ (flatDs_all _ _ trmD_flat) dA), FPl⟩
  rintro _ H1 ⟨tp, l, v5, rfl, s1, dtp, FPl⟩
  obtain ⟨k1, k2⟩ := k l FPl
  -- if None in found
  refine ⟨_, rfl, .none, l.map trmD, .non, .inl dtp, by simp [PyData.depth], _, rfl, ?_⟩
  rw [any_none]
  refine dec_b (fun h1 => ?_) (fun h1 => ?_)
  · refine ⟨by decide, fun a ha => ?_⟩
    refine ⟨a, .int 40, rfl, upd_same, fun dx hdx hne => ⟨rfl, dx, [("limit", .int 40)], upd_same, ?_, ?_, ?_⟩⟩
    · rw [upd_ne hne, upd_same]
    · rw [upd_ne hne] at hdx
      exact hdx
    · have hdx1 : H1 dx = none := by
        rw [upd_ne hne] at hdx
        exact hdx
      refine k2 h1 dx _ (s1.trans fun b o e => ?_) (s1.free hdx1) upd_same
      have nb1 : b ≠ dx := fun q => by
        rw [q, hdx1] at e
        cases e
      have nb2 : b ≠ a := fun q => by
        rw [q, ha] at e
        cases e
      rw [upd_ne nb1, del_ne nb2, upd_ne nb2, upd_ne nb1, upd_ne nb2]
      exact e
  · have hs : ∀ t ∈ l, t.size ≤ 40 := fun t ht => by
      refine Nat.le_of_not_lt fun q => h1 ⟨t, ht, q⟩
    refine ⟨_, rfl, k1 hs _ _ s1 ?_⟩
    rw [← trm_small hs]
    exact dtp
end
end R59
/-! W24 -/
set_option maxHeartbeats 1000000
namespace R59
open PySem PyProof.Rows L2 KB PySem.W
/-- all keywords, in order -/
def KB0 (K : PySem.W.Frag) (fd : FuncData) (ps : List Str) : Prop := ∀ (s : Shared) (ws : List Value), K.In s.heap → ws.length = ps.length → BindsTo s fd ⟨[], ps.zip ws⟩ (ps.zip ws)
/-- a def that may raise, by name -/
structure HasX (P : Program) (w : World) (K : PySem.W.Frag) (mg : Str → Option Value) (base : Heap) (x : Str) (ps : List Str) (k : Nat) (sp : Sp) : Prop where
  ex : ∃ f fd, mg x = some (.ref f) ∧ PySem.W.keepIn K (.ref f) = true ∧ Binds K fd ps [] ∧ KB0 K fd ps ∧ FnOk P w K mg base (L2.CX P w) k f fd ps sp
def tCallS0 (sp : Sp) (E : L2.St → XK) (tk : TA) : TE := fun σ H Q => tk σ H fun zs H2 => sp zs H2 Q (E σ)
section
variable {X : Cx} {x : Str} {ps : List Str} {k : Nat} {sp : Sp} {W : WX} {E : XK} {e : Expr} {es : List Expr} {t tkw : TA} {p pos : Pos} {kws : List Keyword}
theorem pe_fX (h : HasX X.prog X.w X.K X.mg X.base x ps k sp) (tk : Takes X W) (hW : ∀ cls d σ H, E cls d H → W cls d σ H) (hr : Room k X.A) (hg : Gl X x) (ha : PA X (e :: es) t) (hdb : (x == ("__debug__" : Str)) = false := by decide)
    (he : starEach (e :: es) X.env = (false, eval e X.env) :: starEach es X.env := by rfl) (hpl : (backTo pos (starEach es X.env)).any (·.1) = false := by rfl) : PE X (.Call (.Name x p) (e :: es) [] pos) (tCall sp [] E t) := by
  obtain ⟨f, fd, hm, hk, hb, _, F⟩ := h.ex
  exact pe_call F hr hg hm hk hb .nil (passes_call tk hW) ha hdb he hpl
theorem pe_fS (h : HasX X.prog X.w X.K X.mg X.base x ps k sp) (tk : Takes X W) (hr : Room k X.A) (hg : Gl X x) (ha : PA X (e :: es) t) (hdb : (x == ("__debug__" : Str)) = false := by decide)
    (he : starEach (e :: es) X.env = (false, eval e X.env) :: starEach es X.env := by rfl) (hpl : (backTo pos (starEach es X.env)).any (·.1) = false := by rfl) : PE X (.Call (.Name x p) (e :: es) [] pos) (tCallS sp (WE W) t) := by
  obtain ⟨f, fd, hm, hk, hb, _, F⟩ := h.ex
  exact pe_callS F hr hg hm hk hb (fun σ => passAt tk σ) ha hdb he hpl
theorem pe_fS0 (h : HasX X.prog X.w X.K X.mg X.base x ps k sp) (tk : Takes X W) (hr : Room k X.A) (hg : Gl X x) (hkw : PK X kws tkw) (hall : (backToKw pos (keywordEach kws X.env)).all (·.1.isSome) = true := by rfl) (hks : (backToKw pos (keywordEach kws X.env)).filterMap (·.1) = ps := by rfl)
    (hdb : (x == ("__debug__" : Str)) = false := by decide) (hpl : ((backTo pos (starEach [] X.env)).any (·.1) || (backToKw pos (keywordEach kws X.env)).any (·.1.isNone)) = false := by rfl) : PE X (.Call (.Name x p) [] kws pos) (tCallS0 sp (WE W) tkw) := by
  obtain ⟨f, fd, hm, hk, _, hb, F⟩ := h.ex
  refine ⟨fun pins s σ H Q I h => ?_⟩
  refine wpAny_Call_Name_kw (ld_glob I hg hm ?_ hdb)
  refine PySem.W.callWith_KW0 (h₀ := X.base) I.ok.mod.kin hk hall ?_ hpl
  refine thn (hkw.run pos pins s σ H _ I h) fun ws s2 ⟨zs, H2, I2, rz, q2⟩ => ⟨I2.kIn, ?_⟩
  rw [hks]
  have hl : ws.length = ps.length := by rw [← rz.length]; exact F.len _ _ _ _ q2
  refine wpAny_call (codeAny_mono (F.run X.A X.stack s2 H2 ⟨[], ps.zip ws⟩ ws zs Q (WE W σ) hr I2.env0 (hb s2 ws I2.kIn hl) rz q2) fun r s' hq => ?_)
  cases r with
  | error e => exact passAt tk σ pins H2 s2 e s' I2 hq
  | ok fl =>
    cases fl with
    | ret u => exact I2.after hq
    | next => exact False.elim hq
    | brk => exact False.elim hq
    | cont => exact False.elim hq
end
/-- the classes of errors -/
structure ETxt (K : PySem.W.Frag) (mg : Str → Option Value) (CT : Addr) (cU cN cX cL cB cR cF cT : Addr) : Prop where
  c_Unfit : mg "Unfit" = some (.ref cU)
  c_NothingToUndo : mg "NothingToUndo" = some (.ref cN)
  c_BadText : mg "BadText" = some (.ref cX)
  c_BadLog : mg "BadLog" = some (.ref cL)
  c_BadTerm : mg "BadTerm" = some (.ref cB)
  c_BadRule : mg "BadRule" = some (.ref cR)
  c_Refused : mg "Refused" = some (.ref cF)
  c_TermError : mg "TermError" = some (.ref cT)
  oth : PySem.W.kitAny K (.ref CT) [.ref cU, .ref cN, .ref cX, .ref cL, .ref cB, .ref cR, .ref cF] = some false
  isT : PySem.W.kitOne K (.ref CT) (.ref cT) = some true
  isV : PySem.W.kitOne K (.ref CT) (.type "ValueError") = some true
  exd : ExcD K CT
  xf : XfC K CT
  nol : PySem.W.findIn K (.ref CT) "limit" = some none
  exm : PySem.W.exmOne K (.ref CT) (.ref CT) = some true
section
variable {P : Program} {w : World} {K : PySem.W.Frag} {mg : Str → Option Value} {base : Heap} {f C CT : Addr} {fd : FuncData} {cU cN cX cL cB cR cF cT : Addr}
/-! ### cheapest -/
abbrev s_cheapest : Stmt := top 17
abbrev N_cheapest : List Str := ["table", "costs", "number"]
theorem sc_cheapest : FnScope N_cheapest ["table", "costs", "number"] (defScope s_cheapest) := ⟨rfl, rfl, rfl, by decide +kernel, rfl, by decide +kernel, by decide +kernel⟩
def spCh (K : PySem.W.Frag) (CT : Addr) : Sp := fun vs H Q E => ∃ (ta ca : Addr) (T : List Row) (n : Nat) (ar : Nat → Nat) (cs : List Int) (co : Nat → Nat) (c0 : Nat),
  vs = [.ref ta, .ref ca, .int (c0 : Nat)] ∧ Dp K H (.ref ta) (tabD T) ∧ TabG ar T n ∧ SqT K H ca (cs.map V.int) ∧ CoOk cs co T ∧ (∀ s, 1 ≤ co s) ∧ wid 1 T ≤ 10000 ∧ c0 < n ∧
  ∀ l, FP T big40 co 1 c0 l → ((∀ t ∈ l, t.size ≤ 40) → ∀ v t H', Same H H' → l = [t] → Dp K H' v (tmD t) → Q v H') ∧ ((∃ t ∈ l, 40 < t.size) → ∀ d H', Same H H' → H d = none → H' d = some (.xd [("limit", .int 40)]) → E (.ref CT) (some d) H')
theorem fp_one {T : List Row} {n : Nat} {ar : Nat → Nat} {big : Nat → Prop} {co : Nat → Nat} {c : Nat} {l : List Tm} (G : TabG ar T n) (hc : c < n) (F : FP T big co 1 c l) : ∃ t, l = [t] := by
  obtain ⟨t, ht, _⟩ := G.has c hc
  have hne := F.ne (Nat.le_refl _) ht
  have hl := F.len
  match l, hne, hl with
  | [t], _, _ => exact ⟨t, rfl⟩
  | [], h, _ => exact absurd rfl h
  | _ :: _ :: _, _, h => simp at h
theorem ok_ch (F : FnP K "cheapest" "cheapest" s_cheapest f fd) (T : Nm mg) (h_bests : HasX P w K mg base "bests" ["table", "costs", "number", "many"] 5 (spBB K CT)) :
    FnOk P w K mg base (L2.CX P w) 6 f fd ["table", "costs", "number"] (spCh K CT) := by
  refine F.ok sc_cheapest (fun vs H Q E h => ?_) (fun cdv A outer s H vs Q E hr h => ?_)
  · obtain ⟨ta, ca, T, n, ar, cs, co, c0, rfl, _⟩ := h
    rfl
  obtain ⟨ta, ca, Tb, n, ar, cs, co, c0, rfl, dt, G, hca, hco, pos, hw, hc0, k⟩ := h
  refine ⟨_, (pss_one (ps_ret (pe_ix (ix_K K) (pe_fX (E := E) h_bests (takes_of rfl rfl rfl rfl) (fun _ _ _ _ h => h) (hr.mono (by decide)) (by rfl) (pa_cons (pv 0) (pa_cons (pv 1) (pa_cons (pv 2) (pa_cons pe_int pa_nil))))) pe_int (fun _ _ => rfl)))), ?_⟩
  refine ⟨_, rfl, _, rfl, _, rfl, ta, ca, Tb, n, 1, ar, cs, co, c0, rfl, dt, G, hca, hco, pos, Nat.le_refl _, by decide, hw, hc0, fun l FPl => ?_⟩
  obtain ⟨k1, k2⟩ := k l FPl
  refine ⟨fun hs v H' s' dv => ?_, k2⟩
  obtain ⟨t, rfl⟩ := fp_one G hc0 FPl
  obtain ⟨a, xs, rfl, ha, dxs⟩ := Dp.tupOf dv
  cases dxs with
  | cons d1 d2 =>
  cases d2
  exact ⟨a, _, 0, _, rfl, rfl, .inr ha, rfl, k1 hs _ t H' s' rfl d1⟩
/-! ### _law_refusal -/
abbrev s_law_refusal : Stmt := top 23
abbrev N_law_refusal : List Str := ["error", "limit", "others"]
theorem sc_law_refusal : FnScope N_law_refusal ["error", "limit"] (defScope s_law_refusal) := ⟨rfl, rfl, rfl, by decide +kernel, rfl, by decide +kernel, by decide +kernel⟩
def spRefA (K : PySem.W.Frag) (CT a : Addr) (cls : Value) (d : Option Addr) : Sp := fun vs H Q _ => ∃ (lim : Int) (dd : Addr) (fs : List (Str × V)), vs = [.ref a, .int lim] ∧ cls = .ref CT ∧ d = some dd ∧ H dd = some (.xd fs) ∧
  ∀ v H', Same H H' → Dp K H' v (.tuple [.str "refused", .int lim, .bool true]) → Q v H'
def spRef (K : PySem.W.Frag) (CT : Addr) (p : Addr × Obj) : Sp := spRefA K CT p.1 p.2.cls p.2.dict
def ZF (p : Addr × Obj) : Prop := ∃ vs, p.2.data = .fields vs
theorem ok_refusal (F : FnP K "_law_refusal" "_law_refusal" s_law_refusal f fd) (T : Nm mg) (TE : ETxt K mg CT cU cN cX cL cB cR cF cT) : FnZ P w K mg base CX0 1 f fd ["error", "limit"] ZF (spRef K CT) := by
  obtain ⟨oc, od, dV, kV, doc, pm, an, cdv, ct, osl, rfl, lk, hcd, _, _⟩ := F.ex
  refine fnz_of lk hcd sc_law_refusal (fun p vs H Q E h => ?_) (fun A outer s H vs Q E p hz hr h => ?_)
  · obtain ⟨lim, dd, fs, rfl, _⟩ := h
    rfl
  obtain ⟨lim, dd, fs, rfl, hc, hd, hdd, k⟩ := h
  have HP : ExPin (L2H.cxH CX0 P w K mg base N_law_refusal "_law_refusal" (defScope s_law_refusal) f cdv A outer s H E p) p CT dd := ⟨List.mem_singleton.mpr rfl, ⟨hc, hd⟩, hz⟩
  refine ⟨_,
  (pss_cons (ps_set (i := 2) sc_law_refusal.nd rfl (Or.inl rfl) (pe_callB (call_isX TE.exd HP) (by rfl) T.isinstance bt_isinstance (pa_cons (pv 0) (pa_cons (pe_tup (pa_cons (pe_glob (v := .ref _) (by rfl) TE.c_Unfit rfl) (pa_cons (pe_glob (v := .ref _) (by rfl) TE.c_NothingToUndo rfl) (pa_cons (pe_glob (v := .ref _) (by rfl) TE.c_BadText rfl) (pa_cons (pe_glob (v := .ref _) (by rfl) TE.c_BadLog rfl) (pa_cons (pe_glob (v := .ref _) (by rfl) TE.c_BadTerm rfl) (pa_cons (pe_glob (v := .ref _) (by rfl) TE.c_BadRule rfl) (pa_cons (pe_glob (v := .ref _) (by rfl) TE.c_Refused rfl) pa_nil)))))))) pa_nil))))
      (pss_one (ps_ret (pe_tup (pa_cons pe_str (pa_cons (pv 1) (pa_cons (pe_and (pe_callB (call_isX TE.exd HP) (by rfl) T.isinstance bt_isinstance (pa_cons (pv 0) (pa_cons (pe_glob (v := .ref _) (by rfl) TE.c_TermError rfl) pa_nil))) (pe_and (pe_callB (call_isX TE.exd HP) (by rfl) T.isinstance bt_isinstance (pa_cons (pv 0) (pa_cons (pe_bltn (v := .ty "ValueError") (by rfl) T.ValueError bt_VE rfl) pa_nil))) (pe_one (pe_not (pv 2))))) pa_nil))))))), ?_⟩
  refine ⟨_, rfl, by show 7 ≤ sizeLine; decide, fun tp htp => ?_⟩
  have s1 := (Fr.new (M := []) (o := .tup [.ref cU, .ref cN, .ref cX, .ref cL, .ref cB, .ref cR, .ref cF]) htp).same
  refine ⟨.ref tp, false, fs, rfl, s1 _ _ hdd, ?_, .inr ⟨tp, [.ref cU, .ref cN, .ref cX, .ref cL, .ref cB, .ref cR, .ref cF], _, rfl, upd_same, .cons (.own _) (.cons (.own _) (.cons (.own _) (.cons (.own _) (.cons (.own _) (.cons (.own _) (.cons (.own _) .nil)))))), TE.oth⟩⟩
  generalize upd H tp (.tup [.ref cU, .ref cN, .ref cX, .ref cL, .ref cB, .ref cR, .ref cF]) = H1 at s1
  refine ⟨_, rfl, _, rfl, .ref cT, true, fs, rfl, s1 _ _ hdd, ⟨true, rfl, ?_⟩, .inl ⟨_, .own _, TE.isT⟩⟩
  refine iteT ?_
  refine ⟨_, rfl, .ty "ValueError", true, fs, rfl, s1 _ _ hdd, ⟨true, rfl, ?_⟩, .inl ⟨_, .ty _, TE.isV⟩⟩
  refine iteT ?_
  refine ⟨_, rfl, false, rfl, by show 3 ≤ sizeLine; decide, fun t3 ht3 => ?_⟩
  exact k _ _ (s1.trans (Fr.new (M := []) ht3).same) (.tup (SqT.of upd_same) (.cons (.str _) (.cons (.int _) (.cons (.bl _) .nil))))
end
end R59
/-! W25 -/
set_option maxHeartbeats 1000000
namespace R59
open PySem PyProof.Rows L2 KB PySem.W
def refD : PyData := .tuple [.str "refused", .int 40, .bool true]
def toldD (l : List Tm) : PyData := .tuple [.str "told", .tuple (l.map tmD)]
instance (l : List Tm) : Decidable (∃ t ∈ l, 40 < t.size) := by infer_instance
/-- what is due of the best members l -/
def dueD (l : List Tm) : PyData := if ∃ t ∈ l, 40 < t.size then refD else toldD l
theorem dueD_flat (l : List Tm) : flatD (dueD l) = true := by
  unfold dueD
  split
  · decide
  · unfold toldD
    simp only [flatD, flatDs, flatDs_all _ l tmD_flat]
    decide
/-- a refusal, by name -/
structure HasZ (P : Program) (w : World) (K : PySem.W.Frag) (mg : Str → Option Value) (base : Heap) (x : Str) (ps : List Str) (k : Nat) (Z : Addr × Obj → Prop) (sp : Addr × Obj → Sp) : Prop where
  ex : ∃ f fd, mg x = some (.ref f) ∧ PySem.W.keepIn K (.ref f) = true ∧ Binds K fd ps [] ∧ FnZ P w K mg base CX0 k f fd ps Z sp
theorem pe_fZ {X : Cx} {x : Str} {ps : List Str} {k : Nat} {Z : Addr × Obj → Prop} {sp : Addr × Obj → Sp} {e : Expr} {es : List Expr} {t : TA} {p : Addr × Obj} {q pos : Pos} (h : HasZ X.prog X.w X.K X.mg X.base x ps k Z sp) (hr : L2H.RoomH k X.A) (hp : p ∈ X.pn) (hz : Z p) (hg : Gl X x) (ha : PA X (e :: es) t) (hdb : (x == ("__debug__" : Str)) = false := by decide)
    (he : starEach (e :: es) X.env = (false, eval e X.env) :: starEach es X.env := by rfl) (hpl : (backTo pos (starEach es X.env)).any (·.1) = false := by rfl) : PE X (.Call (.Name x q) (e :: es) [] pos) (tCallS (sp p) (fun _ => E0) t) := by
  obtain ⟨f, fd, hm, hk, hb, F⟩ := h.ex
  exact pe_callZ F hr hp hz hg hm hk hb (fun _ _ _ _ _ _ _ h => h.elim) ha hdb he hpl
section
variable {P : Program} {w : World} {K : PySem.W.Frag} {mg : Str → Option Value} {base : Heap} {f C CT : Addr} {fd : FuncData} {cU cN cX cL cB cR cF cT : Addr}
/-! ### _law_asked -/
abbrev s_law_asked : Stmt := top 38
abbrev N_law_asked : List Str := ["table", "costs", "number", "many", "is_named", "error"]
theorem sc_law_asked : FnScope N_law_asked ["table", "costs", "number", "many", "is_named"] (defScope s_law_asked) := ⟨rfl, rfl, rfl, by decide +kernel, rfl, by decide +kernel, by decide +kernel⟩
def spAsked (K : PySem.W.Frag) : Sp := fun vs H Q _ => ∃ (ta ca : Addr) (T : List Row) (n m : Nat) (ar : Nat → Nat) (cs : List Int) (co : Nat → Nat) (c0 : Nat) (nm : Bool),
  vs = [.ref ta, .ref ca, .int (c0 : Nat), .int (m : Nat), .bl nm] ∧ Dp K H (.ref ta) (tabD T) ∧ TabG ar T n ∧ SqT K H ca (cs.map V.int) ∧ CoOk cs co T ∧ (∀ s, 1 ≤ co s) ∧ m ≤ 20 ∧ wid m T ≤ 10000 ∧ wid 1 T ≤ 10000 ∧ c0 < n ∧
  ∀ l, FP T big40 co (max 1 m) c0 l → ∀ v H', Same H H' → Dp K H' v (dueD l) → Q v H'
theorem ok_asked (F : FnP K "_law_asked" "_law_asked" s_law_asked f fd) (T : Nm mg) (TM : TmTxt P w K mg base CT) (TE : ETxt K mg CT cU cN cX cL cB cR cF cT) (h_cheapest : HasX P w K mg base "cheapest" ["table", "costs", "number"] 6 (spCh K CT)) (h_bests : HasX P w K mg base "bests" ["table", "costs", "number", "many"] 5 (spBB K CT)) (h_law_refusal : HasZ P w K mg base "_law_refusal" ["error", "limit"] 1 ZF (spRef K CT)) :
    FnOk P w K mg base CX0 7 f fd ["table", "costs", "number", "many", "is_named"] (spAsked K) := by
  refine F.ok sc_law_asked (fun vs H Q E h => ?_) (fun cdv A outer s H vs Q E hr h => ?_)
  · obtain ⟨ta, ca, T, n, m, ar, cs, co, c0, nm, rfl, _⟩ := h
    rfl
  obtain ⟨ta, ca, Tb, n, m, ar, cs, co, c0, nm, rfl, dt, G, hca, hco, pos, hm, hw, hw1, hc0, k⟩ := h
  have hq := hq_of hr
  refine ⟨_, PSs.nox (pss_one (ps_try_first (ts := fun a cls d => tRet (tCallS (spRefA K CT a cls d) (fun _ => E0) (tCons (tVar 5) (tCons (tXf a cls d CT "limit" (tVar 5)) tNil)))) (i := 5) rfl rfl sc_law_asked.nd rfl rfl ⟨rfl, by decide, .inl TM.mgC⟩
    (fun W pn xe tk _ =>
      pss_cons (ps_if (pt_cmpR (op_eqK K hq) (pv 3) pe_int (nomark _)) (pss_one (ps_ret (pe_tup (pa_cons pe_str (pa_cons (pe_tup (pa_cons (pe_ifExp (pt_val (pv 4)) (pe_fS0 h_cheapest tk (hr.mono (by decide)) (by rfl) (pk_cons (pv 0) (pk_cons (pv 1) (pk_cons (pv 2) pk_nil)))) (pe_fS h_cheapest tk (hr.mono (by decide)) (by rfl) (pa_cons (pv 0) (pa_cons (pv 1) (pa_cons (pv 2) pa_nil))))) pa_nil)) pa_nil))))) pss_nil)
      (pss_cons (ps_if (pt_val (pv 4)) (pss_one (ps_ret (pe_tup (pa_cons pe_str (pa_cons (pe_fS0 h_bests tk (hr.mono (by decide)) (by rfl) (pk_cons (pv 0) (pk_cons (pv 1) (pk_cons (pv 2) (pk_cons (pv 3) pk_nil))))) pa_nil))))) pss_nil)
      (pss_one (ps_ret (pe_tup (pa_cons pe_str (pa_cons (pe_fS h_bests tk (hr.mono (by decide)) (by rfl) (pa_cons (pv 0) (pa_cons (pv 1) (pa_cons (pv 2) (pa_cons (pv 3) pa_nil))))) pa_nil)))))))
    (fun a oe cls d pn hz hf => by
      obtain ⟨rfl, rfl⟩ := hz
      refine pss_one (ps_ret ?_)
      show PE _ _ (tCallS (spRef K CT (a, oe)) (fun _ => E0) _)
      refine pe_fZ (p := (a, oe)) h_law_refusal ?_ List.mem_cons_self hf (by rfl) ?_
      · exact L2H.roomH_mark (hr.mono (by decide)) _
      · exact pa_cons (pv 5) (pa_cons (pe_xf TE.xf TE.nol ⟨rfl, rfl⟩ hf (pv 5)) pa_nil)))), ?_⟩
  -- the suite's end
  have hexc : ∀ l, FP Tb big40 co (max 1 m) c0 l → (∃ t ∈ l, 40 < t.size) → ∀ (d : Addr) (H' : Hp), Same H H' → H' d = some (.xd [("limit", .int 40)]) →
      wFirst K (.ref CT) 5 (fun a cls d => tRet (tCallS (spRefA K CT a cls d) (fun _ => E0) (tCons (tVar 5) (tCons (tXf a cls d CT "limit" (tVar 5)) tNil)))) { nx := fun _ H' => Q .non H', rt := Q } (.ref CT) (some d) [some (.ref ta), some (.ref ca), some (.int (c0 : Nat)), some (.int (m : Nat)), some (.bl nm), none] H' := fun l FPl hb d H' s' hd => by
    refine ⟨TE.exm, fun a ha => ?_⟩
    refine ⟨_, rfl, _, rfl, rfl, rfl, d, _, .int 40, rfl, hd, by simp [List.lookup], 40, d, _, rfl, rfl, rfl, hd, fun v H2 s2 dv => ?_⟩
    refine k l FPl v H2 (s'.trans s2) ?_
    unfold dueD
    rw [if_pos hb]
    exact dv
  have htold : ∀ l, FP Tb big40 co (max 1 m) c0 l → (∀ t ∈ l, t.size ≤ 40) → ∀ v H', Same H H' → Dp K H' v (toldD l) → Q v H' := fun l FPl hs v H' s' dv => by
    refine k l FPl v H' s' ?_
    unfold dueD
    rw [if_neg fun ⟨t, ht, h⟩ => by have := hs t ht; omega]
    exact dv
  refine ⟨_, rfl, .inl ⟨rfl, _, rfl, ?_⟩⟩
  refine dec_b (fun hm0 => ?_) (fun hm0 => ?_)
  · have hm0' : m = 0 := by
      have := vint_inj hm0
      omega
    subst hm0'
    have fin : ∀ l, FP Tb big40 co 1 c0 l → ((∀ t ∈ l, t.size ≤ 40) → ∀ v t H', Same H H' → l = [t] → Dp K H' v (tmD t) → 1 ≤ sizeLine ∧ ∀ p, H' p = none → 2 ≤ sizeLine ∧ ∀ p2, upd H' p (.tup [v]) p2 = none → Q (.ref p2) (upd (upd H' p (.tup [v])) p2 (.tup [.str "told", .ref p]))) := fun l FPl hs v t H' s' e dv => by
      subst e
      refine ⟨by decide, fun p hp => ⟨by decide, fun p2 hp2 => ?_⟩⟩
      have s1 := (Fr.new (M := []) (o := .tup [v]) hp).same
      have s2 := (Fr.new (M := []) (o := .tup [.str "told", .ref p]) hp2).same
      refine htold [t] FPl hs _ _ ((s'.trans s1).trans s2) (.tup (SqT.of upd_same) (.cons (.str _) (.cons (.tup ((Tps.same s2) _ _ (SqT.of upd_same)) (.cons (Dp.tps (Tps.same (s1.trans s2)) _ _ (tmD_flat _) dv) .nil)) .nil)))
    refine ⟨_, rfl, nm, rfl, ?_⟩
    cases nm with
    | true =>
      refine iteT ?_
      exact ⟨_, rfl, _, rfl, _, rfl, ta, ca, Tb, n, ar, cs, co, c0, rfl, dt, G, hca, hco, pos, hw1, hc0, fun l FPl => ⟨fin l FPl, fun hb d H' s' _ hd => hexc l FPl hb d H' s' hd⟩⟩
    | false =>
      refine iteF ?_
      exact ⟨_, rfl, _, rfl, _, rfl, ta, ca, Tb, n, ar, cs, co, c0, rfl, dt, G, hca, hco, pos, hw1, hc0, fun l FPl => ⟨fin l FPl, fun hb d H' s' _ hd => hexc l FPl hb d H' s' hd⟩⟩
  · have hm1 : 1 ≤ m := by
      refine Nat.pos_of_ne_zero fun e => hm0 ?_
      rw [e]
      rfl
    have emax : max 1 m = m := Nat.max_eq_right hm1
    rw [emax] at hexc htold
    have fin : ∀ l, FP Tb big40 co m c0 l → ((∀ t ∈ l, t.size ≤ 40) → ∀ v H', Same H H' → Dp K H' v (.tuple (l.map tmD)) → 2 ≤ sizeLine ∧ ∀ p2, H' p2 = none → Q (.ref p2) (upd H' p2 (.tup [.str "told", v]))) := fun l FPl hs v H' s' dv => by
      refine ⟨by decide, fun p2 hp2 => ?_⟩
      have s2 := (Fr.new (M := []) (o := .tup [.str "told", v]) hp2).same
      exact htold l FPl hs _ _ (s'.trans s2) (.tup (SqT.of upd_same) (.cons (.str _) (.cons (Dp.tps (Tps.same s2) _ _ (by rw [flatD]; exact flatDs_all _ _ tmD_flat) dv) .nil)))
    refine ⟨_, rfl, nm, rfl, ?_⟩
    cases nm with
    | true =>
      refine iteT ?_
      exact ⟨_, rfl, _, rfl, _, rfl, _, rfl, ta, ca, Tb, n, m, ar, cs, co, c0, rfl, dt, G, hca, hco, pos, hm1, hm, hw, hc0, fun l FPl => ⟨fin l FPl, fun hb d H' s' _ hd => hexc l FPl hb d H' s' hd⟩⟩
    | false =>
      refine iteF ?_
      exact ⟨_, rfl, _, rfl, _, rfl, _, rfl, ta, ca, Tb, n, m, ar, cs, co, c0, rfl, dt, G, hca, hco, pos, hm1, hm, hw, hc0, fun l FPl => ⟨fin l FPl, fun hb d H' s' _ hd => hexc l FPl hb d H' s' hd⟩⟩
end
end R59
/-! W26 -/
set_option maxHeartbeats 1000000
namespace R59
open PySem PyProof.Rows L2 KB PySem.W
theorem tyx_tup {K : PySem.W.Frag} {H : Hp} {a : Addr} {xs : List V} (h : SqT K H a xs) : TyX K H (.ref a) (.type "tuple") := by
  rcases h with (h | ⟨o, h⟩) | ⟨o, its, n, h1, h2, _⟩
  · exact .base (.tup h)
  · exact .fTuple h
  · exact .kTuple h1 h2
mutual
/-- no tuple of it is long -/
def wdD : PyData → Bool
  | .tuple ds => decide (ds.length ≤ 1000) && wdDs ds
  | _ => true
def wdDs : List PyData → Bool
  | [] => true
  | d :: ds => wdD d && wdDs ds
end
theorem wdDs_mem : ∀ {ds : List PyData} {d : PyData}, wdDs ds = true → d ∈ ds → wdD d = true
  | [], _, _, h => by cases h
  | e :: ds, d, w, h => by
    rw [wdDs, Bool.and_eq_true] at w
    rcases List.mem_cons.mp h with q | q
    · rw [q]; exact w.1
    · exact wdDs_mem w.2 q
theorem wdDs_all {α : Type} (f : α → PyData) (l : List α) (h : ∀ x ∈ l, wdD (f x) = true) : wdDs (l.map f) = true := by
  induction l with
  | nil => rfl
  | cons x l ih => rw [List.map_cons, wdDs, h x List.mem_cons_self, ih fun y hy => h y (List.mem_cons_of_mem _ hy)]; rfl
theorem flatDs_mem : ∀ {ds : List PyData} {d : PyData}, flatDs ds = true → d ∈ ds → flatD d = true
  | [], _, _, h => by cases h
  | e :: ds, d, w, h => by
    rw [flatDs, Bool.and_eq_true] at w
    rcases List.mem_cons.mp h with q | q
    · rw [q]; exact w.1
    · exact flatDs_mem w.2 q
theorem depthAll_mem : ∀ {ds : List PyData} {d : PyData}, d ∈ ds → d.depth ≤ PyData.depthAll ds
  | [], _, h => by cases h
  | e :: ds, d, h => by
    rw [PyData.depthAll]
    rcases List.mem_cons.mp h with q | q
    · rw [q]; omega
    · have := depthAll_mem q
      omega
mutual
theorem tmD_wd : ∀ t : Tm, t.size ≤ 900 → wdD (tmD t) = true
  | .node s ts, h => by
    rw [Tm.size] at h
    have := sizes_ge ts
    rw [tmD, wdD, wdDs, tmDs_wd ts (by omega), tmDs_map, List.length_cons, List.length_map, decide_eq_true (by omega)]
    rfl
theorem tmDs_wd : ∀ ts : List Tm, sizes ts ≤ 900 → wdDs (tmDs ts) = true
  | [], _ => rfl
  | t :: ts, h => by
    rw [sizes] at h
    rw [tmDs, wdDs, tmD_wd t (by omega), tmDs_wd ts (by omega)]
    rfl
theorem sizes_ge : ∀ ts : List Tm, ts.length ≤ sizes ts
  | [] => Nat.le_refl _
  | t :: ts => by
    have := sizes_ge ts
    have := t.size_pos
    rw [sizes, List.length_cons]
    omega
end
theorem dueD_wd {l : List Tm} (hl : l.length ≤ 900) : wdD (dueD l) = true := by
  unfold dueD
  split
  · rfl
  · next h =>
    unfold toldD
    have : ∀ t ∈ l, t.size ≤ 40 := fun t ht => Nat.le_of_not_lt fun q => h ⟨t, ht, q⟩
    have h2 := wdDs_all tmD l fun t ht => tmD_wd t (by have := this t ht; omega)
    have h3 : l.length ≤ 1000 := by omega
    simp [wdD, wdDs, h2, h3]
theorem dueD_depth {l : List Tm} : (dueD l).depth ≤ 42 := by
  unfold dueD
  split
  · decide
  · next h =>
    unfold toldD
    have : PyData.depthAll (l.map tmD) ≤ 40 := depthAll_le fun d hd => by
      obtain ⟨t, ht, rfl⟩ := List.mem_map.mp hd
      rw [tmD_depth]
      have h1 := depth_le_size t
      have h2 := Nat.le_of_not_lt fun q => h ⟨t, ht, q⟩
      omega
    simp only [PyData.depth, PyData.depthAll]
    omega
theorem DpAll.takeN {K : PySem.W.Frag} {H : Hp} : ∀ {vs : List V} {ds : List PyData} (k : Nat), DpAll K H vs ds → DpAll K H (vs.take k) (ds.take k)
  | _, _, 0, _ => by
    rw [List.take_zero, List.take_zero]
    exact .nil
  | _, _, _ + 1, .nil => .nil
  | _, _, k + 1, .cons a h => .cons a (DpAll.takeN k h)
section
variable {P : Program} {w : World} {K : PySem.W.Frag} {mg : Str → Option Value} {base : Heap} {f C CT : Addr} {fd : FuncData}
/-! ### _law_due -/
abbrev s_law_due : Stmt := top 39
abbrev N_law_due : List Str := ["found", "many", "some", "one"]
theorem sc_law_due : FnScope N_law_due ["found", "many"] (defScope s_law_due) := ⟨rfl, rfl, rfl, by decide +kernel, rfl, by decide +kernel, by decide +kernel⟩
def spDue (K : PySem.W.Frag) : Sp := fun vs H Q _ => ∃ (a : Addr) (ys : List V) (l : List Tm) (co : Nat → Nat) (c m : Nat), vs = [.ref a, .int (m : Nat)] ∧ H a = some (.lst ys) ∧ DpAll K H ys (l.map fun t => lbD co (c, t)) ∧ l ≠ [] ∧ l.length ≤ 20 ∧
  ∀ v H', Same H H' → Dp K H' v (dueD (l.take (max 1 m))) → Q v H'
theorem ok_due (F : FnP K "_law_due" "_law_due" s_law_due f fd) (T : Nm mg) : FnOk P w K mg base CX0 1 f fd ["found", "many"] (spDue K) := by
  refine F.ok sc_law_due (fun vs H Q E h => ?_) (fun cdv A outer s H vs Q E hr h => ?_)
  · obtain ⟨a, ys, l, co, c, m, rfl, _⟩ := h
    rfl
  obtain ⟨a, ys, l, co, c, m, rfl, ha, dys, lne, ll, k⟩ := h
  have hq := hq_of hr
  refine ⟨_, PSs.nox
  (pss_cons (ps_set (i := 2) sc_law_due.nd rfl (Or.inl rfl) (pe_slice (sl_listK K) (pv 0) po_none (po_some (pe_callB (call_max2 rfl) (by rfl) T.max bt_max (pa_cons pe_int (pa_cons (pv 1) pa_nil))))))
      (pss_cons (ps_if (pt_cmpR op_gt (pe_callB (cr_maxK K rfl) (by rfl) T.max bt_max (pa_cons (pe_lc (own := [("one", 3)]) rfl sc_law_due.nd (pi_listK K (pv 2)) (blkOk_by (N := N_law_due) (sc := defScope s_law_due) (by decide +kernel)) (fun _ _ _ _ _ => (pg_name (i := 3) sc_law_due.nd rfl (Or.inl rfl))) (fun _ _ _ _ _ => pts_nil) (fun _ _ _ _ _ => (pe_ix (ix_K K) (pv 3) pe_int (fun _ _ => rfl)))) pa_nil)) pe_int (nomark _)) (pss_one (ps_ret (pe_tup (pa_cons pe_str (pa_cons pe_int (pa_cons pe_bl pa_nil)))))) pss_nil)
      (pss_one (ps_ret (pe_tup (pa_cons pe_str (pa_cons (pe_callTy (cr_tupleK K) (by rfl) T.tuple bt_tuple (pa_cons (pe_lc (own := [("one", 3)]) rfl sc_law_due.nd (pi_listK K (pv 2)) (blkOk_by (N := N_law_due) (sc := defScope s_law_due) (by decide +kernel)) (fun _ _ _ _ _ => (pg_name (i := 3) sc_law_due.nd rfl (Or.inl rfl))) (fun _ _ _ _ _ => pts_nil) (fun _ _ _ _ _ => (pe_ix (ix_K K) (pv 3) pe_int (fun _ _ => rfl)))) pa_nil)) pa_nil))))))), ?_⟩
  have lys : ys.length = l.length := by rw [DpAll.len dys, List.length_map]
  -- some = found[:max(1, many)]
  refine seq_cut (fun σ H' => ∃ (sp : Addr) (v3 : Option V), σ = [some (.ref a), some (.int (m : Nat)), some (.ref sp), v3] ∧ Same H H' ∧ H' sp = some (.lst (ys.take (max 1 m)))) (fun Z hZ => ?_) ?_
  · refine ⟨_, rfl, _, rfl, _, _, rfl, _, rfl, a, ys, rfl, SqL.of ha, fun p hp => ?_⟩
    refine hZ _ _ ⟨p, _, rfl, (Fr.new (M := []) hp).same, ?_⟩
    have e : (if ((m : Nat) : Int) > 1 then ((m : Nat) : Int) else 1) = ((max 1 m : Nat) : Int) := by
      split <;> omega
    rw [upd_same, e, cutV_to]
  rintro _ H1 ⟨sp, v3, rfl, s1, hsp⟩
  have dsp : DpAll K H1 (ys.take (max 1 m)) ((l.take (max 1 m)).map fun t => lbD co (c, t)) := by
    have := DpAll.tps (Tps.same s1) _ _ (flatDs_all _ _ fun t => lbD_flat co (c, t)) dys
    rw [List.map_take]
    exact DpAll.takeN _ this
  have hne : l.take (max 1 m) ≠ [] := fun e => by
    have := congrArg List.length e
    rw [List.length_take] at this
    have h1 := List.length_pos_iff.mpr lne
    rw [List.length_nil] at this
    omega
  have hl20 : (l.take (max 1 m)).length ≤ 20 := by
    rw [List.length_take]
    omega
  clear dys lys ha lne ll
  generalize ys.take (max 1 m) = zs at hsp dsp
  generalize l.take (max 1 m) = l' at k dsp hne hl20
  have lz : zs.length = l'.length := by rw [DpAll.len dsp, List.length_map]
  have part : ∀ {Hx : Hp}, Same H1 Hx → ∀ {j : Nat} {y : V}, zs[j]? = some y → ∃ t b sa w, l'[j]? = some t ∧ y = .ref b ∧ SqT K Hx b [.int (t.cost co : Nat), .int (t.size : Nat), .ref sa, .int (c : Nat), w] ∧ Dp K Hx w (tmD t) := fun {Hx} sx {j y} hy => by
    obtain ⟨dd, ed, dr⟩ := DpAll.get' (DpAll.tps (Tps.same sx) _ _ (flatDs_all _ _ fun t => lbD_flat co (c, t)) dsp) hy
    rw [List.getElem?_map] at ed
    cases et : l'[j]? with
    | none =>
      rw [et] at ed
      cases ed
    | some t =>
    rw [et] at ed
    obtain rfl := Option.some.inj ed
    obtain ⟨b, sa, w, rfl, h1, h2, h3⟩ := Dp.lb dr
    exact ⟨t, b, sa, w, rfl, rfl, h1, h3⟩
  -- if max([one[1] for one in some]) > 40
  refine if_cut (fun b H' => Same H1 H' ∧ (b = true ↔ ∃ t ∈ l', 40 < t.size)) (fun Z hZ => ?_) ?_
  · refine ⟨_, rfl, sp, rfl, ⟨_, SqL.of hsp⟩, fun D hD => ?_⟩
    refine lcM (walk_list (xs := zs)) [] hD (fun i acc H' => acc = (l'.take i).map fun t => V.int (t.size : Nat)) rfl (fun i acc H' fr _ => SqL.of (fr.same _ _ hsp)) ?_ ?_
    · rintro j y acc Hb Ha Nx hN hj fr e rfl ⟨rfl, hy⟩
      obtain ⟨t, b, sa, w, et, rfl, hb, _⟩ := part fr.same hy
      refine ⟨rfl, ?_⟩
      refine yes_cut ?_
      refine ⟨_, rfl, b, _, 1, _, rfl, rfl, .inr hb, rfl, _, e, small_line (by rw [List.length_map, List.length_take]; omega), hN _ _ upd_same (fr.put (.inl hD)) ?_⟩
      rw [take_get et, List.map_append]
      rfl
    · rintro acc Ha fr e rfl
      rw [lz, List.take_of_length_le (Nat.le_refl _)] at e
      refine ⟨D, l'.map fun t => ((t.size : Nat) : Int), rfl, SqL.of (by rw [e, List.map_map]; rfl), ?_, fun mx hm hmax => ⟨_, _, rfl, rfl, _, rfl, hZ _ _ ⟨fr.same, ?_⟩⟩⟩
      · rw [List.length_map]
        exact List.length_pos_iff.mpr hne
      · rw [decide_eq_true_iff]
        constructor
        · intro h
          obtain ⟨t, ht, rfl⟩ := List.mem_map.mp hm
          exact ⟨t, ht, by omega⟩
        · rintro ⟨t, ht, h⟩
          have := hmax _ (List.mem_map.mpr ⟨t, ht, rfl⟩)
          show (40 : Int) < mx
          omega
  rintro b H2 ⟨s2, hb⟩
  have hsp2 := s2 _ _ hsp
  cases b with
  | true =>
    refine ⟨by show 3 ≤ sizeLine; decide, fun p hp => ?_⟩
    refine k _ _ ((s1.trans s2).trans (Fr.new (M := []) hp).same) ?_
    unfold dueD
    rw [if_pos (hb.mp rfl)]
    exact .tup (SqT.of upd_same) (.cons (.str _) (.cons (.int _) (.cons (.bl _) .nil)))
  | false =>
    refine ⟨_, rfl, sp, rfl, ⟨_, SqL.of hsp2⟩, fun D hD => ?_⟩
    refine lcM (walk_list (xs := zs)) [] hD (fun i acc H' => DpAll K H' acc ((l'.take i).map tmD)) .nil (fun i acc H' fr _ => SqL.of (fr.same _ _ hsp2)) ?_ ?_
    · rintro j y acc Hb Ha Nx hN hj fr e dA ⟨rfl, hy⟩
      obtain ⟨t, b, sa, w, et, rfl, hb, dw⟩ := part (s2.trans fr.same) hy
      refine ⟨rfl, ?_⟩
      refine yes_cut ?_
      have lacc : acc.length ≤ 20 := by
        rw [DpAll.len dA, List.length_map, List.length_take]
        omega
      have tm := Tps.mut (K := K) (o := .lst (acc ++ [w])) e trivial
      refine ⟨_, rfl, b, _, 4, _, rfl, rfl, .inr hb, rfl, _, e, small_line (by omega), hN _ _ upd_same (fr.put (.inl hD)) ?_⟩
      rw [take_get et, List.map_append]
      exact DpAll.app (DpAll.tps tm _ _ (flatDs_all _ _ tmD_flat) dA) (.cons (Dp.tps tm _ _ (tmD_flat _) dw) .nil)
    · rintro acc H3 fr e dA
      rw [lz, List.take_of_length_le (Nat.le_refl _)] at dA
      refine ⟨D, acc, rfl, .inl ⟨SqL.of e, fun t1 ht1 => ?_⟩⟩
      refine ⟨by show 2 ≤ sizeLine; decide, fun t2 ht2 => ?_⟩
      have q1 := (Fr.new (M := []) (o := .tup acc) ht1).same
      have q2 := (Fr.new (M := []) (o := .tup [.str "told", .ref t1]) ht2).same
      refine k _ _ ((((s1.trans s2).trans fr.same).trans q1).trans q2) ?_
      unfold dueD
      rw [if_neg fun h => by cases hb.mpr h]
      exact .tup (SqT.of upd_same) (.cons (.str _) (.cons (.tup ((Tps.same q2) _ _ (SqT.of upd_same)) (DpAll.tps (Tps.same (q1.trans q2)) _ _ (flatDs_all _ _ tmD_flat) dA)) .nil))
/-! ### _law_same -/
abbrev s_law_same : Stmt := top 22
abbrev N_law_same : List Str := ["told", "due", "there", "here"]
theorem sc_law_same : FnScope N_law_same ["told", "due"] (defScope s_law_same) := ⟨rfl, rfl, rfl, by decide +kernel, rfl, by decide +kernel, by decide +kernel⟩
def spSame (K : PySem.W.Frag) (k : Nat) : Sp := fun vs H Q _ => ∃ (x y : V) (d : PyData), vs = [x, y] ∧ Dp K H x d ∧ Dp K H y d ∧ flatD d = true ∧ wdD d = true ∧ d.depth < k ∧ ∀ H', Same H H' → Q (.bl true) H'
theorem same_step (F : FnP K "_law_same" "_law_same" s_law_same f fd) (T : Nm mg) {k : Nat} (h_self : Has P w K mg base CX0 "_law_same" ["told", "due"] k (spSame K k)) : FnOk P w K mg base CX0 (k + 1) f fd ["told", "due"] (spSame K (k + 1)) := by
  refine F.ok sc_law_same (fun vs H Q E h => ?_) (fun cdv A outer s H vs Q E hr h => ?_)
  · obtain ⟨x, y, d, rfl, _⟩ := h
    rfl
  obtain ⟨x, y, d, rfl, dx, dy, fl, wd, hd, hk⟩ := h
  have hq := hq_of hr
  refine ⟨_, PSs.nox
  (pss_cons (ps_if (pt_val (pe_callB call_isi (by rfl) T.isinstance bt_isinstance (pa_cons (pv 1) (pa_cons (pe_bltn (v := .ty "tuple") (by rfl) T.tuple bt_tuple rfl) pa_nil)))) (pss_cons (ps_if (PW.pt (pw_or (pt_not (pt_val (pe_callB call_isi (by rfl) T.isinstance bt_isinstance (pa_cons (pv 0) (pa_cons (pe_bltn (v := .ty "tuple") (by rfl) T.tuple bt_tuple rfl) pa_nil))))) (pw_or1 (pt_cmpR (op_neK K hq) (pe_callB (cr_lenK K) (by rfl) T.len bt_len (pa_cons (pv 0) pa_nil)) (pe_callB (cr_lenK K) (by rfl) T.len bt_len (pa_cons (pv 1) pa_nil)) (nomark _))))) (pss_one (ps_ret pe_bl)) pss_nil)
      (pss_one (ps_ret (pe_callB (cr_allK K rfl) (by rfl) T.all bt_all (pa_cons (pe_lc (own := [("there", 2), ("here", 3)]) rfl sc_law_same.nd (pi_zipK K (by rfl) T.zip (pa_cons (pv 0) (pa_cons (pv 1) pa_nil))) (blkOk_by (N := N_law_same) (sc := defScope s_law_same) (by decide +kernel)) (fun _ _ _ _ _ => (pg_tupK (n := 2) K rfl (pgs_cons (pg_name (i := 2) sc_law_same.nd rfl (Or.inl rfl)) (pgs_cons (pg_name (i := 3) sc_law_same.nd rfl (Or.inl rfl)) pgs_nil)))) (fun _ _ _ _ _ => pts_nil) (fun _ _ _ _ _ => (pe_f h_self hr (by rfl) (pa_cons (pv 2) (pa_cons (pv 3) pa_nil))))) pa_nil))))) pss_nil)
      (pss_cons (ps_if (pt_cmpR op_isN (pv 1) pe_non (nomark _)) (pss_one (ps_ret (pe_cmpR op_isN (pv 0) pe_non (nomark _)))) pss_nil)
      (pss_cons (ps_if (pt_val (pe_callB call_isi (by rfl) T.isinstance bt_isinstance (pa_cons (pv 1) (pa_cons (pe_bltn (v := .ty "bool") (by rfl) T.bool bt_bool rfl) pa_nil)))) (pss_one (ps_ret (pe_and (pe_callB call_isi (by rfl) T.isinstance bt_isinstance (pa_cons (pv 0) (pa_cons (pe_bltn (v := .ty "bool") (by rfl) T.bool bt_bool rfl) pa_nil))) (pe_one (pe_cmpR (op_eqK K hq) (pv 0) (pv 1) (nomark _)))))) pss_nil)
      (pss_cons (ps_if (pt_val (pe_callB call_isi (by rfl) T.isinstance bt_isinstance (pa_cons (pv 1) (pa_cons (pe_bltn (v := .ty "str") (by rfl) T.str bt_str rfl) pa_nil)))) (pss_one (ps_ret (pe_and (pe_callB call_isi (by rfl) T.isinstance bt_isinstance (pa_cons (pv 0) (pa_cons (pe_bltn (v := .ty "str") (by rfl) T.str bt_str rfl) pa_nil))) (pe_one (pe_cmpR (op_eqK K hq) (pv 0) (pv 1) (nomark _)))))) pss_nil)
      (pss_one (ps_ret (pe_and (pe_callB call_isi (by rfl) T.isinstance bt_isinstance (pa_cons (pv 0) (pa_cons (pe_bltn (v := .ty "int") (by rfl) T.int bt_int rfl) pa_nil))) (pe_and (pe_not (pe_callB call_isi (by rfl) T.isinstance bt_isinstance (pa_cons (pv 0) (pa_cons (pe_bltn (v := .ty "bool") (by rfl) T.bool bt_bool rfl) pa_nil)))) (pe_one (pe_cmpR (op_eqK K hq) (pv 0) (pv 1) (nomark _))))))))))), ?_⟩
  cases d with
  | list ds => rw [flatD] at fl; cases fl
  | dict ds => rw [flatD] at fl; cases fl
  | tuple ds =>
    obtain ⟨a, xs, rfl, hxs, dxs⟩ := Dp.tupOf dx
    obtain ⟨b, ys, rfl, hys, dys⟩ := Dp.tupOf dy
    have lx := DpAll.len dxs
    have ly := DpAll.len dys
    refine ⟨_, rfl, .ref b, _, _, _, true, rfl, .ty _, tyx_tup hys, kit_ty (by decide +kernel), true, rfl, ?_⟩
    refine iteT ?_
    refine ⟨_, rfl, .ref a, _, _, _, true, rfl, .ty _, tyx_tup hxs, kit_ty (by decide +kernel), true, rfl, ?_⟩
    refine iteF ?_
    refine ⟨_, rfl, a, xs, rfl, .inr hxs, _, rfl, b, ys, rfl, .inr hys, .inl ⟨rfl, _, rfl, ?_⟩⟩
    refine ndec_b (fun h => absurd (by rw [lx, ly]) h) (fun _ => ?_)
    refine ⟨_, rfl, _, rfl, a, b, xs, ys, rfl, .inr ⟨hxs, hys, fun D hD => ?_⟩⟩
    refine lcM (walk_zipT (xs := xs) (ys := ys) (n := ds.length) (by omega)) [] hD (fun i acc H' => acc = (List.replicate i true).map V.bl) rfl (fun i acc H' fr _ => ⟨(Tps.same fr.same) _ _ hxs, (Tps.same fr.same) _ _ hys⟩) ?_ ?_
    · rintro i v acc Ha Hb Nx hN hi fr e rfl ⟨q, y1, y2, rfl, hq0, rfl, e1, e2⟩
      obtain ⟨d1, g1, dp1⟩ := DpAll.get' dxs e1
      obtain ⟨d2, g2, dp2⟩ := DpAll.get' dys e2
      rw [g1] at g2
      obtain rfl := Option.some.inj g2
      have hm := List.mem_of_getElem? g1
      have sq := (Fr.new (M := []) (o := .tup [y1, y2]) hq0).same
      have wq : SqT K (upd Ha q (.tup [y1, y2])) q [y1, y2] := SqT.of upd_same
      generalize upd Ha q (.tup [y1, y2]) = Hc at sq wq
      have sc := fr.same.trans sq
      have fl1 : flatD d1 = true := by
        rw [flatD] at fl
        exact flatDs_mem fl hm
      have wd1 : wdD d1 = true := by
        rw [wdD, Bool.and_eq_true] at wd
        exact wdDs_mem wd.2 hm
      have l1000 : ds.length ≤ 1000 := by
        rw [wdD, Bool.and_eq_true] at wd
        exact of_decide_eq_true wd.1
      have dd : d1.depth < (PyData.tuple ds).depth := by
        have := depthAll_mem hm
        rw [PyData.depth]
        omega
      refine ⟨q, _, rfl, wq, rfl, _, _, rfl, _, _, rfl, rfl, rfl, ?_⟩
      refine yes_cut ?_
      refine ⟨_, rfl, _, rfl, y1, y2, d1, rfl, Dp.tps (Tps.same sc) _ _ fl1 dp1, Dp.tps (Tps.same sc) _ _ fl1 dp2, fl1, wd1, by omega, fun H2 s2 => ?_⟩
      have eD := s2 _ _ (sq _ _ e)
      refine ⟨_, eD, ?_, hN _ _ upd_same ((fr.trans (.of_same (sq.trans s2))).put (.inl hD)) ?_⟩
      · rw [List.length_map, List.length_replicate]
        exact small_line (by omega)
      · rw [List.replicate_succ', List.map_append]
        rfl
    · rintro acc Ha fr e rfl
      refine ⟨D, List.replicate ds.length true, rfl, SqL.of e, ?_⟩
      have : (List.replicate ds.length true).all id = true := by simp
      rw [this]
      exact hk _ fr.same
  | none =>
    cases dx
    cases dy
    refine ⟨_, rfl, .non, _, _, _, false, rfl, .ty _, .base .non, kit_ty (by decide +kernel), false, rfl, ?_⟩
    refine iteF ?_
    refine ⟨_, rfl, rfl, _, rfl, ?_⟩
    refine dec_b (fun _ => ?_) (fun h => absurd rfl h)
    refine ⟨_, rfl, rfl, ?_⟩
    have : decide (V.non = V.non) = true := by decide
    rw [this]
    exact hk H (Same.refl _)
  | bool z =>
    cases dx
    cases dy
    refine ⟨_, rfl, .bl z, _, _, _, false, rfl, .ty _, .base (.bl _), kit_ty (by decide +kernel), false, rfl, ?_⟩
    refine iteF ?_
    refine ⟨_, rfl, rfl, _, rfl, ?_⟩
    refine dec_b (fun h => by cases h) (fun _ => ?_)
    refine ⟨_, rfl, .bl z, _, _, _, true, rfl, .ty _, .base (.bl _), kit_ty (by decide +kernel), true, rfl, ?_⟩
    refine iteT ?_
    refine ⟨_, rfl, .bl z, _, _, _, true, rfl, .ty _, .base (.bl _), kit_ty (by decide +kernel), true, rfl, ?_⟩
    refine iteT ?_
    refine ⟨_, rfl, _, rfl, .inl ⟨rfl, ?_⟩⟩
    have : decide (V.bl z = V.bl z) = true := decide_eq_true rfl
    rw [this]
    exact hk H (Same.refl _)
  | str z =>
    cases dx
    cases dy
    refine ⟨_, rfl, .str z, _, _, _, false, rfl, .ty _, .base (.str _), kit_ty (by decide +kernel), false, rfl, ?_⟩
    refine iteF ?_
    refine ⟨_, rfl, rfl, _, rfl, ?_⟩
    refine dec_b (fun h => by cases h) (fun _ => ?_)
    refine ⟨_, rfl, .str z, _, _, _, false, rfl, .ty _, .base (.str _), kit_ty (by decide +kernel), false, rfl, ?_⟩
    refine iteF ?_
    refine ⟨_, rfl, .str z, _, _, _, true, rfl, .ty _, .base (.str _), kit_ty (by decide +kernel), true, rfl, ?_⟩
    refine iteT ?_
    refine ⟨_, rfl, .str z, _, _, _, true, rfl, .ty _, .base (.str _), kit_ty (by decide +kernel), true, rfl, ?_⟩
    refine iteT ?_
    refine ⟨_, rfl, _, rfl, .inl ⟨rfl, ?_⟩⟩
    have : decide (V.str z = V.str z) = true := decide_eq_true rfl
    rw [this]
    exact hk H (Same.refl _)
  | int z =>
    cases dx
    cases dy
    refine ⟨_, rfl, .int z, _, _, _, false, rfl, .ty _, .base (.int _), kit_ty (by decide +kernel), false, rfl, ?_⟩
    refine iteF ?_
    refine ⟨_, rfl, rfl, _, rfl, ?_⟩
    refine dec_b (fun h => by cases h) (fun _ => ?_)
    refine ⟨_, rfl, .int z, _, _, _, false, rfl, .ty _, .base (.int _), kit_ty (by decide +kernel), false, rfl, ?_⟩
    refine iteF ?_
    refine ⟨_, rfl, .int z, _, _, _, false, rfl, .ty _, .base (.int _), kit_ty (by decide +kernel), false, rfl, ?_⟩
    refine iteF ?_
    refine ⟨_, rfl, .int z, _, _, _, true, rfl, .ty _, .base (.int _), kit_ty (by decide +kernel), true, rfl, ?_⟩
    refine iteT ?_
    refine ⟨_, rfl, .int z, _, _, _, false, rfl, .ty _, .base (.int _), kit_ty (by decide +kernel), false, rfl, true, rfl, ?_⟩
    refine iteT ?_
    refine ⟨_, rfl, _, rfl, .inl ⟨rfl, ?_⟩⟩
    have : decide (V.int z = V.int z) = true := decide_eq_true rfl
    rw [this]
    exact hk H (Same.refl _)
theorem ok_same (F : FnP K "_law_same" "_law_same" s_law_same f fd) (T : Nm mg) (hm : mg "_law_same" = some (.ref f)) (hk : PySem.W.keepIn K (.ref f) = true) (hb : Binds K fd ["told", "due"] []) : ∀ k, FnOk P w K mg base CX0 k f fd ["told", "due"] (spSame K k)
  | 0 => ⟨fun vs H Q E h => (by
      obtain ⟨x, y, d, _, _, _, _, _, h, _⟩ := h
      omega), fun A outer s H args us vs Q E _ _ _ _ h => (by
      obtain ⟨x, y, d, _, _, _, _, _, h, _⟩ := h
      omega)⟩
  | k + 1 => same_step F T ⟨f, fd, hm, hk, hb, ok_same F T hm hk hb k⟩
end
end R59
/-! W27 -/
set_option maxHeartbeats 1000000
namespace R59
open PySem PyProof.Rows L2 KB PySem.W
/-- what _law_most adds up for a row -/
def msq (m : Nat) (r : Row) : Nat := if r.is.length = 2 then m * m else m * m * m
theorem wid_le {ar : Nat → Nat} {T : List Row} {n m : Nat} (G : TabG ar T n) (hm1 : 1 ≤ m) (hm : m ≤ 20) (h : ((T.filter fun r => decide (1 < r.is.length)).map (msq m)).sum ≤ 1200) : wid m T ≤ 5000 := by
  have a3 : ∀ r ∈ T, r.is.length ≤ 3 := fun r hr => by rw [G.a3 r hr]; exact G.ar3 _
  have main : ∀ T : List Row, (∀ r ∈ T, r.is.length ≤ 3) → wid m T ≤ ((T.filter fun r => decide (1 < r.is.length)).map (msq m)).sum + T.length * 20 := by
    intro T
    induction T with
    | nil => intro _; exact Nat.le_refl _
    | cons r T ih =>
      intro h
      have h1 := ih fun x hx => h x (List.mem_cons_of_mem _ hx)
      have h2 := h r List.mem_cons_self
      have ew : wid m (r :: T) = m ^ r.is.length + wid m T := rfl
      rw [ew, List.length_cons, Nat.succ_mul]
      by_cases q : 1 < r.is.length
      · rw [List.filter_cons_of_pos (by simpa using q), List.map_cons, List.sum_cons]
        have : m ^ r.is.length = msq m r := by
          unfold msq
          have : r.is.length = 2 ∨ r.is.length = 3 := by omega
          rcases this with e | e
          · rw [e, if_pos rfl, Nat.pow_two]
          · rw [e, if_neg (by decide), Nat.pow_succ, Nat.pow_two]
        omega
      · rw [List.filter_cons_of_neg (by simpa using q)]
        have : m ^ r.is.length ≤ 20 := by
          have : r.is.length = 0 ∨ r.is.length = 1 := by omega
          rcases this with e | e
          · rw [e, Nat.pow_zero]; omega
          · rw [e, Nat.pow_one]; exact hm
        omega
  have h1 := main T a3
  have h2 := G.len
  omega
theorem wid_one {ar : Nat → Nat} {T : List Row} {n : Nat} (G : TabG ar T n) : wid 1 T ≤ 42 := by
  have main : ∀ T : List Row, wid 1 T ≤ T.length := by
    intro T
    induction T with
    | nil => exact Nat.le_refl _
    | cons r T ih =>
      have ew : wid 1 (r :: T) = 1 ^ r.is.length + wid 1 T := rfl
      rw [ew, Nat.one_pow, List.length_cons]
      omega
  exact Nat.le_trans (main T) G.len
theorem wid_mono {T : List Row} {a b : Nat} (h : a ≤ b) : wid a T ≤ wid b T := by
  induction T with
  | nil => exact Nat.le_refl _
  | cons r T ih =>
    have e1 : wid a (r :: T) = a ^ r.is.length + wid a T := rfl
    have e2 : wid b (r :: T) = b ^ r.is.length + wid b T := rfl
    rw [e1, e2]
    have := Nat.pow_le_pow_left h r.is.length
    omega
section
variable {P : Program} {w : World} {K : PySem.W.Frag} {mg : Str → Option Value} {base : Heap} {f C CT : Addr} {fd : FuncData}
/-! ### _law_most -/
abbrev s_law_most : Stmt := top 42
abbrev N_law_most : List Str := ["bag", "table", "rest", "most", "row"]
theorem sc_law_most : FnScope N_law_most ["bag", "table"] (defScope s_law_most) := ⟨rfl, rfl, rfl, by decide +kernel, rfl, by decide +kernel, by decide +kernel⟩
def spMost (K : PySem.W.Frag) : Sp := fun vs H Q _ => ∃ (b cl ta : Addr) (T : List Row) (n : Nat) (ar : Nat → Nat), vs = [.ref b, .ref ta] ∧ Bag H b cl ∧ Dp K H (.ref ta) (tabD T) ∧ TabG ar T n ∧
  ∀ (m : Nat) H', 1 ≤ m → m ≤ 20 → wid m T ≤ 5000 → Bag H' b cl → Fr [b, cl] H H' → Q (.int (m : Nat)) H'
theorem ok_most (F : FnP K "_law_most" "_law_most" s_law_most f fd) (T : Nm mg) (h_law_draw : Has P w K mg base CX0 "_law_draw" ["bag", "below"] 1 spDraw) : FnOk P w K mg base CX0 2 f fd ["bag", "table"] (spMost K) := by
  refine F.ok sc_law_most (fun vs H Q E h => ?_) (fun cdv A outer s H vs Q E hr h => ?_)
  · obtain ⟨b, cl, ta, T, n, ar, rfl, _⟩ := h
    rfl
  obtain ⟨b, cl, ta, Tb, n, ar, rfl, B, dt, G, k⟩ := h
  have hq := hq_of hr
  obtain ⟨a', xs, ea, hta, dx⟩ := Dp.tupOf dt
  cases ea
  have lxT : xs.length = Tb.length := by rw [DpAll.len dx, List.length_map]
  have lT := G.len
  refine ⟨_, PSs.nox
  (pss_cons (ps_set (i := 2) sc_law_most.nd rfl (Or.inl rfl) (pe_lst (pa_cons pe_int (pa_cons pe_int (pa_cons pe_int (pa_cons pe_int (pa_cons pe_int (pa_cons pe_int (pa_cons pe_int (pa_cons pe_int (pa_cons pe_int pa_nil)))))))))))
      (pss_cons (ps_for PassesOwn.never rfl (pi_listK K (pe_slice (sl_listK K) (pv 2) (po_some (pe_f h_law_draw (hr.mono (by decide)) (by rfl) (pa_cons (pv 0) (pa_cons pe_int pa_nil)))) po_none)) (pg_name (i := 3) sc_law_most.nd rfl (Or.inr rfl)) (pss_one (ps_if (pt_cmpR op_le (pe_callB (cr_sumK K rfl) (by rfl) T.sum bt_sum (pa_cons (pe_lc (own := [("row", 4)]) rfl sc_law_most.nd (pi_tupK K (pv 1)) (blkOk_by (N := N_law_most) (sc := defScope s_law_most) (by decide +kernel)) (fun _ _ _ _ _ => (pg_name (i := 4) sc_law_most.nd rfl (Or.inl rfl))) (fun _ _ _ _ _ => (pts_one (pt_cmpR op_gt (pe_callB (cr_lenK K) (by rfl) T.len bt_len (pa_cons (pe_ix (ix_K K) (pv 4) pe_int (fun _ _ => rfl)) pa_nil)) pe_int (nomark _)))) (fun _ _ _ _ _ => (pe_ifExp (pt_cmpR (op_eqK K hq) (pe_callB (cr_lenK K) (by rfl) T.len bt_len (pa_cons (pe_ix (ix_K K) (pv 4) pe_int (fun _ _ => rfl)) pa_nil)) pe_int (nomark _)) (pe_op (op_mulK K) (pv 3) (pv 3)) (pe_op (op_mulK K) (pe_op (op_mulK K) (pv 3) (pv 3)) (pv 3))))) pa_nil)) pe_int (nomark _)) (pss_one (ps_ret (pv 3))) pss_nil)))
      (pss_one (ps_ret pe_int)))), ?_⟩
  refine ⟨by show 9 ≤ sizeLine; decide, fun rp hrp => ?_⟩
  dsimp only [gName]
  have q1 : Same H (upd H rp (.lst [.int 20, .int 14, .int 10, .int 7, .int 5, .int 4, .int 3, .int 2, .int 1])) := (Fr.new (M := []) hrp).same
  have w1 : upd H rp (.lst [.int 20, .int 14, .int 10, .int 7, .int 5, .int 4, .int 3, .int 2, .int 1]) rp = some (.lst ([20, 14, 10, 7, 5, 4, 3, 2, 1].map V.int)) := upd_same
  generalize upd H rp (.lst [.int 20, .int 14, .int 10, .int 7, .int 5, .int 4, .int 3, .int 2, .int 1]) = H1 at q1 w1
  have B1 := B.same q1
  refine seq_cut (fun σ H' => Bag H' b cl ∧ Fr [b, cl] H H') (fun Z hZ => ?_) ?_
  · refine ⟨_, rfl, _, rfl, b, cl, 3, rfl, B1, by decide, by decide, fun r H2 r0 r1 B2 f2 => ?_⟩
    have rpn := B.out hrp
    have f02 : Fr [b, cl] H H2 := (Fr.of_same q1).trans f2
    refine ⟨r, rfl, rp, _, rfl, SqL.of (f2 _ _ w1 rpn), fun lp hlp => ?_⟩
    have s3 := (Fr.new (M := []) (o := .lst (cutV ([20, 14, 10, 7, 5, 4, 3, 2, 1].map V.int) (some r) none)) hlp).same
    have w3 : upd H2 lp (.lst (cutV ([20, 14, 10, 7, 5, 4, 3, 2, 1].map V.int) (some r) none)) lp = some (.lst (cutV ([20, 14, 10, 7, 5, 4, 3, 2, 1].map V.int) (some r) none)) := upd_same
    have hm : ∀ v ∈ cutV ([20, 14, 10, 7, 5, 4, 3, 2, 1].map V.int) (some r) none, ∃ m : Nat, v = .int (m : Nat) ∧ 1 ≤ m ∧ m ≤ 20 := fun v hv => by
      have := cutV_mem hv
      simp only [List.map_cons, List.map_nil, List.mem_cons, List.not_mem_nil, or_false] at this
      rcases this with rfl | rfl | rfl | rfl | rfl | rfl | rfl | rfl | rfl
      · exact ⟨20, rfl, by decide, by decide⟩
      · exact ⟨14, rfl, by decide, by decide⟩
      · exact ⟨10, rfl, by decide, by decide⟩
      · exact ⟨7, rfl, by decide, by decide⟩
      · exact ⟨5, rfl, by decide, by decide⟩
      · exact ⟨4, rfl, by decide, by decide⟩
      · exact ⟨3, rfl, by decide, by decide⟩
      · exact ⟨2, rfl, by decide, by decide⟩
      · exact ⟨1, rfl, by decide, by decide⟩
    generalize cutV ([20, 14, 10, 7, 5, 4, 3, 2, 1].map V.int) (some r) none = zs at hm s3 w3
    generalize upd H2 lp (.lst zs) = H3 at s3 w3
    have B3 := B2.same s3
    have f03 : Fr [b, cl] H H3 := f02.trans (.of_same s3)
    refine ⟨lp, rfl, ⟨_, SqL.of w3⟩, ?_⟩
    refine for_it (walk_list (xs := zs)) (fun i σ H' => ∃ v3 v4, σ = [some (.ref b), some (.ref ta), some (.ref rp), v3, v4] ∧ Same H3 H') ⟨_, _, rfl, Same.refl _⟩ (fun i σ H' _ ⟨_, _, _, s'⟩ => SqL.of (s' _ _ w3)) ?_ ?_
    · rintro i v _ Hz Ha hi ⟨v3, v4, rfl, sa⟩ ⟨rfl, hv⟩
      obtain ⟨m, rfl, hm1, hm20⟩ := hm v (List.mem_of_getElem? hv)
      have Ba := B3.same sa
      have f0a : Fr [b, cl] H Ha := f03.trans (.of_same sa)
      have htaa := f0a.tps B.mut _ _ hta
      dsimp only [gName]
      refine if_cut (fun z H' => Same Ha H' ∧ (z = true → ((Tb.filter fun r => decide (1 < r.is.length)).map (msq m)).sum ≤ 1200)) (fun Z hZ => ?_) ?_
      · refine ⟨_, rfl, ta, rfl, ⟨_, htaa⟩, fun D hD => ?_⟩
        refine lcM (walk_tup (xs := xs)) [] hD (fun i acc H' => acc = (((Tb.take i).filter fun r => decide (1 < r.is.length)).map fun r => V.int (msq m r : Nat))) rfl (fun i acc H' fr _ => (Tps.same fr.same) _ _ htaa) ?_ ?_
        · rintro j y acc Hy Hc Nx hN hj fr e rfl ⟨rfl, hy⟩
          obtain ⟨dd, ed, dr⟩ := DpAll.get' dx hy
          rw [List.getElem?_map] at ed
          cases er : Tb[j]? with
          | none =>
            rw [er] at ed
            cases ed
          | some r =>
          rw [er] at ed
          obtain rfl := Option.some.inj ed
          obtain ⟨ra, ia, rfl, hra0, hia0⟩ := Dp.row dr
          have f0c : Fr [b, cl] H Hc := f0a.trans (.of_same fr.same)
          have hra := f0c.tps B.mut _ _ hra0
          have hia := f0c.tps B.mut _ _ hia0
          refine ⟨rfl, ?_⟩
          have ft : (Tb.take (j + 1)).filter (fun r => decide (1 < r.is.length)) = (Tb.take j).filter (fun r => decide (1 < r.is.length)) ++ if 1 < r.is.length then [r] else [] := by
            rw [take_get er, List.filter_append]
            congr 1
            by_cases h : 1 < r.is.length <;> simp [h]
          have la : (((Tb.take j).filter fun r => decide (1 < r.is.length)).map fun r => V.int (msq m r : Nat)).length ≤ 42 := by
            rw [List.length_map]
            have h1 := List.length_filter_le (fun r : Row => decide (1 < r.is.length)) (Tb.take j)
            rw [List.length_take] at h1
            omega
          refine ⟨_, rfl, ra, _, 1, _, rfl, rfl, .inr hra, rfl, ia, _, rfl, .inr hia, _, _, rfl, rfl, _, rfl, ?_⟩
          rw [List.length_map]
          refine dec_b (fun h1 => ?_) (fun h1 => ?_)
          · have h1' : 1 < r.is.length := by omega
            refine ⟨_, rfl, ra, _, 1, _, rfl, rfl, .inr hra, rfl, ia, _, rfl, .inr hia, .inl ⟨rfl, _, rfl, ?_⟩⟩
            rw [List.length_map]
            have fin : ∀ z : Int, z = (msq m r : Nat) → ∃ acc, Hc D = some (.lst acc) ∧ acc.length < sizeLine ∧ Nx (upd Hc D (.lst (acc ++ [.int z]))) := fun z ez => by
              subst ez
              refine ⟨_, e, small_line (by omega), hN _ _ upd_same (fr.put (.inl hD)) ?_⟩
              rw [ft, if_pos h1', List.map_append]
              rfl
            refine dec_b (fun h2 => ?_) (fun h2 => ?_)
            · refine ⟨_, rfl, _, rfl, .inl ⟨_, _, rfl, rfl, .inl ⟨?_, ?_⟩, fin _ ?_⟩⟩
              · show -(2 ^ 64) < ((m : Nat) : Int)
                omega
              · show ((m : Nat) : Int) < 2 ^ 64
                omega
              · have : r.is.length = 2 := by
                  have := vint_inj h2
                  omega
                unfold msq
                rw [if_pos this, Int.natCast_mul]
            · have hmm : ((m : Nat) : Int) * (m : Nat) ≤ 400 := by
                have : m * m ≤ 20 * 20 := Nat.mul_le_mul hm20 hm20
                have e : ((m : Nat) : Int) * (m : Nat) = ((m * m : Nat) : Int) := (Int.natCast_mul _ _).symm
                omega
              refine ⟨_, rfl, _, rfl, .inl ⟨_, _, rfl, rfl, .inl ⟨?_, ?_⟩, _, rfl, .inl ⟨_, _, rfl, rfl, .inr ⟨?_, ?_⟩, fin _ ?_⟩⟩⟩
              · show -(2 ^ 64) < ((m : Nat) : Int)
                omega
              · show ((m : Nat) : Int) < 2 ^ 64
                omega
              · show -(2 ^ 64) < ((m : Nat) : Int)
                omega
              · show ((m : Nat) : Int) < 2 ^ 64
                omega
              · have : ¬ r.is.length = 2 := fun e => h2 (by rw [e]; rfl)
                unfold msq
                rw [if_neg this, Int.natCast_mul, Int.natCast_mul]
          · refine hN _ _ e fr ?_
            rw [ft, if_neg (by omega), List.append_nil]
        · rintro acc Hc fr e rfl
          rw [lxT, List.take_of_length_le (Nat.le_refl _)] at e
          refine ⟨D, ((Tb.filter fun r => decide (1 < r.is.length)).map fun r => ((msq m r : Nat) : Int)), rfl, SqL.of (by rw [e, List.map_map]; rfl), _, _, rfl, rfl, _, rfl, hZ _ _ ⟨fr.same, fun h => ?_⟩⟩
          have h := of_decide_eq_true h
          have es : ∀ l : List Row, (l.map fun r => ((msq m r : Nat) : Int)).sum = (((l.map (msq m)).sum : Nat) : Int) := by
            intro l
            induction l with
            | nil => rfl
            | cons r l ih =>
              rw [List.map_cons, List.sum_cons, List.map_cons, List.sum_cons, ih]
              omega
          rw [es] at h
          omega
      rintro z Hb ⟨sb, hb⟩
      cases z with
      | true => exact ⟨_, rfl, k m Hb hm1 hm20 (wid_le G hm1 hm20 (hb rfl)) (Ba.same sb) (f0a.trans (.of_same sb))⟩
      | false => exact ⟨_, _, rfl, sa.trans sb⟩
    · rintro _ Ha ⟨v3, v4, rfl, sa⟩
      exact hZ _ _ ⟨B3.same sa, f03.trans (.of_same sa)⟩
  rintro σ H2 ⟨B2, f2⟩
  have := wid_one G
  exact k 1 H2 (Nat.le_refl _) (by decide) (by omega) B2 f2
end
end R59
/-! W28 -/
set_option maxHeartbeats 1000000
namespace R59
open PySem PyProof.Rows L2 KB PySem.W
def qD (e : Nat × Nat) : PyData := .tuple [.int (e.1 : Nat), .int (e.2 : Nat)]
theorem qD_flat (e : Nat × Nat) : flatD (qD e) = true := by
  unfold qD
  simp only [flatD, flatDs]
  decide
theorem qD_made {K : PySem.W.Frag} {H : Hp} {a : Addr} {x y : Nat} (h : SqT K H a [.int (x : Nat), .int (y : Nat)]) : Dp K H (.ref a) (qD (x, y)) := .tup h (.cons (.int _) (.cons (.int _) .nil))
theorem Dp.q {K : PySem.W.Frag} {H : Hp} {v : V} {e : Nat × Nat} (h : Dp K H v (qD e)) : ∃ a, v = .ref a ∧ SqT K H a [.int (e.1 : Nat), .int (e.2 : Nat)] := by
  obtain ⟨a, ys, rfl, h1, h2⟩ := Dp.tupOf h
  cases h2 with
  | cons d1 h2 =>
  cases h2 with
  | cons d2 h2 =>
  cases h2
  cases d1
  cases d2
  exact ⟨a, rfl, h1⟩
section
variable {P : Program} {w : World} {K : PySem.W.Frag} {mg : Str → Option Value} {base : Heap} {f C CT : Addr} {fd : FuncData}
/-! ### _law_questions -/
abbrev s_law_questions : Stmt := top 41
abbrev N_law_questions : List Str := ["bag", "table", "most", "turn", "c", "last", "found"]
theorem sc_law_questions : FnScope N_law_questions ["bag", "table", "most"] (defScope s_law_questions) := ⟨rfl, rfl, rfl, by decide +kernel, rfl, by decide +kernel, by decide +kernel⟩
def spQ (K : PySem.W.Frag) : Sp := fun vs H Q _ => ∃ (b cl ta : Addr) (T : List Row) (n m : Nat) (ar : Nat → Nat), vs = [.ref b, .ref ta, .int (m : Nat)] ∧ Bag H b cl ∧ Dp K H (.ref ta) (tabD T) ∧ TabG ar T n ∧ 1 ≤ m ∧ m ≤ 20 ∧
  ∀ (q : Addr) (zs : List V) (qs : List (Nat × Nat)) H', H q = none → H' q = some (.lst zs) → DpAll K H' zs (qs.map qD) → (∀ e ∈ qs, e.1 < n ∧ e.2 ≤ m) → 2 ≤ qs.length → qs.length ≤ 100 → Bag H' b cl → Fr [b, cl] H H' → Q (.ref q) H'
theorem ok_questions (F : FnP K "_law_questions" "_law_questions" s_law_questions f fd) (T : Nm mg) (h_law_draw : Has P w K mg base CX0 "_law_draw" ["bag", "below"] 1 spDraw) (h_law_pick : Has P w K mg base CX0 "_law_pick" ["bag", "some"] 2 spPick) (h_law_many : Has P w K mg base CX0 "_law_many" ["table"] 1 (spMany K)) :
    FnOk P w K mg base CX0 3 f fd ["bag", "table", "most"] (spQ K) := by
  refine F.ok sc_law_questions (fun vs H Q E h => ?_) (fun cdv A outer s H vs Q E hr h => ?_)
  · obtain ⟨b, cl, ta, T, n, m, ar, rfl, _⟩ := h
    rfl
  obtain ⟨b, cl, ta, Tb, n, m, ar, rfl, B, dt, G, hm1, hm, k⟩ := h
  have hq := hq_of hr
  refine ⟨_, PSs.nox
  (pss_cons (ps_par (i := 5) (j := 6) rfl sc_law_questions.nd rfl rfl (by decide) rfl rfl (pa_cons (pe_op op_sub (pe_f h_law_many (hr.mono (by decide)) (by rfl) (pa_cons (pv 1) pa_nil)) pe_int) (pa_cons (pe_lst pa_nil) pa_nil)) rfl)
      (pss_cons (ps_for PassesOwn.never rfl (pi_range1 (by rfl) T.range (pa_cons pe_int pa_nil)) (pg_name (i := 3) sc_law_questions.nd rfl (Or.inl rfl)) (pss_one (ps_expr (pe_appK K (pv 6) (pe_tup (pa_cons (pe_f h_law_draw (hr.mono (by decide)) (by rfl) (pa_cons (pv 0) (pa_cons (pe_op (op_addK K) (pv 5) pe_int) pa_nil))) (pa_cons (pe_f h_law_pick (hr.mono (by decide)) (by rfl) (pa_cons (pv 0) (pa_cons (pe_lst (pa_cons pe_int (pa_cons pe_int (pa_cons (pv 2) (pa_cons (pe_op (op_addK K) pe_int (pe_f h_law_draw (hr.mono (by decide)) (by rfl) (pa_cons (pv 0) (pa_cons (pv 2) pa_nil)))) pa_nil))))) pa_nil))) pa_nil)))))))
      (pss_cons (ps_for PassesOwn.never rfl (pi_range1 (by rfl) T.range (pa_cons (pe_callB (call_min2 rfl) (by rfl) T.min bt_min (pa_cons (pe_op (op_addK K) (pv 5) pe_int) (pa_cons pe_int pa_nil))) pa_nil)) (pg_name (i := 4) sc_law_questions.nd rfl (Or.inl rfl)) (pss_one (ps_expr (pe_bm PySem.F.plainAttrs_list PySem.F.slot_list_extend PySem.F.type_list_extend mt_extend (pv 6) (pa_cons (pe_lst (pa_cons (pe_tup (pa_cons (pv 4) (pa_cons pe_int pa_nil))) (pa_cons (pe_tup (pa_cons (pv 4) (pa_cons (pv 2) pa_nil))) pa_nil))) pa_nil)))))
      (pss_one (ps_ret (pe_op (op_addK K) (pv 6) (pe_lst (pa_cons (pe_tup (pa_cons (pv 5) (pa_cons pe_int pa_nil))) (pa_cons (pe_tup (pa_cons (pv 5) (pa_cons (pv 2) pa_nil))) (pa_cons (pe_tup (pa_cons (pe_callB (call_min2 rfl) (by rfl) T.min bt_min (pa_cons pe_int (pa_cons (pv 5) pa_nil))) (pa_cons (pe_ifExp (pt_cmpR op_gt (pv 2) pe_int (nomark _)) pe_int pe_int) pa_nil))) (pa_cons (pe_tup (pa_cons pe_int (pa_cons pe_int pa_nil))) pa_nil))))))))))), ?_⟩
  have n1 := G.n1
  have n42 := G.n42
  -- last, found = (_law_many(table) - 1, [])
  refine seq_cut (fun σ H' => ∃ fp, σ = [some (.ref b), some (.ref ta), some (.int (m : Nat)), none, none, some (.int (n - 1 : Nat)), some (.ref fp)] ∧ Same H H' ∧ H fp = none ∧ H' fp = some (.lst [])) (fun Z hZ => ?_) ?_
  · refine ⟨_, rfl, ta, Tb, n, ar, rfl, dt, G, fun H1 s1 => ?_⟩
    refine ⟨_, _, rfl, rfl, by decide, fun fp hfp => ⟨_, _, rfl, ?_⟩⟩
    dsimp only
    have e : ((n : Nat) : Int) - 1 = ((n - 1 : Nat) : Int) := by omega
    rw [e]
    exact hZ _ _ ⟨fp, rfl, s1.trans (Fr.new (M := []) hfp).same, s1.free hfp, upd_same⟩
  rintro _ H1 ⟨fp, rfl, s1, fp0, hfp⟩
  have B1 := B.same s1
  have fpn := B.out fp0
  have el : ((n - 1 : Nat) : Int) + 1 = ((n : Nat) : Int) := by omega
  -- for turn in range(5)
  refine seq_cut (fun σ H' => ∃ (v3 : Option V) (zs : List V) (qs : List (Nat × Nat)), σ = [some (.ref b), some (.ref ta), some (.int (m : Nat)), v3, none, some (.int (n - 1 : Nat)), some (.ref fp)] ∧ Fr [b, cl] H H' ∧ Bag H' b cl ∧ H' fp = some (.lst zs) ∧ DpAll K H' zs (qs.map qD) ∧ (∀ e ∈ qs, e.1 < n ∧ e.2 ≤ m) ∧ qs.length = 5) (fun Z hZ => ?_) ?_
  · refine ⟨5, rfl, by decide, by decide, ?_⟩
    refine for_it (walk_range (lo := 0) (n := 5)) (fun i σ H' => ∃ (v3 : Option V) (zs : List V) (qs : List (Nat × Nat)), σ = [some (.ref b), some (.ref ta), some (.int (m : Nat)), v3, none, some (.int (n - 1 : Nat)), some (.ref fp)] ∧ Fr [b, cl] H H' ∧ Bag H' b cl ∧ H' fp = some (.lst zs) ∧ DpAll K H' zs (qs.map qD) ∧ (∀ e ∈ qs, e.1 < n ∧ e.2 ≤ m) ∧ qs.length = i)
      ⟨_, [], [], rfl, .of_same s1, B1, hfp, .nil, (fun e h => by cases h), rfl⟩ (fun _ _ _ _ _ => trivial) ?_ ?_
    · rintro i x _ Hz Ha hi ⟨v3, zs, qs, rfl, fa, Ba, ha, dz, hqs, hl⟩ ⟨rfl, rfl⟩
      dsimp only [gName]
      refine ⟨_, rfl, .inl ⟨rfl, _, SqL.of ha⟩, _, rfl, _, rfl, .inl ⟨_, _, rfl, rfl, ?_⟩⟩
      dsimp only
      rw [el]
      refine ⟨b, cl, n, rfl, Ba, by omega, by omega, fun c H2 c0 c1 B2 f2 => ?_⟩
      refine ⟨_, rfl, _, rfl, _, rfl, _, rfl, b, cl, m, rfl, B2, by omega, by omega, fun d H3 d0 d1 B3 f3 => .inl ⟨_, _, rfl, rfl, ?_⟩⟩
      refine ⟨by show 4 ≤ sizeLine; decide, fun lp hlp => ?_⟩
      refine ⟨b, cl, lp, [.int 0, .int 1, .int (m : Nat), .int (1 + d)], rfl, B3.new hlp, upd_same, B3.out hlp, by simp, by simp, fun y H4 hy B4 f4 => ?_⟩
      have hy' : ∃ v : Nat, y = .int (v : Nat) ∧ v ≤ m := by
        simp only [List.mem_cons, List.not_mem_nil, or_false] at hy
        rcases hy with rfl | rfl | rfl | rfl
        · exact ⟨0, rfl, by omega⟩
        · exact ⟨1, rfl, by omega⟩
        · exact ⟨m, rfl, Nat.le_refl _⟩
        · exact ⟨(1 + d).toNat, by rw [Int.toNat_of_nonneg (by omega)], by omega⟩
      obtain ⟨v, rfl, hv⟩ := hy'
      obtain ⟨cn, rfl⟩ := Int.eq_ofNat_of_zero_le c0
      refine ⟨by show 2 ≤ sizeLine; decide, fun tp htp => ?_⟩
      have f14 : Fr [b, cl] Ha H4 := ((f2.trans f3).trans (Fr.new hlp)).trans f4
      have s5 : Same H4 (upd H4 tp (.tup [.int (cn : Nat), .int (v : Nat)])) := (Fr.new (M := []) htp).same
      have w5 : SqT K (upd H4 tp (.tup [.int (cn : Nat), .int (v : Nat)])) tp [.int (cn : Nat), .int (v : Nat)] := SqT.of upd_same
      generalize upd H4 tp (.tup [.int (cn : Nat), .int (v : Nat)]) = H5 at s5 w5
      have f15 := f14.trans (Fr.of_same s5)
      have ha5 := f15 _ _ ha fpn
      have tm : Tps K H5 (upd H5 fp (.lst (zs ++ [.ref tp]))) := .mut ha5 trivial
      have lz : zs.length ≤ 5 := by
        rw [DpAll.len dz, List.length_map]
        omega
      refine ⟨fp, zs, _, rfl, rfl, ha5, small_line (by omega), ?_⟩
      refine ⟨_, zs ++ [.ref tp], qs ++ [(cn, v)], rfl, (fa.trans f15).put (.inl fp0), (B4.same s5).upd' B fp0, upd_same, ?_, ?_, by simp [hl]⟩
      · rw [List.map_append]
        exact DpAll.app (DpAll.tps ((f15.tps Ba.mut).trans tm) _ _ (flatDs_all _ _ qD_flat) dz) (.cons (qD_made (tm _ _ w5)) .nil)
      · intro e he
        rcases List.mem_append.mp he with he | he
        · exact hqs e he
        · rw [List.mem_singleton.mp he]
          exact ⟨by show cn < n; omega, hv⟩
    · rintro _ Ha ⟨v3, zs, qs, rfl, fa, Ba, ha, dz, hqs, hl⟩
      exact hZ _ _ ⟨_, zs, qs, rfl, fa, Ba, ha, dz, hqs, hl⟩
  rintro _ H2 ⟨v3, zs, qs, rfl, f2, B2, h2, dz, hqs, hl⟩
  -- for c in range(min(last + 1, 6))
  refine seq_cut (fun σ H' => ∃ (v3 v4 : Option V) (zs : List V) (qs : List (Nat × Nat)), σ = [some (.ref b), some (.ref ta), some (.int (m : Nat)), v3, v4, some (.int (n - 1 : Nat)), some (.ref fp)] ∧ Fr [b, cl] H H' ∧ Bag H' b cl ∧ H' fp = some (.lst zs) ∧ DpAll K H' zs (qs.map qD) ∧ (∀ e ∈ qs, e.1 < n ∧ e.2 ≤ m) ∧ 5 ≤ qs.length ∧ qs.length ≤ 17) (fun Z hZ => ?_) ?_
  · refine ⟨_, rfl, .inl ⟨_, _, rfl, rfl, ?_⟩⟩
    dsimp only
    rw [el]
    refine ⟨_, _, rfl, ?_⟩
    have emin : (if (6 : Int) < (n : Nat) then (6 : Int) else (n : Nat)) = ((min n 6 : Nat) : Int) := by
      split <;> omega
    rw [emin]
    generalize hmn : min n 6 = mn
    have hmn1 : mn ≤ n ∧ mn ≤ 6 := by omega
    refine ⟨_, rfl, by omega, by omega, ?_⟩
    refine for_it (D := { nx := Z, rt := Q }) (walk_range (lo := 0) (n := ((mn : Nat) : Int).toNat)) (fun i σ H' => ∃ (v3 v4 : Option V) (zs : List V) (qs : List (Nat × Nat)), σ = [some (.ref b), some (.ref ta), some (.int (m : Nat)), v3, v4, some (.int (n - 1 : Nat)), some (.ref fp)] ∧ Fr [b, cl] H H' ∧ Bag H' b cl ∧ H' fp = some (.lst zs) ∧ DpAll K H' zs (qs.map qD) ∧ (∀ e ∈ qs, e.1 < n ∧ e.2 ≤ m) ∧ qs.length = 5 + 2 * i)
      ⟨_, _, zs, qs, rfl, f2, B2, h2, dz, hqs, hl⟩ (fun _ _ _ _ _ => trivial) ?_ ?_
    · rintro i x _ Hz Ha hi ⟨v3, v4, zs, qs, rfl, fa, Ba, ha, dz, hqs, hl⟩ ⟨rfl, rfl⟩
      dsimp only [gName]
      have e0 : (0 : Int) + ((i : Nat) : Int) = ((i : Nat) : Int) := by omega
      rw [e0]
      refine ⟨_, rfl, .inl ⟨rfl, _, SqL.of ha⟩, _, rfl, by show 2 ≤ sizeLine; decide, fun t1 h1 => ⟨_, rfl, _, rfl, by show 2 ≤ sizeLine; decide, fun t2 h3 => ⟨by show 2 ≤ sizeLine; decide, fun lp hlp => ?_⟩⟩⟩
      have s1 : Same Ha (upd Ha t1 (.tup [.int (i : Nat), .int 0])) := (Fr.new (M := []) h1).same
      have w1 : SqT K (upd Ha t1 (.tup [.int (i : Nat), .int 0])) t1 [.int (i : Nat), .int (0 : Nat)] := SqT.of upd_same
      generalize upd Ha t1 (.tup [.int (i : Nat), .int 0]) = Hb at *
      have s2 : Same Hb (upd Hb t2 (.tup [.int (i : Nat), .int (m : Nat)])) := (Fr.new (M := []) h3).same
      have w2 : SqT K (upd Hb t2 (.tup [.int (i : Nat), .int (m : Nat)])) t2 [.int (i : Nat), .int (m : Nat)] := SqT.of upd_same
      generalize upd Hb t2 (.tup [.int (i : Nat), .int (m : Nat)]) = Hc at *
      have s3 : Same Hc (upd Hc lp (.lst [.ref t1, .ref t2])) := (Fr.new (M := []) hlp).same
      have w3 : upd Hc lp (.lst [.ref t1, .ref t2]) lp = some (.lst [.ref t1, .ref t2]) := upd_same
      generalize upd Hc lp (.lst [.ref t1, .ref t2]) = Hd at *
      have sad := (s1.trans s2).trans s3
      have had := sad _ _ ha
      have tm : Tps K Hd (upd Hd fp (.lst (zs ++ [.ref t1, .ref t2]))) := .mut had trivial
      have lz : zs.length ≤ 20 := by
        rw [DpAll.len dz, List.length_map]
        omega
      refine ⟨fp, lp, zs, _, rfl, rfl, had, w3, Nat.le_of_lt (small_line (by simp; omega)), ?_⟩
      refine ⟨_, _, zs ++ [.ref t1, .ref t2], qs ++ [(i, 0), (i, m)], rfl, (fa.trans (.of_same sad)).put (.inl fp0), (Ba.same sad).upd' B fp0, upd_same, ?_, ?_, by simp; omega⟩
      · rw [List.map_append]
        exact DpAll.app (DpAll.tps ((Tps.same sad).trans tm) _ _ (flatDs_all _ _ qD_flat) dz) (.cons (qD_made (tm _ _ ((Tps.same (s2.trans s3)) _ _ w1))) (.cons (qD_made (tm _ _ ((Tps.same s3) _ _ w2))) .nil))
      · intro e he
        rcases List.mem_append.mp he with he | he
        · exact hqs e he
        · simp only [List.mem_cons, List.not_mem_nil, or_false] at he
          rcases he with rfl | rfl
          · exact ⟨by show i < n; omega, by show 0 ≤ m; omega⟩
          · exact ⟨by show i < n; omega, Nat.le_refl _⟩
    · rintro _ Ha ⟨v3, v4, zs, qs, rfl, fa, Ba, ha, dz, hqs, hl⟩
      exact hZ _ _ ⟨_, _, zs, qs, rfl, fa, Ba, ha, dz, hqs, by omega, by omega⟩
  rintro _ H3 ⟨v3, v4, zs, qs, rfl, f3, B3, h3, dz, hqs, hl5, hl17⟩
  -- return found + [..]
  refine ⟨_, rfl, _, rfl, by show 2 ≤ sizeLine; decide, fun t1 h1 => ⟨_, rfl, _, rfl, by show 2 ≤ sizeLine; decide, fun t2 h2 => ⟨_, rfl, _, _, rfl, _, rfl, _, _, rfl, rfl, _, rfl, ?_⟩⟩⟩
  have q1 : Same H3 (upd H3 t1 (.tup [.int (n - 1 : Nat), .int 0])) := (Fr.new (M := []) h1).same
  have w1 : SqT K (upd H3 t1 (.tup [.int (n - 1 : Nat), .int 0])) t1 [.int (n - 1 : Nat), .int (0 : Nat)] := SqT.of upd_same
  generalize upd H3 t1 (.tup [.int (n - 1 : Nat), .int 0]) = H4 at *
  have q2 : Same H4 (upd H4 t2 (.tup [.int (n - 1 : Nat), .int (m : Nat)])) := (Fr.new (M := []) h2).same
  have w2 : SqT K (upd H4 t2 (.tup [.int (n - 1 : Nat), .int (m : Nat)])) t2 [.int (n - 1 : Nat), .int (m : Nat)] := SqT.of upd_same
  generalize upd H4 t2 (.tup [.int (n - 1 : Nat), .int (m : Nat)]) = H5 at *
  have emin : (if ((n - 1 : Nat) : Int) < 1 then ((n - 1 : Nat) : Int) else 1) = ((min 1 (n - 1) : Nat) : Int) := by
    split <;> omega
  rw [emin]
  have fin : ∀ z : Nat, z ≤ m → ∀ t3 t4 lp, H5 t3 = none → upd H5 t3 (.tup [.int (min 1 (n - 1) : Nat), .int (z : Nat)]) t4 = none → upd (upd H5 t3 (.tup [.int (min 1 (n - 1) : Nat), .int (z : Nat)])) t4 (.tup [.int 0, .int 1]) lp = none →
      rAddU K (.ref fp) (.ref lp) (upd (upd (upd H5 t3 (.tup [.int (min 1 (n - 1) : Nat), .int (z : Nat)])) t4 (.tup [.int 0, .int 1])) lp (.lst [.ref t1, .ref t2, .ref t3, .ref t4])) Q := fun z hz t3 t4 lp h3' h4' hlp => by
    have q3 : Same H5 (upd H5 t3 (.tup [.int (min 1 (n - 1) : Nat), .int (z : Nat)])) := (Fr.new (M := []) h3').same
    have w3 : SqT K (upd H5 t3 (.tup [.int (min 1 (n - 1) : Nat), .int (z : Nat)])) t3 [.int (min 1 (n - 1) : Nat), .int (z : Nat)] := SqT.of upd_same
    generalize upd H5 t3 (.tup [.int (min 1 (n - 1) : Nat), .int (z : Nat)]) = H6 at *
    have q4 : Same H6 (upd H6 t4 (.tup [.int 0, .int 1])) := (Fr.new (M := []) h4').same
    have w4 : SqT K (upd H6 t4 (.tup [.int 0, .int 1])) t4 [.int (0 : Nat), .int (1 : Nat)] := SqT.of upd_same
    generalize upd H6 t4 (.tup [.int 0, .int 1]) = H7 at *
    have q5 : Same H7 (upd H7 lp (.lst [.ref t1, .ref t2, .ref t3, .ref t4])) := (Fr.new (M := []) hlp).same
    have w5 : upd H7 lp (.lst [.ref t1, .ref t2, .ref t3, .ref t4]) lp = some (.lst [.ref t1, .ref t2, .ref t3, .ref t4]) := upd_same
    generalize upd H7 lp (.lst [.ref t1, .ref t2, .ref t3, .ref t4]) = H8 at *
    have s38 := (((q1.trans q2).trans q3).trans q4).trans q5
    have lz : zs.length ≤ 20 := by
      rw [DpAll.len dz, List.length_map]
      omega
    refine .inr (.inl ⟨fp, lp, zs, _, rfl, rfl, s38 _ _ h3, w5, Nat.le_of_lt (small_line (by simp; omega)), fun p hp => ?_⟩)
    have q6 := (Fr.new (M := []) (o := .lst (zs ++ [.ref t1, .ref t2, .ref t3, .ref t4])) hp).same
    have s39 := s38.trans q6
    refine k p _ (qs ++ [(n - 1, 0), (n - 1, m), (min 1 (n - 1), z), (0, 1)]) _ ((f3.trans (.of_same s38)).free hp (fun hin => ?_)) upd_same ?_ ?_ (by simp) (by simp; omega) (B3.same s39) (f3.trans (.of_same s39))
    · obtain ⟨o, e⟩ := (B3.same s38).known p hin
      rw [hp] at e
      cases e
    · rw [List.map_append]
      refine DpAll.app (DpAll.tps (Tps.same s39) _ _ (flatDs_all _ _ qD_flat) dz) (.cons (qD_made ((Tps.same ((((q2.trans q3).trans q4).trans q5).trans q6)) _ _ w1)) (.cons (qD_made ((Tps.same (((q3.trans q4).trans q5).trans q6)) _ _ w2)) (.cons (qD_made ((Tps.same ((q4.trans q5).trans q6)) _ _ w3)) (.cons (qD_made ((Tps.same (q5.trans q6)) _ _ w4)) .nil))))
    · intro e he
      rcases List.mem_append.mp he with he | he
      · exact hqs e he
      · simp only [List.mem_cons, List.not_mem_nil, or_false] at he
        rcases he with rfl | rfl | rfl | rfl
        · exact ⟨by show n - 1 < n; omega, Nat.zero_le _⟩
        · exact ⟨by show n - 1 < n; omega, Nat.le_refl _⟩
        · exact ⟨by show min 1 (n - 1) < n; omega, hz⟩
        · exact ⟨by show 0 < n; omega, hm1⟩
  refine dec_b (fun h1 => ?_) (fun h1 => ?_)
  · exact ⟨by show 2 ≤ sizeLine; decide, fun t3 h3' => ⟨by show 2 ≤ sizeLine; decide, fun t4 h4' => ⟨by show 4 ≤ sizeLine; decide, fun lp hlp => fin 2 (by omega) t3 t4 lp h3' h4' hlp⟩⟩⟩
  · exact ⟨by show 2 ≤ sizeLine; decide, fun t3 h3' => ⟨by show 2 ≤ sizeLine; decide, fun t4 h4' => ⟨by show 4 ≤ sizeLine; decide, fun lp hlp => fin 1 hm1 t3 t4 lp h3' h4' hlp⟩⟩⟩
end
end R59
/-! W29 -/
set_option maxHeartbeats 1000000
namespace R59
open PySem PyProof.Rows L2 KB PySem.W
abbrev lcS_law_near_costs : Scope := { kind := .function, names := [(".0", .local), ("row", .cell), ("table", .cell)], isGenerator := false, isCoroutine := false }
/-- the costs as a function -/
def coOf (cs : List Int) (s : Nat) : Nat := (cs.getD s 1).toNat
theorem coOf_ok {cs : List Int} {T : List Row} (h1 : ∀ x ∈ cs, 1 ≤ x) (hT : ∀ r ∈ T, r.s < cs.length) : CoOk cs (coOf cs) T := fun r hr => by
  have hl := hT r hr
  rw [List.getElem?_eq_getElem hl]
  unfold coOf
  rw [List.getD_eq_getElem?_getD, List.getElem?_eq_getElem hl]
  have := h1 _ (List.getElem_mem hl)
  show some cs[r.s] = some (((cs[r.s]).toNat : Nat) : Int)
  rw [Int.toNat_of_nonneg (by omega)]
theorem coOf_pos {cs : List Int} (h1 : ∀ x ∈ cs, 1 ≤ x) (s : Nat) : 1 ≤ coOf cs s := by
  unfold coOf
  rw [List.getD_eq_getElem?_getD]
  cases e : cs[s]? with
  | none => decide
  | some x =>
    have := h1 x (List.mem_of_getElem? e)
    show 1 ≤ x.toNat
    omega
theorem DpAll.nats' {K : PySem.W.Frag} {H : Hp} : ∀ xs : List Nat, DpAll K H (xs.map fun i : Nat => V.int (i : Int)) (xs.map fun i : Nat => PyData.int (i : Int))
  | [] => .nil
  | _ :: xs => .cons (.int _) (DpAll.nats' xs)
theorem atI0 {α : Type} {x : α} {xs : List α} : atI (x :: xs) 0 = some x := atI_nat (j := 0) rfl
theorem atI_map0 {i : Nat} {as : List Nat} : atI ((i :: as).map fun i : Nat => V.int (i : Int)) 0 = some (.int (i : Nat)) := atI_nat rfl
theorem cost_pos {co : Nat → Nat} (h : ∀ s, 1 ≤ co s) (t : Tm) : 1 ≤ t.cost co := by
  cases t with
  | node s ts =>
    rw [Tm.cost]
    have := h s
    omega
theorem Dp.tm0 {K : PySem.W.Frag} {H : Hp} {v : V} {t : Tm} (h : Dp K H v (tmD t)) : ∃ a s xs, v = .ref a ∧ SqT K H a (.int s :: xs) := by
  cases t with
  | node s ts =>
    rw [tmD] at h
    obtain ⟨a, ys, rfl, h1, h2⟩ := Dp.tupOf h
    cases h2 with
    | cons d1 h2 =>
    cases d1
    exact ⟨a, _, _, rfl, h1⟩
section
variable {P : Program} {w : World} {K : PySem.W.Frag} {mg : Str → Option Value} {base : Heap} {f C CT : Addr} {fd : FuncData}
/-! ### _law_near_costs -/
abbrev s_law_near_costs : Stmt := top 40
abbrev N_law_near_costs : List Str := ["bag", "signature", "table", "last", "costs", "at", "found", "other", "row", "symbol", "one"]
theorem sc_law_near_costs : FnScope N_law_near_costs ["bag", "signature", "table"] (defScope s_law_near_costs) := ⟨rfl, rfl, rfl, by decide +kernel, rfl, by decide +kernel, by decide +kernel⟩
def spNear (K : PySem.W.Frag) : Sp := fun vs H Q _ => ∃ (b cl sa ta : Addr) (sg : List Int) (T : List Row) (n : Nat), vs = [.ref b, .ref sa, .ref ta] ∧ Bag H b cl ∧ SqT K H sa (sg.map V.int) ∧ Sig sg ∧ Dp K H (.ref ta) (tabD T) ∧ TabG (arOf sg) T n ∧ (∀ r ∈ T, r.s < sg.length) ∧
  ∀ (p : Addr) (cs : List Int) (H' : Hp), Bag H' b cl → Fr [b, cl] H H' → SqT K H' p (cs.map V.int) → Cos sg.length cs → Q (.ref p) H'
set_option maxHeartbeats 4000000 in
theorem ok_near (F : FnP K "_law_near_costs" "_law_near_costs" s_law_near_costs f fd) (T : Nm mg) (h_law_draw : Has P w K mg base CX0 "_law_draw" ["bag", "below"] 1 spDraw) (h_law_pick : Has P w K mg base CX0 "_law_pick" ["bag", "some"] 2 spPick) (h_law_bests : Has P w K mg base CX0 "_law_bests" ["table", "costs", "most"] 3 (spBests K)) :
    FnOk P w K mg base CX0 4 f fd ["bag", "signature", "table"] (spNear K) := by
  refine F.ok sc_law_near_costs (fun vs H Q E h => ?_) (fun cdv A outer s H vs Q E hr h => ?_)
  · obtain ⟨b, cl, sa, ta, sg, T, n, rfl, _⟩ := h
    rfl
  obtain ⟨b, cl, sa, ta, sg, Tb, n, rfl, B, hsa, S, dt, G, hsy, k⟩ := h
  have hq := hq_of hr
  obtain ⟨a', xs, ea, hta, dx⟩ := Dp.tupOf dt
  cases ea
  have lxT : xs.length = Tb.length := by rw [DpAll.len dx, List.length_map]
  have lT := G.len
  refine ⟨_, PSs.nox
  (pss_cons (ps_set (i := 3) sc_law_near_costs.nd rfl (Or.inr rfl) (pe_lc (own := [("row", 8)]) rfl sc_law_near_costs.nd (pi_tupK K (pv 2)) (blkOk_by (N := N_law_near_costs) (sc := defScope s_law_near_costs) (by decide +kernel)) (fun _ _ _ _ _ => (pg_name (i := 8) sc_law_near_costs.nd rfl (Or.inr rfl))) (fun _ _ _ _ _ => (pts_one (pt_cmpR (op_inK K hq) (pe_ix (ix_K K) (pv 8) pe_int (fun _ _ => rfl)) (pe_lc (own := [("other", 7)]) rfl sc_law_near_costs.nd (pi_tupK K (pv 2)) (blkOk_by (N := N_law_near_costs) (sc := lcS_law_near_costs) (by decide +kernel)) (fun _ _ _ _ _ => (pg_name (i := 7) sc_law_near_costs.nd rfl (Or.inl rfl))) (fun _ _ _ _ _ => (pts_one (PW.pt (pw_and (pt_cmpR (op_neK K hq) (pe_ix (ix_K K) (pv 7) pe_int (fun _ _ => rfl)) (pe_tup pa_nil) (nomark _)) (pw_and1 (pt_cmpR (op_neK K hq) (pe_ix (ix_K K) (pv 7) pe_int (fun _ _ => rfl)) (pe_ix (ix_K K) (pv 8) pe_int (fun _ _ => rfl)) (nomark _))))))) (fun _ _ _ _ _ => (pe_ix (ix_K K) (pv 7) pe_int (fun _ _ => rfl)))) (by rfl)))) (fun _ _ _ _ _ => (pe_ix (ix_K K) (pv 8) pe_int (fun _ _ => rfl)))))
      (pss_cons (ps_setLc (i := 4) (own := [("symbol", 9)]) rfl sc_law_near_costs.nd rfl rfl (sw_true rfl rfl rfl (by decide +kernel)) (pi_tupK K (pv 1)) (blkOk_by (N := N_law_near_costs) (sc := defScope s_law_near_costs) (by decide +kernel)) (fun _ _ _ _ _ => (pg_name (i := 9) sc_law_near_costs.nd rfl (Or.inl rfl))) (fun _ _ _ _ _ => pts_nil) (fun _ _ _ _ _ => (pe_op (op_addK K) pe_int (pe_f h_law_draw (hr.mono (by decide)) (by rfl) (pa_cons (pv 0) (pa_cons (pe_f h_law_pick (hr.mono (by decide)) (by rfl) (pa_cons (pv 0) (pa_cons (pe_lst (pa_cons pe_int (pa_cons pe_int (pa_cons pe_int pa_nil)))) pa_nil))) pa_nil))))))
      (pss_cons (ps_set (i := 5) sc_law_near_costs.nd rfl (Or.inr rfl) (pe_lc (own := [("row", 8)]) rfl sc_law_near_costs.nd (pi_tupK K (pv 2)) (blkOk_by (N := N_law_near_costs) (sc := defScope s_law_near_costs) (by decide +kernel)) (fun _ _ _ _ _ => (pg_name (i := 8) sc_law_near_costs.nd rfl (Or.inl rfl))) (fun _ _ _ _ _ => (pts_one (PW.pt (pw_and (pt_cmpR (op_eqK K hq) (pe_ix (ix_K K) (pv 8) pe_int (fun _ _ => rfl)) (pe_tup pa_nil) (nomark _)) (pw_and1 (pt_cmpR (op_inK K hq) (pe_ix (ix_K K) (pv 8) pe_int (fun _ _ => rfl)) (pv 3) (by rfl))))))) (fun _ _ _ _ _ => (pe_ix (ix_K K) (pv 8) pe_int (fun _ _ => rfl)))))
      (pss_cons (ps_if (pt_cmpR (op_eqK K hq) (pv 5) (pe_lst pa_nil) (nomark _)) (pss_one (ps_ret (pe_callTy (cr_tupleK K) (by rfl) T.tuple bt_tuple (pa_cons (pv 4) pa_nil)))) pss_nil)
      (pss_cons (ps_asg pe_int (pg_sub (pv 4) (pe_ix (ix_K K) (pv 5) pe_int (fun _ _ => rfl)) set_list))
      (pss_cons (ps_set (i := 6) sc_law_near_costs.nd rfl (Or.inl rfl) (pe_f h_law_bests (hr.mono (by decide)) (by rfl) (pa_cons (pv 2) (pa_cons (pv 4) (pa_cons pe_int pa_nil)))))
      (pss_cons (ps_set (i := 7) sc_law_near_costs.nd rfl (Or.inl rfl) (pe_callB (cr_minK K rfl) (by rfl) T.min bt_min (pa_cons (pe_op (op_addK K) (pe_lst (pa_cons pe_int pa_nil)) (pe_lc (own := [("one", 10)]) rfl sc_law_near_costs.nd (pi_listK K (pv 6)) (blkOk_by (N := N_law_near_costs) (sc := defScope s_law_near_costs) (by decide +kernel)) (fun _ _ _ _ _ => (pg_name (i := 10) sc_law_near_costs.nd rfl (Or.inl rfl))) (fun _ _ _ _ _ => (pts_one (PW.pt (pw_and (pt_cmpR (op_neK K hq) (pe_ix (ix_K K) (pe_ix (ix_K K) (pe_ix (ix_K K) (pv 10) pe_int (fun _ _ => rfl)) pe_int (fun _ _ => rfl)) pe_int (fun _ _ => rfl)) (pe_ix (ix_K K) (pv 5) pe_int (fun _ _ => rfl)) (nomark _)) (pw_and1 (pt_cmpR (op_inK K hq) (pe_ix (ix_K K) (pe_ix (ix_K K) (pv 10) pe_int (fun _ _ => rfl)) pe_int (fun _ _ => rfl)) (pv 3) (by rfl))))))) (fun _ _ _ _ _ => (pe_ix (ix_K K) (pe_ix (ix_K K) (pv 10) pe_int (fun _ _ => rfl)) pe_int (fun _ _ => rfl))))) pa_nil)))
      (pss_cons (ps_asg (pe_callB (call_max2 rfl) (by rfl) T.max bt_max (pa_cons pe_int (pa_cons (pe_f h_law_pick (hr.mono (by decide)) (by rfl) (pa_cons (pv 0) (pa_cons (pe_lst (pa_cons pe_int (pa_cons pe_int (pa_cons (pe_op (op_addK K) (pv 7) pe_int) (pa_cons (pv 7) (pa_cons (pe_op op_sub (pv 7) pe_int) pa_nil)))))) pa_nil))) pa_nil))) (pg_sub (pv 4) (pe_ix (ix_K K) (pv 5) pe_int (fun _ _ => rfl)) set_list))
      (pss_one (ps_ret (pe_callTy (cr_tupleK K) (by rfl) T.tuple bt_tuple (pa_cons (pv 4) pa_nil)))))))))))), ?_⟩
  have row' : ∀ {Hx : Hp}, Tps K H Hx → ∀ {j : Nat} {v : V}, xs[j]? = some v → ∃ r ra ia, Tb[j]? = some r ∧ v = .ref ra ∧ SqT K Hx ra [.int (r.s : Int), .ref ia, .int (r.c : Int)] ∧ SqT K Hx ia (r.is.map fun i : Nat => V.int (i : Int)) := fun {Hx} tx {j v} hv => by
    obtain ⟨dd, ed, dr⟩ := DpAll.get' (DpAll.tps tx _ _ (flatDs_all _ _ rowD_flat) dx) hv
    rw [List.getElem?_map] at ed
    cases er : Tb[j]? with
    | none =>
      rw [er] at ed
      cases ed
    | some r =>
    rw [er] at ed
    obtain rfl := Option.some.inj ed
    obtain ⟨ra, ia, rfl, h1, h2⟩ := Dp.row dr
    exact ⟨r, ra, ia, rfl, rfl, h1, h2⟩
  have row : ∀ {Hx : Hp}, Same H Hx → ∀ {j : Nat} {v : V}, xs[j]? = some v → ∃ r ra ia, Tb[j]? = some r ∧ v = .ref ra ∧ SqT K Hx ra [.int (r.s : Int), .ref ia, .int (r.c : Int)] ∧ SqT K Hx ia (r.is.map fun i : Nat => V.int (i : Int)) := fun {Hx} sx {j v} hv => row' (Tps.same sx) hv
  -- last
  refine seq_cut (fun σ H' => ∃ (lp : Addr) (ls : List Int), σ = [some (.ref b), some (.ref sa), some (.ref ta), some (.ref lp), none, none, none, none, none, none, none] ∧ Same H H' ∧ H lp = none ∧ H' lp = some (.lst (ls.map V.int))) (fun Z hZ => ?_) ?_
  · refine ⟨_, rfl, ta, rfl, ⟨_, hta⟩, fun D hD => ?_⟩
    refine lcM (walk_tup (xs := xs)) [] hD (fun i acc H' => ∃ ls : List Int, acc = ls.map V.int ∧ ls.length ≤ i) ⟨[], rfl, Nat.le_refl _⟩ (fun i acc H' fr _ => (Tps.same fr.same) _ _ hta) ?_ ?_
    · rintro j v acc Hz Ha Nx hN hj fr e ⟨ls, rfl, ll⟩ ⟨rfl, hv⟩
      obtain ⟨r, ra, ia, er, rfl, hra, hia⟩ := row fr.same hv
      refine ⟨rfl, ?_⟩
      refine ⟨_, rfl, ra, _, 2, _, rfl, rfl, .inr hra, rfl, ?_⟩
      refine ⟨_, rfl, ta, rfl, ⟨_, (Tps.same fr.same) _ _ hta⟩, fun D2 hD2 => ?_⟩
      refine lcM (walk_tup (xs := xs)) [] hD2 (fun i acc H' => ∃ l2 : List Int, acc = l2.map V.int ∧ l2.length ≤ i) ⟨[], rfl, Nat.le_refl _⟩ (fun i acc H' fr2 _ => (Tps.same (fr.same.trans fr2.same)) _ _ hta) ?_ ?_
      · rintro i v2 acc2 Hz Hb Nx2 hN2 hi fr2 e2 ⟨l2, rfl, ll2⟩ ⟨rfl, hv2⟩
        have sb := fr.same.trans fr2.same
        obtain ⟨r2, ra2, ia2, er2, rfl, hra2, hia2⟩ := row sb hv2
        refine ⟨rfl, ?_⟩
        refine ⟨_, rfl, ra2, _, 1, _, rfl, rfl, .inr hra2, rfl, Nat.zero_le _, fun p3 hp3 => .inr ⟨isD r2.is, .tuple [], Dp.of_nats ((Tps.same (Fr.new (M := []) hp3).same) _ _ hia2), .tup (SqT.of upd_same) .nil, by rw [depth_isD]; omega, _, rfl, ?_⟩⟩
        have q3 := (Fr.new (M := []) (o := .tup []) hp3).same
        generalize upd Hb p3 (.tup []) = Hc at q3
        have e3 := q3 _ _ e2
        have f3 := fr2.trans (Fr.of_same (M := []) q3)
        have skip : Nx2 Hc := hN2 _ _ e3 f3 ⟨l2, rfl, by omega⟩
        have take : ∃ acc, Hc D2 = some (.lst acc) ∧ acc.length < sizeLine ∧ Nx2 (upd Hc D2 (.lst (acc ++ [.int (r2.c : Int)]))) := ⟨_, e3, small_line (by rw [List.length_map]; omega), hN2 _ _ upd_same (f3.put (.inl hD2)) ⟨l2 ++ [(r2.c : Int)], by simp, by simp; omega⟩⟩
        cases (isD r2.is).eqv (.tuple []) with
        | true => exact iteF (iteF skip)
        | false =>
          refine iteT ?_
          have hra2c := (Tps.same (K := K) q3) _ _ hra2
          have hrac := (Tps.same (K := K) (fr2.same.trans q3)) _ _ hra
          refine ⟨_, rfl, ra2, _, 0, _, rfl, rfl, .inr hra2c, rfl, _, rfl, ra, _, 0, _, rfl, rfl, .inr hrac, rfl, .inl ⟨rfl, _, rfl, ?_⟩⟩
          refine ndec_b (fun h1 => ?_) (fun h1 => skip)
          exact ⟨_, rfl, ra2, _, 2, _, rfl, rfl, .inr hra2c, rfl, take⟩
      · rintro acc2 Hb fr2 e2 ⟨l2, rfl, ll2⟩
        have e' := fr2.same _ _ e
        have f' := fr.trans fr2
        refine ⟨.int (r.c : Int), l2.map .int, .int _, .inr (.lst (SqL.of e2) (DpAll.ints l2)), by simp [PyData.depth], _, rfl, ?_⟩
        cases (l2.map PyData.int).any fun z => PyData.eqv z (.int (r.c : Int)) with
        | true =>
          have hrab := (Tps.same (K := K) fr2.same) _ _ hra
          exact iteT ⟨_, rfl, ra, _, 2, _, rfl, rfl, .inr hrab, rfl, _, e', small_line (by rw [List.length_map]; omega), hN _ _ upd_same (f'.put (.inl hD)) ⟨ls ++ [(r.c : Int)], by simp, by simp; omega⟩⟩
        | false => exact iteF (hN _ _ e' f' ⟨ls, rfl, by omega⟩)
    · rintro acc Ha fr e ⟨ls, rfl, ll⟩
      exact hZ _ _ ⟨D, ls, rfl, fr.same, hD, e⟩
  rintro _ H1 ⟨lp, ls, rfl, s1, lp0, hlp⟩
  have nbc : ∀ {p : Addr}, H p = none → p ∉ [b, cl] := fun h => B.out h
  -- costs
  refine seq_cut (fun σ H' => ∃ (cp : Addr) (cs : List Int), σ = [some (.ref b), some (.ref sa), some (.ref ta), some (.ref lp), some (.ref cp), none, none, none, none, none, none] ∧ Fr [b, cl] H1 H' ∧ Bag H' b cl ∧ H1 cp = none ∧ H' cp = some (.lst (cs.map V.int)) ∧ cs.length = sg.length ∧ ∀ x ∈ cs, 1 ≤ x ∧ x ≤ 1001) (fun Z hZ => ?_) ?_
  · have B1 := B.same s1
    have hsa1 := (Tps.same s1) _ _ hsa
    refine ⟨_, rfl, sa, rfl, ⟨_, hsa1⟩, fun D hD => ?_⟩
    refine lcM (walk_tup (xs := sg.map V.int)) [b, cl] hD (fun i acc H' => ∃ cs : List Int, acc = cs.map V.int ∧ (∀ x ∈ cs, 1 ≤ x ∧ x ≤ 1001) ∧ cs.length = i ∧ Bag H' b cl) ⟨[], rfl, (fun x hx => by cases hx), rfl, B1.new hD⟩ (fun i acc H' fr _ => (fr.tps B1.mut) _ _ hsa1) ?_ ?_
    · rintro i x acc H3 H4 Nx hN hi fr e ⟨cs, rfl, c1, c2, B3⟩ ⟨rfl, hv⟩
      have hil : i < sg.length := by simpa using (List.getElem?_eq_some_iff.mp hv).1
      refine ⟨rfl, ?_⟩
      refine ⟨_, rfl, _, rfl, by show 3 ≤ sizeLine; decide, fun p hp => ?_⟩
      refine ⟨b, cl, p, [.int 1, .int 1, .int 4], rfl, B3.new hp, upd_same, B3.out hp, by decide, by decide, fun y H5 hy B5 fr5 => ?_⟩
      have hy' : ∃ v : Int, y = .int v ∧ 1 ≤ v ∧ v ≤ 4 := by
        simp only [List.mem_cons, List.not_mem_nil, or_false] at hy
        rcases hy with rfl | rfl | rfl <;> exact ⟨_, rfl, by decide, by decide⟩
      obtain ⟨v, rfl, v0, v1⟩ := hy'
      refine ⟨b, cl, v, rfl, B5, by omega, by omega, fun r H6 r0 r1 B6 fr6 => Or.inl ⟨_, _, rfl, rfl, ?_⟩⟩
      have f36 := ((Fr.new (o := HO.lst [.int 1, .int 1, .int 4]) hp).trans fr5).trans fr6
      refine ⟨_, f36 _ _ e (B1.out hD), small_line (by have := S.hi; simp; omega), hN _ _ upd_same ((fr.trans f36).put (.inl hD)) ⟨cs ++ [1 + r], by simp, ?_, by simp [c2], B6.upd' B1 hD⟩⟩
      intro x hx
      rcases List.mem_append.mp hx with h | h
      · exact c1 x h
      · rw [List.mem_singleton.mp h]
        omega
    · rintro acc H3 fr e ⟨cs, rfl, c1, c2, B3⟩
      exact hZ _ _ ⟨D, cs, rfl, fr, B3, hD, e, by simpa using c2, c1⟩
  rintro _ H2 ⟨cp, cs, rfl, f2, B2, cp0, hcp, lc, hc1⟩
  have B1 := B.same s1
  have lpb := nbc lp0
  have cpH := s1.free cp0
  have hlp2 := f2 _ _ hlp lpb
  have t2 : Tps K H H2 := (Tps.same s1).trans (f2.tps B1.mut)
  have F2 : Fr [b, cl] H H2 := (Fr.of_same s1).trans f2
  -- at
  refine seq_cut (fun σ H' => ∃ (ap : Addr) (as : List Nat), σ = [some (.ref b), some (.ref sa), some (.ref ta), some (.ref lp), some (.ref cp), some (.ref ap), none, none, none, none, none] ∧ Same H2 H' ∧ H2 ap = none ∧ H' ap = some (.lst (as.map fun i : Nat => V.int (i : Int))) ∧ ∀ i ∈ as, i < sg.length) (fun Z hZ => ?_) ?_
  · refine ⟨_, rfl, ta, rfl, ⟨_, t2 _ _ hta⟩, fun D hD => ?_⟩
    refine lcM (walk_tup (xs := xs)) [] hD (fun i acc H' => ∃ as : List Nat, acc = (as.map fun i : Nat => V.int (i : Int)) ∧ as.length ≤ i ∧ ∀ i ∈ as, i < sg.length) ⟨[], rfl, Nat.le_refl _, by simp⟩ (fun i acc H' fr _ => (t2.trans (Tps.same fr.same)) _ _ hta) ?_ ?_
    · rintro j v acc Hz Ha Nx hN hj fr e ⟨as, rfl, ll, ha⟩ ⟨rfl, hv⟩
      obtain ⟨r, ra, ia, er, rfl, hra, hia⟩ := row' (t2.trans (Tps.same fr.same)) hv
      refine ⟨rfl, ?_⟩
      refine ⟨_, rfl, ra, _, 1, _, rfl, rfl, .inr hra, rfl, Nat.zero_le _, fun p3 hp3 => .inr ⟨isD r.is, .tuple [], Dp.of_nats ((Tps.same (Fr.new (M := []) hp3).same) _ _ hia), .tup (SqT.of upd_same) .nil, by rw [depth_isD]; omega, _, rfl, ?_⟩⟩
      have q3 := (Fr.new (M := []) (o := .tup []) hp3).same
      generalize upd Ha p3 (.tup []) = Hc at q3
      have e3 := q3 _ _ e
      have f3 := fr.trans (Fr.of_same (M := []) q3)
      have skip : Nx Hc := hN _ _ e3 f3 ⟨as, rfl, by omega, ha⟩
      have hrac := (Tps.same (K := K) q3) _ _ hra
      cases (isD r.is).eqv (.tuple []) with
      | false => exact iteF skip
      | true =>
        refine iteT ?_
        refine ⟨_, rfl, ra, _, 2, _, rfl, rfl, .inr hrac, rfl, _, rfl, .int (r.c : Int), ls.map .int, .int _, .inr (.lst (SqL.of ((fr.same.trans q3) _ _ hlp2)) (DpAll.ints ls)), by simp [PyData.depth], _, rfl, ?_⟩
        cases (ls.map PyData.int).any fun z => PyData.eqv z (.int (r.c : Int)) with
        | false => exact iteF skip
        | true => 
          refine iteT ⟨_, rfl, ra, _, 0, _, rfl, rfl, .inr hrac, rfl, _, e3, small_line (by rw [List.length_map]; omega), hN _ _ upd_same (f3.put (.inl hD)) ⟨as ++ [r.s], by simp, by simp; omega, ?_⟩⟩
          intro i hi
          rcases List.mem_append.mp hi with hi | hi
          · exact ha i hi
          · rw [List.mem_singleton.mp hi]
            exact hsy r (List.mem_of_getElem? er)
    · rintro acc Ha fr e ⟨as, rfl, ll, ha⟩
      exact hZ _ _ ⟨D, as, rfl, fr.same, hD, e, ha⟩
  rintro _ H3 ⟨ap, as, rfl, s3, ap0, hap, ha⟩
  have hcp3 := s3 _ _ hcp
  have hlp3 := s3 _ _ hlp2
  have B3 := B2.same s3
  have t3 := t2.trans (Tps.same s3)
  have F3 := F2.trans (Fr.of_same s3)
  -- if at == []
  refine seq_cut (fun σ H' => ∃ (i : Nat) (as' : List Nat), as = i :: as' ∧ σ = [some (.ref b), some (.ref sa), some (.ref ta), some (.ref lp), some (.ref cp), some (.ref ap), none, none, none, none, none] ∧ Same H3 H') (fun Z hZ => ?_) ?_
  · refine ⟨_, rfl, Nat.zero_le _, fun p hp => Or.inr ⟨.list (as.map fun i : Nat => PyData.int (i : Int)), .list [], .lst (SqL.of (Fr.new (M := []) hp _ _ hap (by simp))) (DpAll.nats' as), .lst (SqL.of upd_same) .nil, by simp [PyData.depth, PyData.depthAll], _, rfl, ?_⟩⟩
    have s4 := (Fr.new (M := []) (o := .lst []) hp).same
    generalize upd H3 p (.lst []) = H4 at s4
    rw [eqv_nilD]
    cases as with
    | nil =>
      refine iteT ?_
      refine ⟨_, rfl, cp, _, rfl, .inl ⟨SqL.of (s4 _ _ hcp3), fun t ht => ?_⟩⟩
      have s5 := (Fr.new (M := []) (o := .tup (cs.map V.int)) ht).same
      exact k t cs _ (B3.same (s4.trans s5)) (F3.trans (Fr.of_same (s4.trans s5))) (SqT.of upd_same) ⟨by omega, hc1⟩
    | cons i as' => exact iteF (hZ _ _ ⟨i, as', rfl, rfl, s4⟩)
  rintro _ H4 ⟨i, as', rfl, rfl, s4⟩
  have hi : i < sg.length := ha i List.mem_cons_self
  have hap4 := s4 _ _ hap
  have hcp4 := s4 _ _ hcp3
  have hlp4 := s4 _ _ hlp3
  have t4 := t3.trans (Tps.same s4)
  have F4 := F3.trans (Fr.of_same s4)
  have B4 := B3.same s4
  -- costs[at[0]] = 1000
  refine ⟨_, rfl, _, rfl, ap, _, 0, _, rfl, rfl, .inl (SqL.of hap4), atI_map0, cp, _, (i : Nat), i, rfl, rfl, hcp4, ixN_int (by omega) (by simp; omega), ?_⟩
  rw [map_setI]
  have lc1 : (cs.set i 1000).length = sg.length := by rw [List.length_set, lc]
  have hc2 : ∀ x ∈ cs.set i 1000, 1 ≤ x ∧ x ≤ 1001 := fun x hx => by
    rcases List.mem_or_eq_of_mem_set hx with h | h
    · exact hc1 x h
    · rw [h]
      decide
  generalize cs.set i 1000 = cs2 at lc1 hc2
  have t5 : Tps K H4 (upd H4 cp (.lst (cs2.map V.int))) := .mut hcp4 trivial
  have F5 : Fr [b, cl] H (upd H4 cp (.lst (cs2.map V.int))) := F4.put (.inl cpH)
  have B5 : Bag (upd H4 cp (.lst (cs2.map V.int))) b cl := B4.upd' B cpH
  have nla : lp ≠ cp := fun e => by
    rw [← e, hlp] at cp0
    cases cp0
  have nap : ap ≠ cp := fun e => by
    rw [e, hcp] at ap0
    cases ap0
  have hap5 : upd H4 cp (.lst (cs2.map V.int)) ap = _ := (upd_ne nap).trans hap4
  have hlp5 : upd H4 cp (.lst (cs2.map V.int)) lp = _ := (upd_ne nla).trans hlp4
  have hcp5 : upd H4 cp (.lst (cs2.map V.int)) cp = some (.lst (cs2.map V.int)) := upd_same
  generalize upd H4 cp (.lst (cs2.map V.int)) = H5 at t5 F5 B5 hap5 hlp5 hcp5
  have t5' := t4.trans t5
  dsimp only
  -- found = _law_bests(table, costs, 1)
  refine ⟨_, rfl, _, rfl, ta, cp, 1, Tb, n, arOf sg, cs2, coOf cs2, rfl, Dp.tps t5' _ _ (tabD_flat Tb) dt, G, .inl (SqL.of hcp5), coOf_ok (fun x hx => (hc2 x hx).1) (fun r hr => by rw [lc1]; exact hsy r hr), coOf_pos (fun x hx => (hc2 x hx).1), by decide, by decide, by have := wid_one G; omega, fun fp fs g H6 s6 fp0 FH gFP => ?_⟩
  have pos := coOf_pos (cs := cs2) (fun x hx => (hc2 x hx).1)
  dsimp only
  have hap6 := s6 _ _ hap5
  have hlp6 := s6 _ _ hlp5
  have hcp6 := s6 _ _ hcp5
  have F6 := F5.trans (Fr.of_same s6)
  have B6 := B5.same s6
  -- other
  refine seq_cut (fun σ H' => ∃ o : Int, σ = [some (.ref b), some (.ref sa), some (.ref ta), some (.ref lp), some (.ref cp), some (.ref ap), some (.ref fp), some (.int o), none, none, none] ∧ Same H6 H' ∧ 1 ≤ o ∧ o ≤ 1000) (fun Z hZ => ?_) ?_
  · refine ⟨by show 1 ≤ sizeLine; decide, fun mp hmp => ?_⟩
    have s7 := (Fr.new (M := []) (o := .lst [.int 1000]) hmp).same
    have hmp7 : upd H6 mp (.lst [.int 1000]) mp = some (.lst [.int 1000]) := upd_same
    generalize upd H6 mp (.lst [.int 1000]) = H7 at s7 hmp7
    have FH7 := FH.same s7
    refine ⟨_, rfl, fp, rfl, ⟨_, SqL.of FH7.hp⟩, fun D hD => ?_⟩
    refine lcM (walk_list (xs := fs.map V.ref)) [] hD (fun i acc H' => ∃ os : List Int, acc = os.map V.int ∧ os.length ≤ i ∧ ∀ x ∈ os, 1 ≤ x) ⟨[], rfl, Nat.le_refl _, by simp⟩ (fun i acc H' fr _ => SqL.of (fr.same _ _ FH7.hp)) ?_ ?_
    · rintro j v acc Hz Ha Nx hN hj fr e ⟨os, rfl, ll, ho⟩ ⟨rfl, hv⟩
      rw [List.getElem?_map] at hv
      obtain ⟨a, ea, rfl⟩ := Option.map_eq_some_iff.mp hv
      have hjn : j < n := by
        have := (List.getElem?_eq_some_iff.mp ea).1
        have := FH7.len
        omega
      obtain ⟨ys, hy1, hy2⟩ := (FH7.same fr.same).at_ j a ea
      obtain ⟨u, hu, _⟩ := G.has j hjn
      have hne := (gFP j).ne (by decide) hu
      obtain ⟨t0, ts0, eg⟩ := List.exists_cons_of_ne_nil hne
      rw [eg] at hy2
      obtain ⟨y, ys', ey, dy, _⟩ : ∃ y ys', ys = y :: ys' ∧ Dp K Ha y (lbD (coOf cs2) (j, t0)) ∧ DpAll K Ha ys' (ts0.map fun t => lbD (coOf cs2) (j, t)) := by
        cases hy2 with
        | cons d1 d2 => exact ⟨_, _, rfl, d1, d2⟩
      subst ey
      obtain ⟨ea', sa', w', rfl, k1, k2, k3⟩ := R59.Dp.lb dy
      obtain ⟨tp, s0, xs0, rfl, k4⟩ := R59.Dp.tm0 k3
      refine ⟨rfl, ?_⟩
      have hapA := (s7.trans fr.same) _ _ hap6
      have hlpA := (s7.trans fr.same) _ _ hlp6
      have skip : Nx Ha := hN _ _ e fr ⟨os, rfl, by omega, ho⟩
      refine ⟨_, rfl, a, _, 0, _, rfl, rfl, .inl (SqL.of hy1), atI0, ea', _, 4, _, rfl, rfl, .inr k1, rfl, tp, _, 0, _, rfl, rfl, .inr k4, atI0, ?_⟩
      refine ⟨_, rfl, ap, _, 0, _, rfl, rfl, .inl (SqL.of hapA), atI_map0, .inl ⟨rfl, _, rfl, ?_⟩⟩
      refine ndec_b (fun h1 => ?_) (fun h1 => skip)
      refine ⟨_, rfl, a, _, 0, _, rfl, rfl, .inl (SqL.of hy1), atI0, ea', _, 3, _, rfl, rfl, .inr k1, rfl, _, rfl, .int (j : Int), ls.map .int, .int _, .inr (.lst (SqL.of hlpA) (DpAll.ints ls)), by simp [PyData.depth], _, rfl, ?_⟩
      cases (ls.map PyData.int).any fun z => PyData.eqv z (.int (j : Int)) with
      | false => exact iteF skip
      | true =>
        refine iteT ⟨_, rfl, a, _, 0, _, rfl, rfl, .inl (SqL.of hy1), atI0, ea', _, 0, _, rfl, rfl, .inr k1, rfl, _, e, small_line (by have := G.n42; rw [List.length_map]; omega), hN _ _ upd_same (fr.put (.inl hD)) ⟨os ++ [(t0.cost (coOf cs2) : Int)], by simp, by simp; omega, ?_⟩⟩
        intro x hx
        rcases List.mem_append.mp hx with h | h
        · exact ho x h
        · rw [List.mem_singleton.mp h]
          have := cost_pos pos t0
          omega
    · rintro acc Ha fr e ⟨os, rfl, ll, ho⟩
      refine .inr (.inl ⟨mp, D, _, _, rfl, rfl, fr.same _ _ hmp7, e, Nat.le_of_lt (small_line (by have := G.n42; have := FH7.len; simp at ll ⊢; omega)), fun l hl => ?_⟩)
      refine ⟨l, 1000 :: os, rfl, SqL.of (by rw [upd_same]; rfl), by simp, fun m hm hle => ?_⟩
      refine hZ _ _ ⟨m, rfl, (s7.trans fr.same).trans (Fr.new (M := []) hl).same, ?_, hle _ List.mem_cons_self⟩
      rcases List.mem_cons.mp hm with h | h
      · omega
      · exact ho m h
  rintro _ H7 ⟨o, rfl, s7, o1, o2⟩
  have hap7 := s7 _ _ hap6
  have hcp7 := s7 _ _ hcp6
  have B7 := B6.same s7
  have F7 := F6.trans (Fr.of_same s7)
  -- costs[at[0]] = max(1, ..)
  refine ⟨_, rfl, _, rfl, .inl ⟨_, _, rfl, rfl, _, rfl, _, rfl, ?_⟩⟩
  refine ⟨_, _, rfl, rfl, by show 5 ≤ sizeLine; decide, fun p hp => ?_⟩
  refine ⟨b, cl, p, [.int 1000, .int 1000, .int (o + 1), .int o, .int (o - 1)], rfl, B7.new hp, upd_same, B7.out hp, by simp, by simp, fun y H8 hy B8 fr8 => ?_⟩
  have hy' : ∃ v : Int, y = .int v ∧ 0 ≤ v ∧ v ≤ 1001 := by
    simp only [List.mem_cons, List.not_mem_nil, or_false] at hy
    rcases hy with rfl | rfl | rfl | rfl | rfl <;> exact ⟨_, rfl, by omega, by omega⟩
  obtain ⟨v, rfl, v0, v1⟩ := hy'
  have f8 := (Fr.new (o := HO.lst [.int 1000, .int 1000, .int (o + 1), .int o, .int (o - 1)]) hp).trans fr8
  have hap8 := f8 _ _ hap7 (nbc (F2.fresh ap0 B2.known))
  have hcp8 := f8 _ _ hcp7 (nbc cpH)
  have F8 := F7.trans f8
  refine ⟨_, _, rfl, ?_⟩
  have hw : ∃ w : Int, (if v > 1 then v else 1) = w ∧ 1 ≤ w ∧ w ≤ 1001 := ⟨_, rfl, by split <;> omega, by split <;> omega⟩
  obtain ⟨w0, ew, w1, w2⟩ := hw
  rw [ew]
  refine ⟨_, rfl, _, rfl, ap, _, 0, _, rfl, rfl, .inl (SqL.of hap8), atI_map0, cp, _, (i : Nat), i, rfl, rfl, hcp8, ixN_int (by omega) (by simp; omega), ?_⟩
  rw [map_setI]
  have lc3 : (cs2.set i w0).length = sg.length := by rw [List.length_set, lc1]
  have hc3 : ∀ x ∈ cs2.set i w0, 1 ≤ x ∧ x ≤ 1001 := fun x hx => by
    rcases List.mem_or_eq_of_mem_set hx with h | h
    · exact hc2 x h
    · rw [h]
      exact ⟨w1, w2⟩
  generalize cs2.set i w0 = cs3 at lc3 hc3
  have F9 : Fr [b, cl] H (upd H8 cp (.lst (cs3.map V.int))) := F8.put (.inl cpH)
  have B9 : Bag (upd H8 cp (.lst (cs3.map V.int))) b cl := B8.upd' B cpH
  refine ⟨_, rfl, cp, _, rfl, .inl ⟨SqL.of upd_same, fun t ht => ?_⟩⟩
  have s5 := (Fr.new (M := []) (o := .tup (cs3.map V.int)) ht).same
  exact k t cs3 _ (B9.same s5) (F9.trans (Fr.of_same s5)) (SqT.of upd_same) ⟨by omega, hc3⟩
end
end R59
/-! KW -/
set_option maxHeartbeats 1000000
/-! the hand-made wide table: its best members -/
namespace R59
open KB
def innW (at_ u v : Nat) : List Nat := List.replicate at_ v ++ [u] ++ List.replicate (2 - at_) v
def rowsW (a b f g at_ : Nat) : List Row := [⟨a, [], 0⟩, ⟨b, [], 1⟩, ⟨f, [0], 0⟩, ⟨g, innW at_ 0 1, 2⟩]
def twrW (f a : Nat) : Nat → Tm
  | 0 => .node a []
  | k + 1 => .node f [twrW f a k]
def kidsW (a b f at_ k : Nat) : List Tm := List.replicate at_ (.node b []) ++ [twrW f a k] ++ List.replicate (2 - at_) (.node b [])
def tmW (a b f g at_ k : Nat) : Tm := .node g (kidsW a b f at_ k)
def dueW (a b f g at_ n : Nat) : List Tm := (List.range n).map (tmW a b f g at_)
structure DW (a b f g at_ : Nat) : Prop where
  ha : a < 4
  hb : b < 4
  hf : f < 4
  hg : g < 4
  ab : a ≠ b
  af : a ≠ f
  ag : a ≠ g
  bf : b ≠ f
  bg : b ≠ g
  fg : f ≠ g
  at2 : at_ ≤ 2
theorem at3 {p : Nat → Prop} {k : Nat} (h : k ≤ 2) (h0 : p 0) (h1 : p 1) (h2 : p 2) : p k := by
  rcases k with _ | _ | _ | k
  · exact h0
  · exact h1
  · exact h2
  · omega
theorem twr_size (f a k : Nat) : (twrW f a k).size = k + 1 := by
  induction k with
  | zero => rfl
  | succ k ih =>
    rw [twrW, Tm.size, sizes, sizes, ih]
    omega
theorem twr_cost (co : Nat → Nat) (f a k : Nat) : (twrW f a k).cost co = k * co f + co a := by
  induction k with
  | zero =>
    rw [twrW, Tm.cost, KB.costs]
    omega
  | succ k ih =>
    rw [twrW, Tm.cost, KB.costs, KB.costs, ih, Nat.succ_mul]
    omega
theorem tm_size {a b f g at_ k : Nat} (h : at_ ≤ 2) : (tmW a b f g at_ k).size = k + 4 := by
  refine at3 (p := fun at_ => (tmW a b f g at_ k).size = k + 4) h ?_ ?_ ?_ <;>
  · show (Tm.node g _).size = _
    simp [kidsW, Tm.size, sizes, twr_size, List.replicate]
    omega
theorem tm_cost {co : Nat → Nat} {a b f g at_ k : Nat} (h : at_ ≤ 2) : (tmW a b f g at_ k).cost co = k * co f + (co a + co g + 2 * co b) := by
  refine at3 (p := fun at_ => (tmW a b f g at_ k).cost co = k * co f + (co a + co g + 2 * co b)) h ?_ ?_ ?_ <;>
  · show (Tm.node g _).cost co = _
    simp [kidsW, Tm.cost, KB.costs, twr_cost, List.replicate]
    omega
structure TabW (T : List Row) (a b f g at_ x y z : Nat) : Prop where
  pm : T.Perm [⟨a, [], x⟩, ⟨b, [], y⟩, ⟨f, [x], x⟩, ⟨g, innW at_ x y, z⟩]
  xy : x ≠ y
  xz : x ≠ z
  yz : y ≠ z
section
variable {T : List Row} {a b f g at_ x y z : Nat}
theorem TabW.mem (W : TabW T a b f g at_ x y z) {r : Row} : r ∈ T ↔ r = ⟨a, [], x⟩ ∨ r = ⟨b, [], y⟩ ∨ r = ⟨f, [x], x⟩ ∨ r = ⟨g, innW at_ x y, z⟩ := by
  rw [W.pm.mem_iff]
  simp
theorem TabW.ya (W : TabW T a b f g at_ x y z) : ∀ {t : Tm}, Mem T t y → t = .node b []
  | .node s ts, .mk hr hk => by
    have xy := W.xy
    have yz := W.yz
    rcases W.mem.mp hr with h | h | h | h <;> injection h with e1 e2 e3
    · omega
    · subst e1 e2
      cases hk
      rfl
    · omega
    · omega
theorem TabW.xa (W : TabW T a b f g at_ x y z) : ∀ (n : Nat) {t : Tm}, t.size ≤ n → Mem T t x → ∃ k, t = twrW f a k
  | 0, .node s ts, hn, _ => by
    rw [Tm.size] at hn
    omega
  | n + 1, .node s ts, hn, .mk hr hk => by
    have ih := fun {t : Tm} => TabW.xa W n (t := t)
    have xy := W.xy
    have xz := W.xz
    rcases W.mem.mp hr with h | h | h | h <;> injection h with e1 e2 e3
    · subst e1 e2
      cases hk
      exact ⟨0, rfl⟩
    · omega
    · subst e1 e2
      cases hk with
      | cons h1 h2 =>
      cases h2
      rw [Tm.size, sizes, sizes] at hn
      obtain ⟨k, rfl⟩ := ih (by omega) h1
      exact ⟨k + 1, rfl⟩
    · omega
theorem TabW.za (W : TabW T a b f g at_ x y z) (h : at_ ≤ 2) : ∀ {t : Tm}, Mem T t z → ∃ k, t = tmW a b f g at_ k
  | .node s ts, .mk hr hk => by
    have xz := W.xz
    have yz := W.yz
    rcases W.mem.mp hr with e | e | e | e <;> injection e with e1 e2 e3
    · omega
    · omega
    · omega
    · have e1' := e1.symm
      subst e1'
      subst e2
      clear hr e1
      have hx : ∀ {t : Tm}, Mem T t x → ∃ k, t = twrW f a k := fun {t} m => W.xa _ (Nat.le_refl _) m
      have hy : ∀ {t : Tm}, Mem T t y → t = .node b [] := fun {t} m => W.ya m
      clear W
      revert hk
      refine at3 (p := fun at_ => MemL T ts (innW at_ x y) → ∃ k, Tm.node g ts = tmW a b f g at_ k) h (fun hk => ?_) (fun hk => ?_) (fun hk => ?_)
      · cases hk with
        | cons h1 hk => cases hk with
        | cons h2 hk => cases hk with
        | cons h3 hk =>
        cases hk
        obtain ⟨k, rfl⟩ := hx h1
        obtain rfl := hy h2
        obtain rfl := hy h3
        exact ⟨k, rfl⟩
      · cases hk with
        | cons h1 hk => cases hk with
        | cons h2 hk => cases hk with
        | cons h3 hk =>
        cases hk
        obtain ⟨k, rfl⟩ := hx h2
        obtain rfl := hy h1
        obtain rfl := hy h3
        exact ⟨k, rfl⟩
      · cases hk with
        | cons h1 hk => cases hk with
        | cons h2 hk => cases hk with
        | cons h3 hk =>
        cases hk
        obtain ⟨k, rfl⟩ := hx h3
        obtain rfl := hy h1
        obtain rfl := hy h2
        exact ⟨k, rfl⟩
theorem TabW.xm (W : TabW T a b f g at_ x y z) : ∀ k, Mem T (twrW f a k) x
  | 0 => .mk (W.mem.mpr (.inl rfl)) .nil
  | k + 1 => .mk (W.mem.mpr (.inr (.inr (.inl rfl)))) (.cons (TabW.xm W k) .nil)
theorem TabW.zm (W : TabW T a b f g at_ x y z) (h : at_ ≤ 2) (k : Nat) : Mem T (tmW a b f g at_ k) z := by
  refine .mk (W.mem.mpr (.inr (.inr (.inr rfl)))) ?_
  have hy : Mem T (.node b []) y := .mk (W.mem.mpr (.inr (.inl rfl))) .nil
  have hx := W.xm k
  exact at3 (p := fun at_ => MemL T (kidsW a b f at_ k) (innW at_ x y)) h (.cons hx (.cons hy (.cons hy .nil))) (.cons hy (.cons hx (.cons hy .nil))) (.cons hy (.cons hy (.cons hx .nil)))
theorem TabW.fp (W : TabW T a b f g at_ x y z) (h : at_ ≤ 2) {co : Nat → Nat} (pos : ∀ s, 1 ≤ co s) (n : Nat) : FP T nob co n z (dueW a b f g at_ n) := by
  have cst : ∀ {i j : Nat}, i < j → (tmW a b f g at_ i).cost co < (tmW a b f g at_ j).cost co := fun {i j} hij => by
    rw [tm_cost h, tm_cost h]
    have := Nat.mul_lt_mul_of_pos_right hij (pos f)
    omega
  refine ⟨fun t ht => ?_, ?_, ?_, ?_, fun u t hu ht hlt => ?_, ?_⟩
  · obtain ⟨k, _, rfl⟩ := List.mem_map.mp ht
    exact W.zm h k
  · refine nodup_map List.nodup_range fun i _ j _ e => ?_
    have := congrArg Tm.size e
    rw [tm_size h, tm_size h] at this
    omega
  · simp [dueW]
  · refine List.pairwise_map.mpr (List.pairwise_lt_range.imp fun {i j} hij => .inl (cst hij))
  · obtain ⟨k, hk, rfl⟩ := List.mem_map.mp hu
    obtain ⟨j, rfl⟩ := W.za h ht
    refine List.mem_map.mpr ⟨j, List.mem_range.mpr ?_, rfl⟩
    have hk := List.mem_range.mp hk
    refine Nat.lt_of_not_le fun hn => hlt (.inl (cst (by omega)))
  · exact .inl (by simp [dueW])
end
theorem all2_eq {l l' : List Tm} (h : All2 (fun a b => a.size = b.size ∧ (big40 a.size ∨ a = b)) l l') (hs : ∀ t ∈ l', t.size ≤ 40) : l = l' := by
  induction h with
  | nil => rfl
  | cons h1 h2 ih =>
    obtain ⟨e1, h1⟩ := h1
    have := hs _ List.mem_cons_self
    rcases h1 with h1 | h1
    · have : 40 < _ := h1
      omega
    · rw [h1, ih fun t ht => hs t (List.mem_cons_of_mem _ ht)]
theorem dueW_size {a b f g at_ n : Nat} (h : at_ ≤ 2) (hn : n ≤ 20) : ∀ t ∈ dueW a b f g at_ n, t.size ≤ 40 := fun t ht => by
  obtain ⟨k, hk, rfl⟩ := List.mem_map.mp ht
  have := List.mem_range.mp hk
  rw [tm_size h]
  omega
theorem dueW_told {a b f g at_ n : Nat} (h : at_ ≤ 2) (hn : n ≤ 20) : dueD (dueW a b f g at_ n) = toldD (dueW a b f g at_ n) := if_neg fun ⟨t, ht, hs⟩ => by
  have := dueW_size h hn t ht
  omega
/-- the rows told by hand are fit -/
theorem rowsW_ok {a b f g at_ : Nat} (D : DW a b f g at_) : RwOk (fun s => if s = f then 1 else if s = g then 3 else 0) (rowsW a b f g at_) := by
  obtain ⟨ha, hb, hf, hg, ab, af, ag, bf, bg, fg, at2⟩ := D
  have li : ∀ u v, (innW at_ u v).length = 3 := fun u v => at3 (p := fun at_ => (innW at_ u v).length = 3) at2 rfl rfl rfl
  have hi : ∀ i ∈ innW at_ 0 1, i ≤ 99 := at3 (p := fun at_ => ∀ i ∈ innW at_ 0 1, i ≤ 99) at2 (by decide) (by decide) (by decide)
  refine ⟨by simp [rowsW], ?_, ?_, fun s => ?_, ?_, ?_, ⟨_, List.mem_cons_self, rfl⟩⟩
  · intro r hr
    simp only [rowsW, List.mem_cons, List.not_mem_nil, or_false] at hr
    rcases hr with rfl | rfl | rfl | rfl <;> dsimp only <;> omega
  · intro r hr
    simp only [rowsW, List.mem_cons, List.not_mem_nil, or_false] at hr
    rcases hr with rfl | rfl | rfl | rfl
    · show 0 = if a = f then 1 else if a = g then 3 else 0
      rw [if_neg af, if_neg ag]
    · show 0 = if b = f then 1 else if b = g then 3 else 0
      rw [if_neg bf, if_neg bg]
    · show 1 = if f = f then 1 else _
      rw [if_pos rfl]
    · show (innW at_ 0 1).length = if g = f then 1 else if g = g then 3 else 0
      rw [li, if_neg (Ne.symm fg), if_pos rfl]
  · split
    · omega
    · split <;> omega
  · simp only [rowsW, List.pairwise_cons, List.mem_cons, List.not_mem_nil, or_false]
    refine ⟨?_, ?_, ?_, by simp, List.Pairwise.nil⟩
    · rintro r (rfl | rfl | rfl) ⟨h, _⟩ <;> dsimp only at h <;> omega
    · rintro r (rfl | rfl) ⟨h, _⟩ <;> dsimp only at h <;> omega
    · rintro r rfl ⟨h, _⟩
      dsimp only at h
      omega
  · intro r hr
    simp only [rowsW, List.mem_cons, List.not_mem_nil, or_false] at hr
    rcases hr with rfl | rfl | rfl | rfl
    · exact ⟨Nat.zero_le _, by simp⟩
    · exact ⟨(by decide : 1 ≤ 99), by simp⟩
    · exact ⟨Nat.zero_le _, by simp⟩
    · exact ⟨(by decide : 2 ≤ 99), hi⟩
theorem rowsW_bnd {a b f g at_ : Nat} (at2 : at_ ≤ 2) : BndR (rowsW a b f g at_) := by
  have li : ∀ u v, (innW at_ u v).length = 3 := fun u v => at3 (p := fun at_ => (innW at_ u v).length = 3) at2 rfl rfl rfl
  refine .inl ⟨3, 3, by decide, by decide, by decide, ?_, ?_⟩
  · intro r hr
    simp only [rowsW, List.mem_cons, List.not_mem_nil, or_false] at hr
    rcases hr with rfl | rfl | rfl | rfl
    · exact (by decide : 0 ≤ 3)
    · exact (by decide : 0 ≤ 3)
    · exact (by decide : 1 ≤ 3)
    · show (innW at_ 0 1).length ≤ 3
      rw [li]
      decide
  · intro r hr
    simp only [rowsW, List.mem_cons, List.not_mem_nil, or_false] at hr
    rcases hr with rfl | rfl | rfl | rfl
    · exact (by decide : 0 < 3)
    · exact (by decide : 1 < 3)
    · exact (by decide : 0 < 3)
    · exact (by decide : 2 < 3)
theorem tabW_of {a b f g at_ : Nat} {T : List Row} {es : List Nat} {B : Bsts} (D : DW a b f g at_) (X : TabOf (rowsW a b f g at_) T es B) : TabW T a b f g at_ (es.idxOf 0) (es.idxOf 1) (es.idxOf 2) ∧ es.idxOf 2 < es.length := by
  have at2 := D.at2
  obtain ⟨u0, h0, s0⟩ := X.done ⟨a, [], 0⟩ (by simp [rowsW]) [] rfl (by rw [sizes]; omega)
  obtain ⟨u1, h1, s1⟩ := X.done ⟨b, [], 1⟩ (by simp [rowsW]) [] rfl (by rw [sizes]; omega)
  dsimp only at h0 h1
  rw [sizes] at s0 s1
  have kid : ∃ ts, kidsB B (innW at_ 0 1) = some ts ∧ sizes ts ≤ 3 := by
    refine at3 (p := fun at_ => ∃ ts, kidsB B (innW at_ 0 1) = some ts ∧ sizes ts ≤ 3) at2 ⟨[u0, u1, u1], ?_, ?_⟩ ⟨[u1, u0, u1], ?_, ?_⟩ ⟨[u1, u1, u0], ?_, ?_⟩
    all_goals first
      | (show kidsB B _ = _; simp [innW, List.replicate, kidsB, h0, h1]; done)
      | (simp only [sizes]; omega)
  obtain ⟨ts, kts, sts⟩ := kid
  obtain ⟨u2, h2, _⟩ := X.done ⟨g, innW at_ 0 1, 2⟩ (by simp [rowsW]) ts kts (by omega)
  dsimp only at h2
  have m0 : 0 ∈ es := (X.ok.dom 0).mp (by rw [h0]; rfl)
  have m1 : 1 ∈ es := (X.ok.dom 1).mp (by rw [h1]; rfl)
  have m2 : 2 ∈ es := (X.ok.dom 2).mp (by rw [h2]; rfl)
  have mi : ∀ i ∈ innW at_ 0 1, i ∈ es := fun i hi => by
    simp only [innW, List.mem_append, List.mem_replicate, List.mem_singleton] at hi
    rcases hi with (⟨_, rfl⟩ | rfl) | ⟨_, rfl⟩ <;> assumption
  have al : KB.alive (rowsW a b f g at_) es = rowsW a b f g at_ := by
    unfold KB.alive
    refine List.filter_eq_self.mpr fun r hr => ?_
    have : r ∈ KB.alive (rowsW a b f g at_) es := mem_alive.mpr ⟨hr, ?_⟩
    · exact (List.mem_filter.mp this).2
    · simp only [rowsW, List.mem_cons, List.not_mem_nil, or_false] at hr
      rcases hr with rfl | rfl | rfl | rfl
      · exact ⟨m0, by simp⟩
      · exact ⟨m1, by simp⟩
      · exact ⟨m0, by simp [m0]⟩
      · exact ⟨m2, mi⟩
  have pm := X.pm
  rw [al] at pm
  refine ⟨⟨?_, fun e => ?_, fun e => ?_, fun e => ?_⟩, idx_lt m2⟩
  · have : (rowsW a b f g at_).map (ren es) = [⟨a, [], es.idxOf 0⟩, ⟨b, [], es.idxOf 1⟩, ⟨f, [es.idxOf 0], es.idxOf 0⟩, ⟨g, innW at_ (es.idxOf 0) (es.idxOf 1), es.idxOf 2⟩] := by
      simp [rowsW, ren, innW]
    rw [this] at pm
    exact pm
  · exact absurd (idx_inj m0 m1 e) (by decide)
  · exact absurd (idx_inj m0 m2 e) (by decide)
  · exact absurd (idx_inj m1 m2 e) (by decide)
theorem TabW.wd {T : List Row} {a b f g at_ x y z : Nat} (W : TabW T a b f g at_ x y z) (h : at_ ≤ 2) : wid 20 T ≤ 10000 := by
  have li : (innW at_ x y).length = 3 := at3 (p := fun at_ => (innW at_ x y).length = 3) h rfl rfl rfl
  unfold KB.wid
  rw [(W.pm.map _).sum_nat]
  simp [li]
end R59
/-! W30 -/
set_option maxHeartbeats 1000000
namespace R59
open PySem PyProof.Rows L2 KB PySem.W
theorem pg_unlK (K : PySem.W.Frag) {X : Cx} {es : List Expr} {k : Nat} {t : TGs} {n : Nat} {pos : Pos} (hc : X.calm = true) (h : PGs X es t) (hn : (assignEach es X.env).length = n := by rfl) (hst : (assignEach es X.env).findIdx? (·.1) = none := by rfl) (hK : X.K = K := by rfl) : PG X (.Tuple es k pos) (gUnl K n t) := by
  subst hK; exact pg_unl hc h hn hst
theorem catT {K : PySem.W.Frag} {a b : Addr} {xs ys : List V} {H : Hp} {Q : VK} (ha : SqT K H a xs) (hb : SqT K H b ys) (hl : xs.length + ys.length ≤ 100) (q : ∀ p H', Same H H' → SqT K H' p (xs ++ ys) → Q (.ref p) H') : rAddU K (.ref a) (.ref b) H Q := by
  refine .inr (.inr ⟨a, b, xs, ys, rfl, rfl, ha, hb, Nat.le_of_lt (small_line (by omega)), fun e => ?_, fun _ e => ?_, fun _ _ p hp => q p _ (Fr.new (M := []) hp).same (SqT.of upd_same)⟩)
  · subst e
    exact q b H (fun _ _ h => h) hb
  · subst e
    exact q a H (fun _ _ h => h) (by rw [List.append_nil]; exact ha)
theorem mulT {K : PySem.W.Frag} {a : Addr} {x : V} {H : Hp} {Q : VK} {k : Nat} {i : Int} (ha : SqT K H a [x]) (ei : i = (k : Nat)) (hk : k ≤ 1000) (q : ∀ p H', Same H H' → SqT K H' p (List.replicate k x) → Q (.ref p) H') : rMulU K (.ref a) (.int i) H Q := by
  subst ei
  have e : ∀ n, (List.replicate n [x]).flatten = List.replicate n x := fun n => by
    induction n with
    | zero => rfl
    | succ n ih => rw [List.replicate_succ, List.flatten_cons, ih]; rfl
  refine .inr (.inr ⟨a, (k : Nat), [x], rfl, rfl, ha, by simp, by omega, by omega, by simp, fun e => ?_, fun _ p hp => ?_⟩)
  · have : k = 1 := by omega
    subst this
    exact q a H (fun _ _ h => h) ha
  · rw [Int.toNat_natCast, e]
    exact q p _ (Fr.new (M := []) hp).same (SqT.of upd_same)
theorem perm4 {ms : List Int} (pm : ms.Perm [0, 1, 2, 3]) : ∃ a b f g : Nat, ms = [(a : Int), b, f, g] ∧ ∀ k, k ≤ 2 → DW a b f g k := by
  have hl := pm.length_eq
  have nd : ms.Nodup := pm.nodup_iff.mpr (by decide)
  have hm : ∀ x ∈ ms, 0 ≤ x ∧ x ≤ 3 := fun x hx => by
    have := pm.mem_iff.mp hx
    simp at this
    omega
  match ms, hl with
  | [p, q, r, s], _ =>
    simp only [List.nodup_cons, List.mem_cons, List.not_mem_nil, or_false, not_or] at nd
    have h1 := hm p (by simp)
    have h2 := hm q (by simp)
    have h3 := hm r (by simp)
    have h4 := hm s (by simp)
    refine ⟨p.toNat, q.toNat, r.toNat, s.toNat, ?_, fun k hk => ⟨by omega, by omega, by omega, by omega, by omega, by omega, by omega, by omega, by omega, by omega, hk⟩⟩
    rw [Int.toNat_of_nonneg h1.1, Int.toNat_of_nonneg h2.1, Int.toNat_of_nonneg h3.1, Int.toNat_of_nonneg h4.1]
section
variable {K : PySem.W.Frag} {H : Hp}
theorem plain_made {p : Addr} {s : Nat} (h : SqT K H p [.int (s : Nat)]) : Dp K H (.ref p) (tmD (.node s [])) := by
  rw [tmD]
  exact .tup h (.cons (.int _) .nil)
theorem step_made {p : Addr} {s : Nat} {v : V} {t : Tm} (h : SqT K H p [.int (s : Nat), v]) (hv : Dp K H v (tmD t)) : Dp K H (.ref p) (tmD (.node s [t])) := by
  rw [tmD]
  exact .tup h (.cons (.int _) (.cons hv .nil))
theorem tmW_made {p q1 q2 : Addr} {a b f' g k at_ : Nat} {v : V} (h : at_ ≤ 2) (hp : SqT K H p ([.int (g : Nat)] ++ List.replicate at_ (.ref q1) ++ [v] ++ List.replicate (2 - at_) (.ref q2)))
    (h1 : Dp K H (.ref q1) (tmD (.node b []))) (h2 : Dp K H (.ref q2) (tmD (.node b []))) (hv : Dp K H v (tmD (twrW f' a k))) : Dp K H (.ref p) (tmD (tmW a b f' g at_ k)) := by
  revert hp
  refine at3 (p := fun at_ => SqT K H p ([.int (g : Nat)] ++ List.replicate at_ (.ref q1) ++ [v] ++ List.replicate (2 - at_) (.ref q2)) → Dp K H (.ref p) (tmD (tmW a b f' g at_ k))) h (fun hp => ?_) (fun hp => ?_) (fun hp => ?_)
  · unfold tmW
    rw [tmD]
    exact .tup hp (.cons (.int _) (.cons hv (.cons h2 (.cons h2 .nil))))
  · unfold tmW
    rw [tmD]
    exact .tup hp (.cons (.int _) (.cons h1 (.cons hv (.cons h2 .nil))))
  · unfold tmW
    rw [tmD]
    exact .tup hp (.cons (.int _) (.cons h1 (.cons h1 (.cons hv .nil))))
end
section
variable {P : Program} {w : World} {K : PySem.W.Frag} {mg : Str → Option Value} {base : Heap} {f C CT : Addr} {fd : FuncData}
abbrev s_law_is_wide_right : Stmt := top 43
abbrev N_law_is_wide_right : List Str := ["bag", "inner", "table", "costs", "k", "many", "a", "b", "f", "g", "at", "arities", "number", "due", "term", "is_named", "symbol", "told", "row"]
theorem sc_law_is_wide_right : FnScope N_law_is_wide_right ["bag"] (defScope s_law_is_wide_right) := ⟨rfl, rfl, rfl, by decide +kernel, rfl, by decide +kernel, by decide +kernel⟩
def spWide : Sp := fun vs H Q _ => ∃ b cl, vs = [.ref b] ∧ Bag H b cl ∧ ∀ H', Bag H' b cl → Q (.bl true) H'
set_option maxHeartbeats 4000000 in
theorem ok_wide (F : FnP K "_law_is_wide_right" "_law_is_wide_right" s_law_is_wide_right f fd) (T : Nm mg) (h_law_draw : Has P w K mg base CX0 "_law_draw" ["bag", "below"] 1 spDraw) (h_law_pick : Has P w K mg base CX0 "_law_pick" ["bag", "some"] 2 spPick) (h_law_shuffled : Has P w K mg base CX0 "_law_shuffled" ["bag", "some"] 2 spShuf) (h_law_table : Has P w K mg base CX0 "_law_table" ["rows"] 2 (spTable K))
    (h_law_asked : Has P w K mg base CX0 "_law_asked" ["table", "costs", "number", "many", "is_named"] 7 (spAsked K)) (h_law_same : Has P w K mg base CX0 "_law_same" ["told", "due"] 43 (spSame K 43)) :
    FnOk P w K mg base CX0 44 f fd ["bag"] spWide := by
  refine F.ok sc_law_is_wide_right (fun vs H Q E h => ?_) (fun cdv A outer s H vs Q E hr h => ?_)
  · obtain ⟨b, cl, rfl, _⟩ := h
    rfl
  obtain ⟨b, cl, rfl, B, k⟩ := h
  have hq := hq_of hr
  refine ⟨_, PSs.nox
  (pss_cons (ps_asg (pe_f h_law_shuffled (hr.mono (by decide)) (by rfl) (pa_cons (pv 0) (pa_cons (pe_lst (pa_cons pe_int (pa_cons pe_int (pa_cons pe_int (pa_cons pe_int pa_nil))))) pa_nil))) (pg_unlK (n := 4) K rfl (pgs_cons (pg_name (i := 6) sc_law_is_wide_right.nd rfl (Or.inl rfl)) (pgs_cons (pg_name (i := 7) sc_law_is_wide_right.nd rfl (Or.inl rfl)) (pgs_cons (pg_name (i := 8) sc_law_is_wide_right.nd rfl (Or.inl rfl)) (pgs_cons (pg_name (i := 9) sc_law_is_wide_right.nd rfl (Or.inr rfl)) pgs_nil))))))
      (pss_cons (ps_par (i := 10) (j := 11) rfl sc_law_is_wide_right.nd rfl rfl (by decide) rfl rfl (pa_cons (pe_f h_law_draw (hr.mono (by decide)) (by rfl) (pa_cons (pv 0) (pa_cons pe_int pa_nil))) (pa_cons (pe_op (op_mulK K) (pe_lst (pa_cons pe_int pa_nil)) pe_int) pa_nil)) rfl)
      (pss_cons (ps_asg (pe_tup (pa_cons pe_int (pa_cons pe_int pa_nil))) (pg_tupK (n := 2) K rfl (pgs_cons (pg_sub (pv 11) (pv 8) set_list) (pgs_cons (pg_sub (pv 11) (pv 9) set_list) pgs_nil))))
      (pss_cons (ps_set (i := 1) sc_law_is_wide_right.nd rfl (Or.inl rfl) (pe_op (op_addK K) (pe_op (op_addK K) (pe_op (op_mulK K) (pe_tup (pa_cons pe_int pa_nil)) (pv 10)) (pe_tup (pa_cons pe_int pa_nil))) (pe_op (op_mulK K) (pe_tup (pa_cons pe_int pa_nil)) (pe_op op_sub pe_int (pv 10)))))
      (pss_cons (ps_set (i := 2) sc_law_is_wide_right.nd rfl (Or.inl rfl) (pe_f h_law_table (hr.mono (by decide)) (by rfl) (pa_cons (pe_lst (pa_cons (pe_tup (pa_cons (pv 6) (pa_cons (pe_tup pa_nil) (pa_cons pe_int pa_nil)))) (pa_cons (pe_tup (pa_cons (pv 7) (pa_cons (pe_tup pa_nil) (pa_cons pe_int pa_nil)))) (pa_cons (pe_tup (pa_cons (pv 8) (pa_cons (pe_tup (pa_cons pe_int pa_nil)) (pa_cons pe_int pa_nil)))) (pa_cons (pe_tup (pa_cons (pv 9) (pa_cons (pv 1) (pa_cons pe_int pa_nil)))) pa_nil))))) pa_nil)))
      (pss_cons (ps_setLc (i := 3) (own := [("symbol", 16)]) rfl sc_law_is_wide_right.nd rfl rfl (sw_true rfl rfl rfl (by decide +kernel)) (pi_listK K (pv 11)) (blkOk_by (N := N_law_is_wide_right) (sc := defScope s_law_is_wide_right) (by decide +kernel)) (fun _ _ _ _ _ => (pg_name (i := 16) sc_law_is_wide_right.nd rfl (Or.inl rfl))) (fun _ _ _ _ _ => pts_nil) (fun _ _ _ _ _ => (pe_op (op_addK K) pe_int (pe_f h_law_draw (hr.mono (by decide)) (by rfl) (pa_cons (pv 0) (pa_cons pe_int pa_nil))))))
      (pss_cons (ps_asg (pe_f h_law_pick (hr.mono (by decide)) (by rfl) (pa_cons (pv 0) (pa_cons (pe_lst (pa_cons pe_int (pa_cons pe_int (pa_cons (pe_op (op_addK K) pe_int (pe_f h_law_draw (hr.mono (by decide)) (by rfl) (pa_cons (pv 0) (pa_cons pe_int pa_nil)))) pa_nil)))) pa_nil))) (pg_sub (pv 3) (pv 7) set_list))
      (pss_cons (ps_par3 (i := 12) (j := 13) (l := 14) rfl sc_law_is_wide_right.nd rfl rfl rfl (by decide) (by decide) (by decide) rfl rfl rfl (pa_cons (pe_ix (ix_K K) (pe_lc (own := [("row", 18)]) rfl sc_law_is_wide_right.nd (pi_tupK K (pv 2)) (blkOk_by (N := N_law_is_wide_right) (sc := defScope s_law_is_wide_right) (by decide +kernel)) (fun _ _ _ _ _ => (pg_name (i := 18) sc_law_is_wide_right.nd rfl (Or.inl rfl))) (fun _ _ _ _ _ => (pts_one (pt_cmpR (op_eqK K hq) (pe_ix (ix_K K) (pv 18) pe_int (fun _ _ => rfl)) (pv 9) (nomark _)))) (fun _ _ _ _ _ => (pe_ix (ix_K K) (pv 18) pe_int (fun _ _ => rfl)))) pe_int (fun _ _ => rfl)) (pa_cons (pe_lst pa_nil) (pa_cons (pe_tup (pa_cons (pv 6) pa_nil)) pa_nil))) rfl)
      (pss_cons (ps_for PassesOwn.never rfl (pi_range1 (by rfl) T.range (pa_cons pe_int pa_nil)) (pg_name (i := 4) sc_law_is_wide_right.nd rfl (Or.inl rfl)) (pss_cons (ps_expr (pe_appK K (pv 13) (pe_op (op_addK K) (pe_op (op_addK K) (pe_op (op_addK K) (pe_tup (pa_cons (pv 9) pa_nil)) (pe_op (op_mulK K) (pe_tup (pa_cons (pe_tup (pa_cons (pv 7) pa_nil)) pa_nil)) (pv 10))) (pe_tup (pa_cons (pv 14) pa_nil))) (pe_op (op_mulK K) (pe_tup (pa_cons (pe_tup (pa_cons (pv 7) pa_nil)) pa_nil)) (pe_op op_sub pe_int (pv 10))))))
      (pss_one (ps_set (i := 14) sc_law_is_wide_right.nd rfl (Or.inl rfl) (pe_tup (pa_cons (pv 8) (pa_cons (pv 14) pa_nil)))))))
      (pss_cons (ps_for PassesOwn.never rfl (pi_listK K (pe_lst (pa_cons pe_int (pa_cons (pe_op (op_addK K) pe_int (pe_f h_law_draw (hr.mono (by decide)) (by rfl) (pa_cons (pv 0) (pa_cons pe_int pa_nil)))) pa_nil)))) (pg_name (i := 5) sc_law_is_wide_right.nd rfl (Or.inl rfl)) (pss_one (ps_for PassesOwn.never rfl (pi_tupK K (pe_tup (pa_cons pe_bl (pa_cons pe_bl pa_nil)))) (pg_name (i := 15) sc_law_is_wide_right.nd rfl (Or.inl rfl)) (pss_cons (ps_set (i := 17) sc_law_is_wide_right.nd rfl (Or.inl rfl) (pe_f h_law_asked (hr.mono (by decide)) (by rfl) (pa_cons (pv 2) (pa_cons (pe_callTy (cr_tupleK K) (by rfl) T.tuple bt_tuple (pa_cons (pv 3) pa_nil)) (pa_cons (pv 12) (pa_cons (pv 5) (pa_cons (pv 15) pa_nil)))))))
      (pss_one (ps_if (pt_not (pt_val (pe_f h_law_same (hr.mono (by decide)) (by rfl) (pa_cons (pv 17) (pa_cons (pe_tup (pa_cons pe_str (pa_cons (pe_callTy (cr_tupleK K) (by rfl) T.tuple bt_tuple (pa_cons (pe_slice (sl_listK K) (pv 13) po_none (po_some (pv 5))) pa_nil)) pa_nil))) pa_nil))))) (pss_one (ps_ret pe_bl)) pss_nil))))))
      (pss_one (ps_ret (pe_f h_law_same (hr.mono (by decide)) (by rfl) (pa_cons (pe_f h_law_asked (hr.mono (by decide)) (by rfl) (pa_cons (pv 2) (pa_cons (pe_callTy (cr_tupleK K) (by rfl) T.tuple bt_tuple (pa_cons (pv 3) pa_nil)) (pa_cons (pv 12) (pa_cons pe_int (pa_cons pe_bl pa_nil)))))) (pa_cons (pe_tup (pa_cons pe_str (pa_cons (pe_tup (pa_cons (pe_ix (ix_K K) (pv 13) pe_int (fun _ _ => rfl)) pa_nil)) pa_nil))) pa_nil))))))))))))))), ?_⟩
  -- a, b, f, g
  refine seq_cut (fun σ H' => ∃ (xa xb xf xg : Nat), σ = [some (.ref b), none, none, none, none, none, some (.int (xa : Nat)), some (.int (xb : Nat)), some (.int (xf : Nat)), some (.int (xg : Nat)), none, none, none, none, none, none, none, none, none] ∧ Bag H' b cl ∧ ∀ k, k ≤ 2 → DW xa xb xf xg k) (fun Z hZ => ?_) ?_
  · refine ⟨_, rfl, by show 4 ≤ sizeLine; decide, fun l hl => ?_⟩
    refine ⟨b, cl, l, [0, 1, 2, 3], rfl, B.new hl, upd_same, B.out hl, by decide, fun p ms H1 B1 fr1 p0 hp pm => ?_⟩
    obtain ⟨xa, xb, xf, xg, rfl, D⟩ := perm4 pm
    exact ⟨p, _, rfl, SqL.of hp, rfl, _, _, rfl, _, _, rfl, _, _, rfl, _, _, rfl, rfl, hZ _ _ ⟨xa, xb, xf, xg, rfl, B1, D⟩⟩
  rintro _ H1 ⟨xa, xb, xf, xg, rfl, B1, D⟩
  -- at, arities
  refine ⟨_, rfl, b, cl, 3, rfl, B1, by decide, by decide, fun r H2 r0 r1 B2 fr2 => ?_⟩
  obtain ⟨at_, rfl⟩ := Int.eq_ofNat_of_zero_le r0
  have at2 : at_ ≤ 2 := by omega
  have D := D at_ at2
  refine ⟨by show 1 ≤ sizeLine; decide, fun l1 hl1 => .inr (.inl ⟨l1, 4, [.int 0], rfl, rfl, upd_same, by decide, by decide, by decide, fun ap hap0 => ⟨_, _, rfl, ?_⟩⟩)⟩
  have BL := B2.new (o := .lst [.int 0]) hl1
  have nap := BL.out hap0
  dsimp only
  -- arities[f], arities[g] = 1, 3
  refine seq_cut (fun σ H' => ∃ (zs : List V), σ = [some (.ref b), none, none, none, none, none, some (.int (xa : Nat)), some (.int (xb : Nat)), some (.int (xf : Nat)), some (.int (xg : Nat)), some (.int (at_ : Nat)), some (.ref ap), none, none, none, none, none, none, none] ∧ Bag H' b cl ∧ H' ap = some (.lst zs) ∧ zs.length = 4) (fun Z hZ => ?_) ?_
  · have hf := D.hf
    have hg := D.hg
    refine ⟨by show 2 ≤ sizeLine; decide, fun tp htp => ?_⟩
    have ntp : tp ≠ ap := fun e => by
      rw [e, upd_same] at htp
      cases htp
    refine ⟨tp, [.int 1, .int 3], rfl, SqT.of upd_same, rfl, _, _, rfl, _, rfl, _, rfl, ap, [.int 0, .int 0, .int 0, .int 0], (xf : Nat), xf, rfl, rfl, (upd_ne (Ne.symm ntp)).trans upd_same, ixN_int (by omega) (by show (xf : Int) < 4; omega), ?_⟩
    refine ⟨_, _, rfl, _, rfl, _, rfl, ap, _, (xg : Nat), xg, rfl, rfl, upd_same, ixN_int (by omega) (by rw [List.length_set]; show (xg : Int) < 4; omega), rfl, ?_⟩
    refine hZ _ _ ⟨_, rfl, ?_, upd_same, by simp⟩
    exact (((BL.new hap0).new htp).upd' BL hap0).upd' BL hap0
  rintro _ H3 ⟨zs, rfl, B3, hap, lz⟩
  -- inner
  refine seq_cut (fun σ H' => ∃ (ia : Addr), σ = [some (.ref b), some (.ref ia), none, none, none, none, some (.int (xa : Nat)), some (.int (xb : Nat)), some (.int (xf : Nat)), some (.int (xg : Nat)), some (.int (at_ : Nat)), some (.ref ap), none, none, none, none, none, none, none] ∧ Same H3 H' ∧ SqT K H' ia ((innW at_ 0 1).map fun i : Nat => V.int (i : Int))) (fun Z hZ => ?_) ?_
  · refine ⟨by show 1 ≤ sizeLine; decide, fun p1 hp1 => ⟨_, rfl, mulT (SqT.of upd_same) rfl (by omega) fun p2 Ha s1 w1 => ⟨by show 1 ≤ sizeLine; decide, fun p3 hp3 => catT ((Tps.new hp3) _ _ w1) (SqT.of upd_same) (by simp; omega) fun p4 Hb s4 w4 => ⟨by show 1 ≤ sizeLine; decide, fun p5 hp5 => ⟨_, rfl, ⟨_, _, rfl, rfl, mulT (SqT.of upd_same) (k := 2 - at_) (by omega) (by omega) fun p6 Hc s6 w6 => catT ((Tps.same s6) _ _ ((Tps.new hp5) _ _ w4)) w6 (by simp; omega) fun p7 Hd s7 w7 => ?_⟩⟩⟩⟩⟩⟩
    refine hZ _ _ ⟨p7, rfl, (((((Fr.new (M := []) hp1).same.trans s1).trans (Fr.new (M := []) hp3).same).trans s4).trans (Fr.new (M := []) hp5).same).trans (s6.trans s7), ?_⟩
    unfold innW
    simpa using w7
  rintro _ H4 ⟨ia, rfl, s4, hia⟩
  have B4 := B3.same s4
  have hap4 := s4 _ _ hap
  -- table
  refine seq_cut (fun σ H' => ∃ (ta : Addr) (Tb : List Row) (es : List Nat), σ = [some (.ref b), some (.ref ia), some (.ref ta), none, none, none, some (.int (xa : Nat)), some (.int (xb : Nat)), some (.int (xf : Nat)), some (.int (xg : Nat)), some (.int (at_ : Nat)), some (.ref ap), none, none, none, none, none, none, none] ∧ Same H4 H' ∧ Dp K H' (.ref ta) (tabD Tb) ∧ TabG (fun s => if s = xf then 1 else if s = xg then 3 else 0) Tb es.length ∧ TabW Tb xa xb xf xg at_ (es.idxOf 0) (es.idxOf 1) (es.idxOf 2) ∧ es.idxOf 2 < es.length) (fun Z hZ => ?_) ?_
  · have mk : ∀ {Hx : Hp} {q r : Addr} {s c : Nat} {is : List Nat}, SqT K Hx q (is.map fun i : Nat => V.int (i : Int)) → Hx r = none → ∃ Hy, upd Hx r (.tup [.int (s : Nat), .ref q, .int (c : Nat)]) = Hy ∧ Same Hx Hy ∧ Dp K Hy (.ref r) (rowD ⟨s, is, c⟩) := fun {Hx q r s c is} h1 h2 => ⟨_, rfl, (Fr.new (M := []) h2).same, row_made ((Tps.new h2) _ _ h1) (SqT.of upd_same)⟩
    refine ⟨_, rfl, Nat.zero_le _, fun q1 h1 => ⟨by show 3 ≤ sizeLine; decide, fun r1 k1 => ?_⟩⟩
    obtain ⟨Ha, ea, sa, da⟩ := mk (s := xa) (c := 0) (is := []) (SqT.of upd_same) k1
    have sa := (Fr.new (M := []) (o := .tup []) h1).same.trans sa
    rw [show upd (upd H4 q1 (.tup [])) r1 (.tup [.int (xa : Nat), .ref q1, .int 0]) = Ha from ea]
    refine ⟨_, rfl, Nat.zero_le _, fun q2 h2 => ⟨by show 3 ≤ sizeLine; decide, fun r2 k2 => ?_⟩⟩
    obtain ⟨Hb, eb, sb, db⟩ := mk (s := xb) (c := 1) (is := []) (SqT.of upd_same) k2
    have sb := (Fr.new (M := []) (o := .tup []) h2).same.trans sb
    rw [show upd (upd Ha q2 (.tup [])) r2 (.tup [.int (xb : Nat), .ref q2, .int 1]) = Hb from eb]
    refine ⟨_, rfl, by show 1 ≤ sizeLine; decide, fun q3 h3 => ⟨by show 3 ≤ sizeLine; decide, fun r3 k3 => ?_⟩⟩
    obtain ⟨Hc, ec, sc, dc⟩ := mk (s := xf) (c := 0) (is := [0]) (SqT.of upd_same) k3
    have sc := (Fr.new (M := []) (o := .tup [.int 0]) h3).same.trans sc
    rw [show upd (upd Hb q3 (.tup [.int 0])) r3 (.tup [.int (xf : Nat), .ref q3, .int 0]) = Hc from ec]
    refine ⟨_, rfl, _, rfl, by show 3 ≤ sizeLine; decide, fun r4 k4 => ?_⟩
    obtain ⟨Hd, ed, sd, dd⟩ := mk (s := xg) (c := 2) (is := innW at_ 0 1) ((Tps.same ((sa.trans sb).trans sc)) _ _ hia) k4
    rw [show upd Hc r4 (.tup [.int (xg : Nat), .ref ia, .int 2]) = Hd from ed]
    refine ⟨by show 4 ≤ sizeLine; decide, fun lp hlp => ?_⟩
    have se := (Fr.new (M := []) (o := .lst [.ref r1, .ref r2, .ref r3, .ref r4]) hlp).same
    have tt : ∀ {Hx Hy : Hp} {r : Addr} {R : Row}, Same Hx Hy → Dp K Hx (.ref r) (rowD R) → Dp K Hy (.ref r) (rowD R) := fun s d => Dp.tps (Tps.same s) _ _ (rowD_flat _) d
    refine ⟨lp, [.ref r1, .ref r2, .ref r3, .ref r4], rowsW xa xb xf xg at_, _, rfl, upd_same, .cons (tt (((sb.trans sc).trans sd).trans se) da) (.cons (tt ((sc.trans sd).trans se) db) (.cons (tt (sd.trans se) dc) (.cons (tt se dd) .nil))), rowsW_ok D, fun tp Tb es Bs H' s' dt X => ?_⟩
    obtain ⟨W, hlt⟩ := tabW_of D X
    exact hZ _ _ ⟨tp, Tb, es, rfl, ((((sa.trans sb).trans sc).trans sd).trans se).trans s', dt, X.good (rowsW_ok D) (rowsW_bnd at2), W, hlt⟩
  rintro _ H5 ⟨ta, Tb, es, rfl, s5, dt, G, W, hlt⟩
  generalize es.idxOf 0 = x at W
  generalize es.idxOf 1 = y at W
  generalize es.idxOf 2 = z at W hlt
  generalize es.length = n at G hlt
  have B5 := B4.same s5
  have hap5 := s5 _ _ hap4
  have lT := G.len
  -- costs
  refine seq_cut (fun σ H' => ∃ (cp : Addr) (cs : List Int), σ = [some (.ref b), some (.ref ia), some (.ref ta), some (.ref cp), none, none, some (.int (xa : Nat)), some (.int (xb : Nat)), some (.int (xf : Nat)), some (.int (xg : Nat)), some (.int (at_ : Nat)), some (.ref ap), none, none, none, none, none, none, none] ∧ Fr [b, cl] H5 H' ∧ Bag H' b cl ∧ H5 cp = none ∧ H' cp = some (.lst (cs.map V.int)) ∧ cs.length = 4 ∧ ∀ x ∈ cs, 1 ≤ x) (fun Z hZ => ?_) ?_
  · refine ⟨_, rfl, ap, rfl, ⟨_, SqL.of hap5⟩, fun D hD => ?_⟩
    refine lcM (walk_list (xs := zs)) [b, cl] hD (fun i acc H' => ∃ cs : List Int, acc = cs.map V.int ∧ (∀ x ∈ cs, 1 ≤ x) ∧ cs.length = i ∧ Bag H' b cl) ⟨[], rfl, (fun x hx => by cases hx), rfl, B5.new hD⟩ (fun i acc H' fr _ => SqL.of (fr _ _ hap5 nap)) ?_ ?_
    · rintro i v acc H6 H7 Nx hN hi fr e ⟨cs, rfl, c1, c2, B6⟩ ⟨rfl, hv⟩
      have hil := (List.getElem?_eq_some_iff.mp hv).1
      refine ⟨rfl, ?_⟩
      refine ⟨_, rfl, b, cl, 3, rfl, B6, by decide, by decide, fun r H8 r0 r1 B8 fr8 => .inl ⟨_, _, rfl, rfl, ?_⟩⟩
      refine ⟨_, fr8 _ _ e (B5.out hD), small_line (by simp; omega), hN _ _ upd_same ((fr.trans fr8).put (.inl hD)) ⟨cs ++ [1 + r], by simp, ?_, by simp [c2], B8.upd' B5 hD⟩⟩
      intro x hx
      rcases List.mem_append.mp hx with h | h
      · exact c1 x h
      · rw [List.mem_singleton.mp h]
        omega
    · rintro acc H6 fr e ⟨cs, rfl, c1, c2, B6⟩
      exact hZ _ _ ⟨D, cs, rfl, fr, B6, hD, e, by omega, c1⟩
  rintro _ H6 ⟨cp, cs, rfl, f6, B6, cp0, hcp, lc, hc1⟩
  have hb := D.hb
  have dt6 := Dp.tps (f6.tps B5.mut) _ _ (tabD_flat Tb) dt
  -- costs[b] = ..
  refine seq_cut (fun σ H' => ∃ (cs : List Int), σ = [some (.ref b), some (.ref ia), some (.ref ta), some (.ref cp), none, none, some (.int (xa : Nat)), some (.int (xb : Nat)), some (.int (xf : Nat)), some (.int (xg : Nat)), some (.int (at_ : Nat)), some (.ref ap), none, none, none, none, none, none, none] ∧ Bag H' b cl ∧ Dp K H' (.ref ta) (tabD Tb) ∧ H' cp = some (.lst (cs.map V.int)) ∧ cs.length = 4 ∧ ∀ x ∈ cs, 1 ≤ x) (fun Z hZ => ?_) ?_
  · refine ⟨_, rfl, _, rfl, b, cl, 1000, rfl, B6, by decide, by decide, fun d Ha d0 d1 Ba fa => .inl ⟨_, _, rfl, rfl, by show 3 ≤ sizeLine; decide, fun lp hlp => ⟨b, cl, lp, [.int 1, .int 1000, .int (1 + d)], rfl, Ba.new hlp, upd_same, Ba.out hlp, by simp, by simp, fun yv Hb hy Bb fb => ?_⟩⟩⟩
    have hy' : ∃ v : Int, yv = .int v ∧ 1 ≤ v := by
      simp only [List.mem_cons, List.not_mem_nil, or_false] at hy
      rcases hy with rfl | rfl | rfl <;> exact ⟨_, rfl, by omega⟩
    obtain ⟨v, rfl, v1⟩ := hy'
    have fx := (fa.trans (Fr.new (o := .lst [.int 1, .int 1000, .int (1 + d)]) hlp)).trans fb
    have ncp := B5.out cp0
    have hcpb := fx _ _ hcp ncp
    refine ⟨_, rfl, _, rfl, cp, _, (xb : Nat), xb, rfl, rfl, hcpb, ixN_int (by omega) (by simp; omega), ?_⟩
    rw [map_setI]
    refine hZ _ _ ⟨cs.set xb v, rfl, Bb.upd' B5 cp0, Dp.tps ((fx.tps B6.mut).trans (.mut hcpb trivial)) _ _ (tabD_flat Tb) dt6, upd_same, by rw [List.length_set, lc], fun q hq => ?_⟩
    rcases List.mem_or_eq_of_mem_set hq with h | h
    · exact hc1 q h
    · rw [h]
      exact v1
  clear dt6 hcp lc hc1 dt
  rintro _ H7 ⟨cs, rfl, B7, dt, hcp, lc, hc1⟩
  obtain ⟨a', xs, ea, hta, dx⟩ := Dp.tupOf dt
  cases ea
  have lxT : xs.length = Tb.length := by rw [DpAll.len dx, List.length_map]
  -- number, due, term
  refine seq_cut (fun σ H' => ∃ (dp : Addr) (v : V), σ = [some (.ref b), some (.ref ia), some (.ref ta), some (.ref cp), none, none, some (.int (xa : Nat)), some (.int (xb : Nat)), some (.int (xf : Nat)), some (.int (xg : Nat)), some (.int (at_ : Nat)), some (.ref ap), some (.int (z : Nat)), some (.ref dp), some v, none, none, none, none] ∧ Same H7 H' ∧ H7 dp = none ∧ H' dp = some (.lst []) ∧ Dp K H' v (tmD (twrW xf xa 0))) (fun Z hZ => ?_) ?_
  · refine ⟨_, rfl, ta, rfl, ⟨_, hta⟩, fun D2 hD => ?_⟩
    refine lcM (walk_tup (xs := xs)) [] hD (fun i acc H' => acc = ((Tb.take i).filter fun r => decide (r.s = xg)).map fun r => V.int (r.c : Nat)) rfl (fun i acc H' fr _ => (Tps.same fr.same) _ _ hta) ?_ ?_
    · rintro j v acc Hz Ha Nx hN hj fr e rfl ⟨rfl, hv⟩
      obtain ⟨dd, ed, dr⟩ := DpAll.get' (DpAll.tps (Tps.same fr.same) _ _ (flatDs_all _ _ rowD_flat) dx) hv
      rw [List.getElem?_map] at ed
      obtain ⟨r, er, rfl⟩ := Option.map_eq_some_iff.mp ed
      obtain ⟨ra, ia, rfl, h1, h2⟩ := Dp.row dr
      refine ⟨rfl, ?_⟩
      refine ⟨_, rfl, ra, _, 0, _, rfl, rfl, .inr h1, rfl, _, rfl, .inl ⟨rfl, _, rfl, ?_⟩⟩
      refine dec_b (fun h => ?_) (fun h => ?_)
      · have h := vint_inj h
        have e1 : r.s = xg := by omega
        refine ⟨_, rfl, ra, _, 2, _, rfl, rfl, .inr h1, rfl, _, e, small_line (by have := List.length_filter_le (fun r => decide (r.s = xg)) (Tb.take j); rw [List.length_map]; rw [List.length_take] at this; omega), hN _ _ upd_same (fr.put (.inl hD)) ?_⟩
        rw [take_get er, List.filter_append, List.map_append]
        simp [e1]
      · refine hN _ _ e fr ?_
        have e1 : ¬ r.s = xg := fun q => h (by rw [q])
        rw [take_get er, List.filter_append, List.map_append]
        simp [e1]
    · rintro acc Ha fr e rfl
      rw [lxT, List.take_of_length_le (Nat.le_refl _)] at e
      have ef : (Tb.filter fun r => decide (r.s = xg)) = [⟨xg, innW at_ x y, z⟩] := by
        have pf := W.pm.filter (fun r => decide (r.s = xg))
        have : List.filter (fun r : Row => decide (r.s = xg)) [⟨xa, [], x⟩, ⟨xb, [], y⟩, ⟨xf, [x], x⟩, ⟨xg, innW at_ x y, z⟩] = [⟨xg, innW at_ x y, z⟩] := by
          simp [D.ag, D.bg, D.fg]
        rw [this] at pf
        exact List.perm_singleton.mp pf
      rw [ef] at e
      refine ⟨D2, _, 0, _, rfl, rfl, .inl (SqL.of e), rfl, Nat.zero_le _, fun dp hdp => ⟨_, rfl, by show 1 ≤ sizeLine; decide, fun tp htp => ⟨_, _, _, rfl, ?_⟩⟩⟩
      have q1 := (Fr.new (M := []) (o := .lst []) hdp).same
      have q2 := (Fr.new (M := []) (o := .tup [.int (xa : Nat)]) htp).same
      exact hZ _ _ ⟨dp, .ref tp, rfl, (fr.same.trans q1).trans q2, fr.same.free hdp, q2 _ _ upd_same, plain_made (SqT.of upd_same)⟩
  rintro _ H8 ⟨dp, v0, rfl, s8, dp0, hdp, dv0⟩
  have B8 := B7.same s8
  have hcp8 := s8 _ _ hcp
  have dt8 := Dp.tps (Tps.same s8) _ _ (tabD_flat Tb) dt
  have ndp := B7.out dp0
  have ncd : cp ≠ dp := fun e => by
    rw [e, dp0] at hcp
    cases hcp
  -- the due terms
  refine seq_cut (fun σ H' => ∃ (v4 v14 : Option V) (ds : List V), σ = [some (.ref b), some (.ref ia), some (.ref ta), some (.ref cp), v4, none, some (.int (xa : Nat)), some (.int (xb : Nat)), some (.int (xf : Nat)), some (.int (xg : Nat)), some (.int (at_ : Nat)), some (.ref ap), some (.int (z : Nat)), some (.ref dp), v14, none, none, none, none] ∧ Bag H' b cl ∧ Dp K H' (.ref ta) (tabD Tb) ∧ H' cp = some (.lst (cs.map V.int)) ∧ H' dp = some (.lst ds) ∧ DpAll K H' ds ((dueW xa xb xf xg at_ 20).map tmD)) (fun Z hZ => ?_) ?_
  · refine ⟨_, rfl, by decide, by decide, ?_⟩
    refine for_it (D := { nx := Z, rt := Q }) (walk_range (lo := 0) (n := (20 : Int).toNat)) (fun i σ H' => ∃ (v4 : Option V) (v14 : V) (ds : List V), σ = [some (.ref b), some (.ref ia), some (.ref ta), some (.ref cp), v4, none, some (.int (xa : Nat)), some (.int (xb : Nat)), some (.int (xf : Nat)), some (.int (xg : Nat)), some (.int (at_ : Nat)), some (.ref ap), some (.int (z : Nat)), some (.ref dp), some v14, none, none, none, none] ∧ Bag H' b cl ∧ Dp K H' (.ref ta) (tabD Tb) ∧ H' cp = some (.lst (cs.map V.int)) ∧ H' dp = some (.lst ds) ∧ DpAll K H' ds ((dueW xa xb xf xg at_ i).map tmD) ∧ Dp K H' v14 (tmD (twrW xf xa i)))
      ⟨_, v0, [], rfl, B8, dt8, hcp8, hdp, .nil, dv0⟩ (fun _ _ _ _ _ => trivial) ?_ ?_
    · rintro i x1 _ Hz Ha hi ⟨v4, v14, ds, rfl, Ba, dta, hca, hda, dds, dva⟩ ⟨rfl, rfl⟩
      dsimp only [gName]
      have lds : ds.length = i := by rw [DpAll.len dds, List.length_map, dueW, List.length_map, List.length_range]
      refine ⟨_, rfl, .inl ⟨rfl, _, SqL.of hda⟩, ?_⟩
      refine ⟨_, rfl, by show 1 ≤ sizeLine; decide, fun p1 hp1 => ⟨_, rfl, by show 1 ≤ sizeLine; decide, fun p2 hp2 => ⟨by show 1 ≤ sizeLine; decide, fun p3 hp3 => ⟨_, rfl, mulT (SqT.of upd_same) rfl (by omega) fun p4 Hb s4 w4 => ?_⟩⟩⟩⟩
      have q1 := (Fr.new (M := []) (o := .tup [.int (xg : Nat)]) hp1).same
      have q2 := (Fr.new (M := []) (o := .tup [.int (xb : Nat)]) hp2).same
      have q3 := (Fr.new (M := []) (o := .tup [.ref p2]) hp3).same
      have w1 := (Tps.same (K := K) ((q2.trans q3).trans s4)) _ _ (SqT.of upd_same)
      have d2 := Dp.tps (Tps.same (q3.trans s4)) _ _ (tmD_flat _) (plain_made (K := K) (s := xb) (SqT.of upd_same))
      have sb := ((q1.trans q2).trans q3).trans s4
      clear q1 q2 q3 s4
      refine catT w1 w4 (by simp; omega) fun p5 Hc s5 w5 => ?_
      have d2 := Dp.tps (Tps.same s5) _ _ (tmD_flat _) d2
      have sc := sb.trans s5
      refine ⟨_, rfl, by show 1 ≤ sizeLine; decide, fun p6 hp6 => catT ((Tps.new hp6) _ _ w5) (SqT.of upd_same) (by simp; omega) fun p7 Hd s7 w7 => ?_⟩
      have d2 := Dp.tps ((Tps.new hp6).trans (Tps.same s7)) _ _ (tmD_flat _) d2
      have sd := (sc.trans (Fr.new (M := []) (o := .tup [v14]) hp6).same).trans s7
      refine ⟨_, rfl, by show 1 ≤ sizeLine; decide, fun p8 hp8 => ⟨by show 1 ≤ sizeLine; decide, fun p9 hp9 => ⟨_, rfl, ⟨_, _, rfl, rfl, mulT (SqT.of upd_same) (k := 2 - at_) (by omega) (by omega) fun p10 He s10 w10 => ?_⟩⟩⟩⟩
      have q8 := (Fr.new (M := []) (o := .tup [.int (xb : Nat)]) hp8).same
      have q9 := (Fr.new (M := []) (o := .tup [.ref p8]) hp9).same
      have d8 := Dp.tps (Tps.same (q9.trans s10)) _ _ (tmD_flat _) (plain_made (K := K) (s := xb) (SqT.of upd_same))
      have t8 := Tps.same (K := K) ((q8.trans q9).trans s10)
      have d2 := Dp.tps t8 _ _ (tmD_flat _) d2
      have se := sd.trans ((q8.trans q9).trans s10)
      refine catT (t8 _ _ w7) w10 (by simp; omega) fun p11 Hf s11 w11 => ?_
      have d2 := Dp.tps (Tps.same s11) _ _ (tmD_flat _) d2
      have d8 := Dp.tps (Tps.same s11) _ _ (tmD_flat _) d8
      have sf := se.trans s11
      have dm := tmW_made (g := xg) at2 w11 d2 d8 (Dp.tps (Tps.same sf) _ _ (tmD_flat _) dva)
      have hdf := sf _ _ hda
      have tm := Tps.mut (K := K) (o := .lst (ds ++ [.ref p11])) hdf trivial
      refine ⟨dp, ds, _, rfl, rfl, hdf, small_line (by omega), ?_⟩
      dsimp only
      refine ⟨_, rfl, _, rfl, by show 2 ≤ sizeLine; decide, fun p12 hp12 => ?_⟩
      have s12 := (Fr.new (M := []) (o := .tup [.int (xf : Nat), v14]) hp12).same
      refine ⟨_, .ref p12, ds ++ [.ref p11], rfl, ((Ba.same sf).upd' B7 dp0).same s12, Dp.tps (((Tps.same sf).trans tm).trans (Tps.same s12)) _ _ (tabD_flat Tb) dta, s12 _ _ ((upd_ne ncd).trans (sf _ _ hca)), s12 _ _ upd_same, ?_, ?_⟩
      · have : (dueW xa xb xf xg at_ (i + 1)).map tmD = (dueW xa xb xf xg at_ i).map tmD ++ [tmD (tmW xa xb xf xg at_ i)] := by
          unfold dueW
          rw [List.range_succ, List.map_append, List.map_append]
          rfl
        rw [this]
        have tz := (tm).trans (Tps.same (K := K) s12)
        exact DpAll.app (DpAll.tps ((Tps.same sf).trans tz) _ _ (flatDs_all _ _ tmD_flat) dds) (.cons (Dp.tps tz _ _ (tmD_flat _) dm) .nil)
      · exact step_made (SqT.of upd_same) (Dp.tps (((Tps.same sf).trans tm).trans (Tps.same s12)) _ _ (tmD_flat _) dva)
    · rintro _ Ha ⟨v4, v14, ds, rfl, Ba, dta, hca, hda, dds, dva⟩
      exact hZ _ _ ⟨_, _, ds, rfl, Ba, dta, hca, hda, dds⟩
  clear dt dt8 hcp hcp8 hdp dv0 dx hta
  rintro _ H9 ⟨v4, v14, ds, rfl, B9, dt, hcp, hdp, dds⟩
  have pos := coOf_pos (cs := cs) hc1
  have wd20 := W.wd at2
  have hco : CoOk cs (coOf cs) Tb := coOf_ok hc1 fun r hr => by
    rw [lc]
    have ha := D.ha
    have hb := D.hb
    have hf := D.hf
    have hg := D.hg
    rcases W.mem.mp hr with rfl | rfl | rfl | rfl <;> dsimp only <;> omega
  have wd1 : wid 1 Tb ≤ 10000 := by have := wid_one G; omega
  have same : ∀ {m : Nat} {l : List Tm}, m ≤ 20 → FP Tb big40 (coOf cs) m z l → l = dueW xa xb xf xg at_ m := fun {m l} hm FPl => all2_eq (FP.same (ar := fun s => if s = xf then 1 else if s = xg then 3 else 0) G.a3 FPl ((W.fp at2 pos m).less fun _ h => False.elim h)) (dueW_size at2 hm)
  have tk : ∀ {m : Nat}, m ≤ 20 → (dueW xa xb xf xg at_ 20).take m = dueW xa xb xf xg at_ m := fun {m} hm => by
    unfold dueW
    rw [← List.map_take, List.take_range, Nat.min_eq_left hm]
  -- for many in ..
  refine seq_cut (fun σ H' => ∃ (v5 v15 v17 : Option V), σ = [some (.ref b), some (.ref ia), some (.ref ta), some (.ref cp), v4, v5, some (.int (xa : Nat)), some (.int (xb : Nat)), some (.int (xf : Nat)), some (.int (xg : Nat)), some (.int (at_ : Nat)), some (.ref ap), some (.int (z : Nat)), some (.ref dp), v14, v15, none, v17, none] ∧ Bag H' b cl ∧ Dp K H' (.ref ta) (tabD Tb) ∧ H' cp = some (.lst (cs.map V.int)) ∧ H' dp = some (.lst ds) ∧ DpAll K H' ds ((dueW xa xb xf xg at_ 20).map tmD)) (fun Z hZ => ?_) ?_
  · refine ⟨_, rfl, b, cl, 20, rfl, B9, by decide, by decide, fun d Ha d0 d1 Ba fa => .inl ⟨_, _, rfl, rfl, by show 2 ≤ sizeLine; decide, fun lp hlp => ?_⟩⟩
    have ncp := B5.out cp0
    have fb := fa.trans (Fr.new (o := .lst [.int 20, .int (1 + d)]) hlp)
    have Bb := Ba.new (o := .lst [.int 20, .int (1 + d)]) hlp
    have hlb : upd Ha lp (.lst [.int 20, .int (1 + d)]) lp = some (.lst [.int 20, .int (1 + d)]) := upd_same
    generalize upd Ha lp (.lst [.int 20, .int (1 + d)]) = Hb at fb Bb hlb
    have hcb := fb _ _ hcp ncp
    have hdb := fb _ _ hdp ndp
    have tb := fb.tps (K := K) B9.mut
    have dtb := Dp.tps tb _ _ (tabD_flat Tb) dt
    have ddb := DpAll.tps tb _ _ (flatDs_all _ _ tmD_flat) dds
    refine ⟨lp, rfl, ⟨_, SqL.of hlb⟩, ?_⟩
    refine for_it (D := { nx := Z, rt := Q }) (walk_list (xs := [.int 20, .int (1 + d)])) (fun i σ H' => ∃ (v5 v15 v17 : Option V), σ = [some (.ref b), some (.ref ia), some (.ref ta), some (.ref cp), v4, v5, some (.int (xa : Nat)), some (.int (xb : Nat)), some (.int (xf : Nat)), some (.int (xg : Nat)), some (.int (at_ : Nat)), some (.ref ap), some (.int (z : Nat)), some (.ref dp), v14, v15, none, v17, none] ∧ Same Hb H')
      ⟨_, _, _, rfl, fun _ _ h => h⟩ (fun i σ H' _ ⟨_, _, _, _, s'⟩ => SqL.of (s' _ _ hlb)) ?_ ?_
    · rintro i v _ Hz Hc hi ⟨v5, v15, v17, rfl, sc⟩ ⟨rfl, hv⟩
      have hm : ∃ m : Nat, v = .int (m : Nat) ∧ 1 ≤ m ∧ m ≤ 20 := by
        have := List.mem_of_getElem? hv
        simp only [List.mem_cons, List.not_mem_nil, or_false] at this
        rcases this with rfl | rfl
        · exact ⟨20, rfl, by decide, by decide⟩
        · exact ⟨(1 + d).toNat, by rw [Int.toNat_of_nonneg (by omega)], by omega, by omega⟩
      obtain ⟨m, rfl, m1, m2⟩ := hm
      dsimp only [gName]
      refine ⟨by show 2 ≤ sizeLine; decide, fun tp htp => ?_⟩
      have sd := sc.trans (Fr.new (M := []) (o := .tup [.bl false, .bl true]) htp).same
      have htd : upd Hc tp (.tup [.bl false, .bl true]) tp = some (.tup [.bl false, .bl true]) := upd_same
      generalize upd Hc tp (.tup [.bl false, .bl true]) = Hd at sd htd
      refine ⟨tp, rfl, ⟨_, SqT.of htd⟩, ?_⟩
      refine for_it (walk_tup (xs := [.bl false, .bl true])) (fun i σ H' => ∃ (v15 v17 : Option V), σ = [some (.ref b), some (.ref ia), some (.ref ta), some (.ref cp), v4, some (.int (m : Nat)), some (.int (xa : Nat)), some (.int (xb : Nat)), some (.int (xf : Nat)), some (.int (xg : Nat)), some (.int (at_ : Nat)), some (.ref ap), some (.int (z : Nat)), some (.ref dp), v14, v15, none, v17, none] ∧ Same Hd H')
        ⟨_, _, rfl, fun _ _ h => h⟩ (fun i σ H' _ ⟨_, _, _, s'⟩ => (Tps.same s') _ _ (SqT.of htd)) ?_ ?_
      · rintro j v _ Hy He hj ⟨v15, v17, rfl, se⟩ ⟨rfl, hv⟩
        have hm : ∃ nm : Bool, v = .bl nm := by
          have := List.mem_of_getElem? hv
          simp only [List.mem_cons, List.not_mem_nil, or_false] at this
          rcases this with rfl | rfl <;> exact ⟨_, rfl⟩
        obtain ⟨nm, rfl⟩ := hm
        have sbe := sd.trans se
        dsimp only [gName]
        refine ⟨_, rfl, _, rfl, cp, _, rfl, .inl ⟨SqL.of (sbe _ _ hcb), fun t ht => ⟨_, rfl, _, rfl, _, rfl, ?_⟩⟩⟩
        have sf := sbe.trans (Fr.new (M := []) (o := .tup (cs.map V.int)) ht).same
        have sde := se.trans (Fr.new (M := []) (o := .tup (cs.map V.int)) ht).same
        refine ⟨ta, t, Tb, n, m, _, cs, coOf cs, z, nm, rfl, Dp.tps (Tps.same sf) _ _ (tabD_flat Tb) dtb, G, SqT.of upd_same, hco, pos, m2, Nat.le_trans (wid_mono m2) wd20, wd1, hlt, fun l FPl v17' Hf s' dv => ?_⟩
        rw [Nat.max_eq_right m1] at FPl
        obtain rfl := same m2 FPl
        have sf := sf.trans s'
        dsimp only [gName]
        refine ⟨_, rfl, _, rfl, _, rfl, _, rfl, dp, ds, rfl, SqL.of (sf _ _ hdb), fun p1 hp1 => ⟨p1, _, rfl, .inl ⟨SqL.of upd_same, fun p2 hp2 => ⟨by show 2 ≤ sizeLine; decide, fun p3 hp3 => ?_⟩⟩⟩⟩
        rw [cutV_to] at hp2 hp3 ⊢
        have q1 := (Fr.new (M := []) (o := .lst (ds.take m)) hp1).same
        have q2 := (Fr.new (M := []) (o := .tup (ds.take m)) hp2).same
        have q3 := (Fr.new (M := []) (o := .tup [.str "told", .ref p2]) hp3).same
        have sy := (q1.trans q2).trans q3
        refine ⟨v17', .ref p3, dueD (dueW xa xb xf xg at_ m), rfl, Dp.tps (Tps.same sy) _ _ (dueD_flat _) dv, ?_, dueD_flat _, dueD_wd (by simp [dueW]; omega), Nat.lt_succ_of_le dueD_depth, fun Hg s'' => ?_⟩
        · rw [dueW_told at2 m2]
          refine .tup (SqT.of upd_same) (.cons (.str _) (.cons (.tup ((Tps.same q3) _ _ (SqT.of upd_same)) ?_) .nil))
          rw [← tk m2, List.map_take]
          exact DpAll.takeN _ (DpAll.tps (Tps.same (sf.trans sy)) _ _ (flatDs_all _ _ tmD_flat) ddb)
        · refine ⟨_, rfl, iteF ⟨_, _, rfl, ((sde.trans s').trans sy).trans s''⟩⟩
      · rintro _ He ⟨v15, v17, rfl, se⟩
        exact ⟨_, _, _, rfl, sd.trans se⟩
    · rintro _ Hc ⟨v5, v15, v17, rfl, sc⟩
      exact hZ _ _ ⟨_, _, _, rfl, Bb.same sc, Dp.tps (Tps.same sc) _ _ (tabD_flat Tb) dtb, sc _ _ hcb, sc _ _ hdb, DpAll.tps (Tps.same sc) _ _ (flatDs_all _ _ tmD_flat) ddb⟩
  rintro _ Ha ⟨v5, v15, v17, rfl, Ba, dta, hca, hda, dda⟩
  refine ⟨_, rfl, _, rfl, cp, _, rfl, .inl ⟨SqL.of hca, fun t ht => ⟨_, rfl, ?_⟩⟩⟩
  have sb := (Fr.new (M := []) (o := .tup (cs.map V.int)) ht).same
  refine ⟨ta, t, Tb, n, 0, _, cs, coOf cs, z, false, rfl, Dp.tps (Tps.same sb) _ _ (tabD_flat Tb) dta, G, SqT.of upd_same, hco, pos, by decide, Nat.le_trans (wid_mono (by decide)) wd20, wd1, hlt, fun l FPl v Hb s' dv => ?_⟩
  obtain rfl := same (by decide) FPl
  have sf := sb.trans s'
  have ed : ∃ y ys, ds = y :: ys ∧ Dp K Hb y (tmD (tmW xa xb xf xg at_ 0)) := by
    have d2 := DpAll.tps (Tps.same sf) _ _ (flatDs_all _ _ tmD_flat) dda
    have : (dueW xa xb xf xg at_ 20).map tmD = tmD (tmW xa xb xf xg at_ 0) :: ((List.range 19).map fun i => tmD (tmW xa xb xf xg at_ (i + 1))) := by
      unfold dueW
      rw [List.range_succ_eq_map, List.map_cons, List.map_cons, List.map_map, List.map_map]
      rfl
    rw [this] at d2
    cases d2 with
    | cons h1 h2 => exact ⟨_, _, rfl, h1⟩
  obtain ⟨y, ys, rfl, dy⟩ := ed
  refine ⟨_, rfl, dp, _, 0, _, rfl, rfl, .inl (SqL.of (sf _ _ hda)), atI0, by show 1 ≤ sizeLine; decide, fun p2 hp2 => ⟨by show 2 ≤ sizeLine; decide, fun p3 hp3 => ?_⟩⟩
  have q2 := (Fr.new (M := []) (o := .tup [y]) hp2).same
  have q3 := (Fr.new (M := []) (o := .tup [.str "told", .ref p2]) hp3).same
  refine ⟨v, .ref p3, dueD (dueW xa xb xf xg at_ 1), rfl, Dp.tps (Tps.same (q2.trans q3)) _ _ (dueD_flat _) dv, ?_, dueD_flat _, dueD_wd (by simp [dueW]), Nat.lt_succ_of_le dueD_depth, fun Hg s'' => ?_⟩
  · rw [dueW_told at2 (by decide)]
    exact .tup (SqT.of upd_same) (.cons (.str _) (.cons (.tup ((Tps.same q3) _ _ (SqT.of upd_same)) (.cons (Dp.tps (Tps.same (q2.trans q3)) _ _ (tmD_flat _) dy) .nil)) .nil))
  · exact k _ (Ba.same ((sf.trans (q2.trans q3)).trans s''))
end
end R59
/-! KA -/
set_option maxHeartbeats 1000000
/-! the law's own call, at the caller alone (its repr needs to know that no other repr is under way) -/
namespace R59
open PySem PySem.Spec PyProof.Rows L2
/-- the law's def keeps its promise where the caller calls it -/
def LawRun (P : Program) (w : World) (K : PySem.W.Frag) (mg : Str → Option Value) (base : Heap) (CX : CXT) (fa : Addr) (sp : Sp) : Prop :=
  ∀ (s : Shared) (H : Hp) (a : Addr) (Q : VK) (E : XK), Env0 P w K mg base callerA [] s H → sp [.ref a] H Q E → codeAny (model P w) callerA (.call (.ref fa) ⟨[.ref a], []⟩) (CR CX [] P w H s Q E) s
section
variable {CX : CXT} {P : Program} {w : World} {K : PySem.W.Frag} {mg : Str → Option Value} {base : Heap}
theorem law_run {k : Nat} {f : Addr} {fd : FuncData} {x qual : Str} {params : Arguments} {body : List Stmt} {scope : Scope} {N : List Str} {p : Str} {sp : Sp}
    (F : FunD K x qual params body scope [] [] f fd) (S : FnScope N [p] scope) (hb : ∀ (s : Shared) (v : Value), BindsTo s fd ⟨[v], []⟩ [(p, v)]) (hr : Room (k + 1) callerA)
    (hbody : ∀ (cdv : Value) (s : Shared) (H : Hp) (a : Addr) (Q : VK) (E : XK), Room k (callerA.deeper (envOfC qual scope s.heap.objs.size f cdv)) → sp [.ref a] H Q E →
      ∃ t, PSs (cxOf CX P w K mg base N qual scope f cdv callerA [] s H E) body t ∧ t { nx := fun _ H' => Q .non H', rt := Q } (start N [.ref a]) H) : LawRun P w K mg base CX f sp := by
  intro s H a Q E env0 asked
  rcases F.ex with ⟨_, _, _, _, _, _, _, code, _, _, rfl, at_f, isCode, -, -⟩
  have still : ∀ b o, base.get? b = some o → s.heap.get? b = some o := fun b o e => (env0.bs b o e).1
  have kin : K.In s.heap := env0.mod.kin.keeps still
  have free := env0.mod.nolimit.keeps still
  have kinds : ∀ y ∈ [(p, Value.ref a)], scope.names.lookup y.1 = some .local ∨
      (scope.names.lookup y.1 = some .cell ∧ ((cellsFrom (s.heap.objs.size + 1) scope.names []).lookup y.1).isSome = true) := by
    intro y my
    obtain rfl := List.mem_singleton.mp my
    exact (S.par p (List.mem_singleton.mpr rfl)).imp id fun q =>
      ⟨q, PySem.W.cellsFrom_some _ _ _ (.inl q)⟩
  refine codeAny_call_function hr.depth (kin _ _ at_f) rfl S.co S.gen rfl
    (PySem.W.codeRec_of kin isCode) (hb s (.ref a) _ _ _ _ ?_)
  refine wpAny_newFunctionEnv_cells S.kind kinds fun env he s1 entry => ?_
  cases he
  refine ⟨free.keeps entry.toInCall.keep,
    codeAny_func ?_⟩
  rcases hbody code s H a Q E (hr.deeper _) asked with ⟨t, steps, start_⟩
  refine wpAny_mono (steps.run [] s1 (start N [.ref a]) H _
    (inv_start S hr.hd env0 rfl (.cons rfl .nil) entry) start_) (fun fl z hs => ?_) fun _ _ hs => hs
  cases fl with
  | brk =>
    rcases hs with ⟨_, _, _, no⟩
    exact no.elim
  | cont =>
    rcases hs with ⟨_, _, _, no⟩
    exact no.elim
  | next =>
    rcases hs with ⟨_, H1, J, last⟩
    exact ⟨.non, H1, J.os, J.bare, J.base, J.hok, rfl, last⟩
  | ret u =>
    rcases hs with ⟨v, _, H1, J, same, last⟩
    exact ⟨v, H1, J.os, J.bare, J.base, J.hok, same, last⟩
end
/-! ### the script alone is known -/
/-- the script as it stands, if the law's own part of the heap doesn't hold it -/
def scr (K : PySem.W.Frag) (a : Addr) (o : Obj) (xs : List V) : Hp := fun b => if b = a ∧ K.lookup a = none then some (.frz o (.lst xs)) else none
section
variable {K : PySem.W.Frag} {a : Addr} {o : Obj} {xs : List V} {P : Program} {w : World} {mg mb : Str → Option Value} {s : Shared}
theorem scr_some {b : Addr} {u : HO} (e : scr K a o xs b = some u) : b = a ∧ K.lookup a = none ∧ u = .frz o (.lst xs) := by
  unfold scr at e
  by_cases c : b = a ∧ K.lookup a = none
  · rw [if_pos c] at e
    exact ⟨c.1, c.2, (Option.some.inj e).symm⟩
  · rw [if_neg c] at e
    cases e
theorem scr_only : Only (scr K a o xs) := fun b => by
  cases e : scr K a o xs b with
  | none => exact .inl rfl
  | some u => exact .inr ⟨o, xs, by rw [(scr_some e).2.2]⟩
theorem scr_free {b : Addr} (h : b ≠ a ∨ K.lookup a ≠ none) : scr K a o xs b = none := if_neg fun c => h.elim (· c.1) (· c.2)
/-- what is no list is not the script -/
theorem scr_ns {h : Heap} (ha : h.get? a = some o) (hd : ∃ its n, o.data = .seq its n) {b : Addr} {m : Str → Option Value} (N : h.Ns b m) : (hidT h (scr K a o xs)).Ns b m := by
  rcases N with ⟨ob, es, ep, at_, dat, rest⟩
  refine ⟨ob, es, ep, hidT_get at_ (scr_free (.inl ?_)), dat, rest⟩
  rintro rfl
  rcases hd with ⟨its, n, hd⟩
  cases ha.symm.trans at_
  cases hd.symm.trans dat
theorem scr_env (kin : K.In s.heap) (g : s.heap.Ns mainGlobals mg) (b1 : s.heap.Ns builtinsNs mb) (b2 : ∀ x : Str, x ≠ "__name__" → mb x = bootBuiltins x) (nl : s.heap.NoLimit) (gens : s.gens = #[])
    (ha : s.heap.get? a = some o) (hd : ∃ its n, o.data = .seq its n) (ok : HOk P w (scr K a o xs) s.heap) :
    K.In (hidT s.heap (scr K a o xs)) ∧ (hidT s.heap (scr K a o xs)).Ns mainGlobals mg ∧ Env0 P w K mg (hidT s.heap (scr K a o xs)) callerA [] s (scr K a o xs) := by
  have part : K.In (hidT s.heap (scr K a o xs)) := fun b ob e =>
    hidT_get (kin b ob e) (scr_free (by
      by_cases c : b = a
      · exact .inr fun q => by rw [← c, e] at q; cases q
      · exact .inl c))
  have glob := scr_ns (K := K) (xs := xs) ha hd g
  obtain ⟨ml, l1, l2⟩ := nl
  refine ⟨part, glob, ⟨rfl, ⟨part, glob, ⟨mb, scr_ns ha hd b1, b2⟩, ⟨ml, scr_ns ha hd l1, l2⟩⟩, fun _ _ e => of_hidT e,
    Nat.le_of_eq (hidT_size _ _), trivial, fun _ q => ?_, ok, .of_eq gens⟩⟩
  cases (show _ ∈ ([] : List Addr) from q)
/-- the law is called: it answers True, all that stood there stands -/
theorem law_callA {CX : CXT} {fa : Addr} {sp : Sp} {vs : List Value} {ns : List Int}
    (kin : K.In s.heap) (g : s.heap.Ns mainGlobals mg) (b1 : s.heap.Ns builtinsNs mb) (b2 : ∀ x : Str, x ≠ "__name__" → mb x = bootBuiltins x) (nl : s.heap.NoLimit) (gens : s.gens = #[])
    (ha : s.heap.get? a = some { cls := .type "list", data := .seq vs.toArray }) (hi : IntsAre vs ns) (hl : ns.length ≤ sizeLine)
    (runs : ∀ base : Heap, K.In base → base.Ns mainGlobals mg → LawRun P w K mg base CX fa sp)
    (told : ∀ H : Hp, Only H → SqL K H a (ns.map V.int) → sp [.ref a] H (fun v _ => v = .bl true) fun _ _ _ => False) (calm : ∀ H e z, CX [] H s (fun _ _ _ => False) e z → False) :
    codeAny (model P w) callerA (.call (.ref fa) ⟨[.ref a], []⟩) (fun r z => r = .ok (.ret (.bool true)) ∧ OldK s.heap z.heap ∧ z.os = s.os ∧ AllBare z.gens) s := by
  have items : Vals (ns.map V.int) vs := vals_ints hi
  have size : vs.length ≤ sizeLine := by
    rw [hi.length]
    exact hl
  have ok : HOk P w (scr K a { cls := .type "list", data := .seq vs.toArray } (ns.map V.int)) s.heap := by
    intro b u e
    rcases scr_some e with ⟨rfl, -, rfl⟩
    exact ⟨ha, by simpa using hl, vs, _, items, ha⟩
  have seq : SqL K (scr K a { cls := .type "list", data := .seq vs.toArray } (ns.map V.int)) a (ns.map V.int) := by
    cases held : K.lookup a with
    | none => exact .inl (.inr ⟨_, if_pos ⟨rfl, held⟩⟩)
    | some ob =>
      have e := (kin a ob held).symm.trans ha
      cases e
      exact .inr ⟨_, vs.toArray, _, held, rfl, rfl, rfl, by simpa using size, by simpa using items⟩
  rcases scr_env kin g b1 b2 nl gens ha ⟨_, _, rfl⟩ ok with ⟨part, glob, env0⟩
  refine codeAny_mono (runs _ part glob s _ a _ _ env0 (told _ scr_only seq)) fun r z done => ?_
  match r, done with
  | .error e, done => exact (calm _ e z done).elim
  | .ok (.ret u), ⟨v, H1, os, bare, un, ok1, same, last⟩ =>
    have last : v = .bl true := last
    subst last
    have same : u = Value.bool true := same
    subst same
    refine ⟨rfl, OldK.of_keep fun b ob at_ => ?_, os, bare⟩
    cases e : scr K a { cls := .type "list", data := .seq vs.toArray } (ns.map V.int) b with
    | none => exact un.keep b ob at_ e (fun q => by cases (show b ∈ ([] : List Addr) from q)) (by simp)
    | some u =>
      rcases scr_some e with ⟨rfl, -, rfl⟩
      have now := (ok1 b _ (un.frzs b _ _ e)).1
      cases ha.symm.trans at_
      exact now
end
theorem walk_ofA {l : PySem.W.OpenLaw} {n : Nat} {q : Program} {loose : List Str} {XP : (Str → Option Value) → Heap → Prop} {YP : World → Heap → Prop} {d : DefRec} {CX : CXT} (hn : l.most = some n) (hn2 : n ≤ sizeLine) (hdf : d.params.defaults = [])
    (F : ∀ (w : World) (mg : Str → Option Value) (fa : Addr) (h : Heap), YP w h → h.Ns mainGlobals mg → mg d.name = some (.ref fa) → ∃ (K : PySem.W.Frag) (sp : Sp), K.In h ∧
        (∀ (H : Hp) (a : Addr) (ns : List Int), ns.length ≤ n → Only H → SqL K H a (ns.map V.int) → sp [.ref a] H (fun v _ => v = .bl true) fun _ _ _ => False) ∧ ∀ base : Heap, K.In base → base.Ns mainGlobals mg → LawRun l.prog w K mg base CX fa sp)
    (calm : ∀ (H : Hp) (s : Shared) (e : Value) (z : Shared), CX [] H s (fun _ _ _ => False) e z → False) : PySem.W.WalkO q loose XP YP l.row.toRowW d [] (fun f vs => PySem.call f vs) := by
  refine Att.attach_call hn hdf fun w _ s mg mb fa _ _ _ _ a vs ns G Y _ _ _ hmg at_ hi len gens => ?_
  rcases F w mg fa _ Y G.T.g hmg with ⟨K, sp, kin, told, runs⟩
  exact law_callA kin G.T.g G.T.b G.T.builtins G.T.nolimit gens at_ hi (Nat.le_trans len hn2) runs (fun H => told H a ns len) fun H e z => calm H s e z
end R59
/-! KS -/
set_option maxHeartbeats 1000000
/-! what repr tells of a table and its costs is short -/
namespace R59
open PySem PyProof.Rows L2 KB
theorem int_short : ∀ n : Fin 1002, (Str.ofString (toString ((n.val : Nat) : Int))).length ≤ 8 := by decide +kernel
theorem int_shown {i : Int} (h0 : 0 ≤ i) (h1 : i ≤ 1001) : (PyData.int i).shown.length ≤ 8 := by
  obtain ⟨n, rfl⟩ := Int.eq_ofNat_of_zero_le h0
  simp only [PyData.shown]
  exact int_short ⟨n, by omega⟩
theorem int_able {i : Int} (h0 : 0 ≤ i) (h1 : i ≤ 1001) : (PyData.int i).showable = true := by
  simp only [PyData.showable]
  refine decide_eq_true ?_
  by_cases h : i.natAbs = 0
  · rw [h]
    decide
  · have := (Nat.log2_lt (k := 1920) h).mpr (Nat.lt_of_lt_of_le (show i.natAbs < 2 ^ 10 by omega) (Nat.pow_le_pow_right (by decide) (by decide)))
    exact this
theorem shownAll_map : ∀ ds : List PyData, PyData.shownAll ds = ds.map PyData.shown
  | [] => by simp only [PyData.shownAll, List.map_nil]
  | d :: ds => by rw [PyData.shownAll, List.map_cons, shownAll_map ds]
theorem showAll : ∀ {ds : List PyData}, (∀ d ∈ ds, d.showable = true) → PyData.showableAll ds = true
  | [], _ => by simp only [PyData.showableAll]
  | d :: ds, h => by
    rw [PyData.showableAll, h d List.mem_cons_self, showAll fun e he => h e (List.mem_cons_of_mem _ he)]
    rfl
theorem piled_le {b : Nat} : ∀ {ts : List Str}, (∀ t ∈ ts, t.length ≤ b) → piled ts ≤ ts.length * (b + 2)
  | [], _ => Nat.zero_le _
  | t :: ts, h => by
    rw [piled_cons, List.length_cons, Nat.succ_mul]
    have h1 := h t List.mem_cons_self
    have h2 := piled_le fun e he => h e (List.mem_cons_of_mem _ he)
    omega
theorem join_le : ∀ ts : List Str, (Str.join ", " ts).length ≤ piled ts
  | [] => Nat.zero_le _
  | t :: ts => by
    have := join_length_add (t :: ts) (by simp)
    omega
theorem tup_shown {b : Nat} {ds : List PyData} (h : ∀ d ∈ ds, d.shown.length ≤ b) : (PyData.tuple ds).shown.length ≤ 3 + ds.length * (b + 2) := by
  simp only [PyData.shown]
  unfold tupleText
  rw [strLen_append, strLen_append, shownAll_map]
  have h1 := join_le (ds.map PyData.shown)
  have h2 := piled_le (b := b) (ts := ds.map PyData.shown) fun t ht => by
    obtain ⟨d, hd, rfl⟩ := List.mem_map.mp ht
    exact h d hd
  rw [List.length_map] at h2
  have h3 : ((("(" : String) : Str)).length = 1 := rfl
  have h4 : ((if (ds.map PyData.shown).length == 1 then ",)" else ")" : String) : Str).length ≤ 2 := by split <;> decide
  omega
theorem textFrom_le : ∀ (ts : List Str) (k : Nat) (acc : Str), (textFrom k acc ts).length ≤ acc.length + piled ts
  | [], _, _ => Nat.le_refl _
  | t :: ts, k, acc => by
    have ih := textFrom_le ts (k + 1) (acc ++ (if k > 0 then ", " else "" : String) ++ t)
    have e : (acc ++ (if k > 0 then ", " else "" : String) ++ t).length ≤ acc.length + 2 + t.length := by
      rw [strLen_append, strLen_append]
      have : ((if k > 0 then ", " else "" : String) : Str).length ≤ 2 := by split <;> decide
      omega
    rw [piled_cons]
    show (textFrom (k + 1) _ ts).length ≤ _
    omega
theorem lst_shown {b : Nat} {ds : List PyData} (h : ∀ d ∈ ds, d.shown.length ≤ b) : (PyData.list ds).shown.length ≤ 2 + ds.length * (b + 2) := by
  simp only [PyData.shown]
  unfold listText
  rw [strLen_append, shownAll_map]
  have h1 := textFrom_le (ds.map PyData.shown) 0 "["
  have h2 := piled_le (b := b) (ts := ds.map PyData.shown) fun t ht => by
    obtain ⟨d, hd, rfl⟩ := List.mem_map.mp ht
    exact h d hd
  rw [List.length_map] at h2
  have h3 : ((("[" : String) : Str)).length = 1 := rfl
  have h4 : ((("]" : String) : Str)).length = 1 := rfl
  omega
/-- the table's rows with their costs -/
def keptD (T : List Row) (cs : List Int) : PyData := .list [tabD T, .tuple (cs.map .int)]
theorem kept_show {ar : Nat → Nat} {T : List Row} {n : Nat} (G : TabG ar T n) {cs : List Int} (hl : cs.length ≤ 6) (hc : ∀ x ∈ cs, 1 ≤ x ∧ x ≤ 1001) :
    (keptD T cs).showable = true ∧ (keptD T cs).depth ≤ 100 ∧ (keptD T cs).shown.length ≤ sizeLine := by
  have n42 := G.n42
  have li : ∀ r ∈ T, ∀ d ∈ r.is.map (fun i : Nat => PyData.int (i : Int)), d.showable = true ∧ d.shown.length ≤ 8 := fun r hr d hd => by
    obtain ⟨i, hi, rfl⟩ := List.mem_map.mp hd
    have := (G.cl r hr).2 i hi
    exact ⟨int_able (by omega) (by omega), int_shown (by omega) (by omega)⟩
  have l3 : ∀ r ∈ T, r.is.length ≤ 3 := fun r hr => by rw [G.a3 r hr]; exact G.ar3 _
  have lr : ∀ d ∈ T.map rowD, d.showable = true ∧ d.shown.length ≤ 108 := fun d hd => by
    obtain ⟨r, hr, rfl⟩ := List.mem_map.mp hd
    have h1 := G.s5 r hr
    have h2 := (G.cl r hr).1
    have h3 := l3 r hr
    have hi : (isD r.is).showable = true := by
      unfold isD
      simp only [PyData.showable]
      exact showAll fun d hd => (li r hr d hd).1
    have hi2 : (isD r.is).shown.length ≤ 33 := by
      have := tup_shown (b := 8) fun d hd => (li r hr d hd).2
      rw [List.length_map] at this
      unfold isD
      omega
    have i1 : (PyData.int (r.s : Int)).shown.length ≤ 8 := int_shown (by omega) (by omega)
    have i2 : (PyData.int (r.c : Int)).shown.length ≤ 8 := int_shown (by omega) (by omega)
    unfold rowD
    constructor
    · simp only [PyData.showable]
      refine showAll fun d hd => ?_
      simp only [List.mem_cons, List.not_mem_nil, or_false] at hd
      rcases hd with rfl | rfl | rfl
      · exact int_able (by omega) (by omega)
      · exact hi
      · exact int_able (by omega) (by omega)
    · have := tup_shown (b := 33) (ds := [.int (r.s : Int), isD r.is, .int (r.c : Int)]) fun d hd => by
        simp only [List.mem_cons, List.not_mem_nil, or_false] at hd
        rcases hd with rfl | rfl | rfl <;> omega
      exact this
  have lc : ∀ d ∈ cs.map PyData.int, d.showable = true ∧ d.shown.length ≤ 8 := fun d hd => by
    obtain ⟨x, hx, rfl⟩ := List.mem_map.mp hd
    have := hc x hx
    exact ⟨int_able (by omega) (by omega), int_shown (by omega) (by omega)⟩
  have t1 : (tabD T).shown.length ≤ 10000 := by
    have := tup_shown (b := 108) fun d hd => (lr d hd).2
    rw [List.length_map] at this
    have := G.len
    unfold tabD
    omega
  have c1 : (PyData.tuple (cs.map .int)).shown.length ≤ 10000 := by
    have := tup_shown (b := 8) fun d hd => (lc d hd).2
    rw [List.length_map] at this
    omega
  refine ⟨?_, ?_, ?_⟩
  · unfold keptD
    simp only [PyData.showable]
    refine showAll fun d hd => ?_
    simp only [List.mem_cons, List.not_mem_nil, or_false] at hd
    rcases hd with rfl | rfl
    · unfold tabD
      simp only [PyData.showable]
      exact showAll fun d hd => (lr d hd).1
    · simp only [PyData.showable]
      exact showAll fun d hd => (lc d hd).1
  · unfold keptD
    have := depth_tabD T
    simp only [PyData.depth, PyData.depthAll, ints_depth]
    omega
  · have := lst_shown (b := 10000) (ds := [tabD T, .tuple (cs.map .int)]) fun d hd => by
      simp only [List.mem_cons, List.not_mem_nil, or_false] at hd
      rcases hd with rfl | rfl <;> assumption
    exact Nat.le_trans this (show 2 + 2 * (10000 + 2) ≤ sizeLine by decide)
/-- what is due hangs on the best members alone -/
theorem due_same {ar : Nat → Nat} {T : List Row} {co : Nat → Nat} {m c : Nat} {l l' : List Tm} (hT : ∀ r ∈ T, r.is.length = ar r.s) (F : FP T big40 co m c l) (F' : FP T big40 co m c l') : dueD l = dueD l' := by
  have h := FP.same hT F F'
  have key : (∃ t ∈ l, 40 < t.size) ↔ ∃ t ∈ l', 40 < t.size := by
    clear F F' hT
    induction h with
    | nil => exact Iff.rfl
    | cons h1 h2 ih =>
      simp only [List.mem_cons, exists_eq_or_imp]
      rw [h1.1, ih]
  unfold dueD
  by_cases hb : ∃ t ∈ l', 40 < t.size
  · rw [if_pos hb, if_pos (key.mpr hb)]
  · rw [if_neg hb, if_neg fun q => hb (key.mp q)]
    rw [all2_eq h fun t ht => Nat.le_of_not_lt fun q => hb ⟨t, ht, q⟩]
theorem wid_two {ar : Nat → Nat} {T : List Row} {n : Nat} (G : TabG ar T n) : wid 2 T ≤ 336 := by
  have main : ∀ T : List Row, (∀ r ∈ T, r.is.length ≤ 3) → wid 2 T ≤ T.length * 8 := by
    intro T
    induction T with
    | nil => intro _; exact Nat.le_refl _
    | cons r T ih =>
      intro h
      have ew : wid 2 (r :: T) = 2 ^ r.is.length + wid 2 T := rfl
      rw [ew, List.length_cons, Nat.succ_mul]
      have h1 : 2 ^ r.is.length ≤ 2 ^ 3 := Nat.pow_le_pow_right (by decide) (h r List.mem_cons_self)
      have h2 := ih fun r hr => h r (List.mem_cons_of_mem _ hr)
      omega
  have := main T fun r hr => by rw [G.a3 r hr]; exact G.ar3 _
  have := G.len
  omega
end R59
/-! W31 -/
set_option maxHeartbeats 1000000
namespace R59
open PySem PyProof.Rows L2 KB PySem.W
theorem cr_reprK (K : PySem.W.Frag) {X : Cx} (hg : X.A.guards = some []) (hu : X.A.units + 190 < cLine) (hK : X.K = K := by rfl) : CallR X (.builtin "repr") (rReprD K) := by subst hK; exact cr_repr hg hu
theorem FndH.fr {K : PySem.W.Frag} {H H' : Hp} {fp b cl : Addr} {ls : List Addr} {g : Fnd} {n : Nat} {co : Nat → Nat} (h : FndH K H fp ls g n co) (B : Bag H b cl) (fr : Fr [b, cl] H H') (n1 : 1 ≤ n) (ne : ∀ i, i < n → g i ≠ []) : FndH K H' fp ls g n co := by
  obtain ⟨cs, t, z, X⟩ := B.ex
  have hb := X.hb
  have hc := X.hc
  have t' := fr.tps (K := K) B.mut
  have nb : ∀ (a : Addr) (i : Nat) (ys : List V), i < n → H a = some (.lst ys) → DpAll K H ys ((g i).map fun t => lbD co (i, t)) → a ∉ [b, cl] := by
    intro a i ys hi e d m
    obtain ⟨t0, ts, eg⟩ := List.exists_cons_of_ne_nil (ne i hi)
    rw [eg] at d
    simp only [List.mem_cons, List.not_mem_nil, or_false] at m
    rcases m with rfl | rfl
    · rw [hb] at e
      obtain rfl := HO.lst.inj (Option.some.inj e)
      cases d with
      | cons d1 d2 =>
      cases ts with
      | nil => cases d2
      | cons t1 ts =>
      cases d2 with
      | cons d2 d3 =>
      obtain ⟨a, sa, w, e, _⟩ := Dp.lb d2
      cases e
    · rw [hc] at e
      obtain rfl := HO.lst.inj (Option.some.inj e)
      cases cs with
      | nil => cases d
      | cons c cs =>
      cases d with
      | cons d1 d2 =>
      obtain ⟨a, sa, w, e, _⟩ := Dp.lb d1
      cases e
  refine ⟨fr _ _ h.hp fun m => ?_, h.len, fun i a e => ?_⟩
  · have hp := h.hp
    have hl := h.len
    obtain ⟨a0, ls0, rfl⟩ := List.exists_cons_of_ne_nil (l := ls) fun q => by
      rw [q] at hl
      simp at hl
      omega
    simp only [List.mem_cons, List.not_mem_nil, or_false] at m
    rcases m with rfl | rfl
    · rw [hb] at hp
      have := HO.lst.inj (Option.some.inj hp)
      cases ls0 with
      | nil => cases this
      | cons a1 ls0 =>
      simp at this
    · rw [hc] at hp
      have := HO.lst.inj (Option.some.inj hp)
      cases cs with
      | nil => cases this
      | cons c cs => simp at this
  · obtain ⟨ys, h1, h2⟩ := h.at_ i a e
    have hi : i < n := by
      have := (List.getElem?_eq_some_iff.mp e).1
      rw [h.len] at this
      exact this
    exact ⟨ys, fr _ _ h1 (nb a i ys hi h1 h2), DpAll.tps t' _ _ (flatDs_all _ _ fun t => lbD_flat co (i, t)) h2⟩
section
variable {P : Program} {w : World} {K : PySem.W.Frag} {mg : Str → Option Value} {base : Heap} {f C CT : Addr} {fd : FuncData}
abbrev s_law : Stmt := top 44
abbrev N_law : List Str := ["script", "bag", "kind", "costs", "most", "found", "some", "dues", "kept", "turn", "own", "last", "signature", "table", "number", "many", "symbol", "one", "size"]
theorem sc_law : FnScope N_law ["script"] (defScope s_law) := ⟨rfl, rfl, rfl, by decide +kernel, rfl, by decide +kernel, by decide +kernel⟩
def spLaw (K : PySem.W.Frag) : Sp := fun vs H Q _ => ∃ (a : Addr) (ns : List Int), vs = [.ref a] ∧ SqL K H a (ns.map V.int) ∧ ∀ H', Q (.bl true) H'
set_option maxHeartbeats 4000000 in
theorem ok_law (F : FnP K "law" "law" s_law f fd) (T : Nm mg) (hb : ∀ (s : Shared) (v : Value), BindsTo s fd ⟨[v], []⟩ [("script", v)]) (h_law_own_bag : Has P w K mg base CX0 "_law_own_bag" ["script"] 1 (spOwnBag K)) (h_law_draw : Has P w K mg base CX0 "_law_draw" ["bag", "below"] 1 spDraw) (h_law_pick : Has P w K mg base CX0 "_law_pick" ["bag", "some"] 2 spPick)
    (h_law_is_wide_right : Has P w K mg base CX0 "_law_is_wide_right" ["bag"] 44 spWide) (h_law_edge : Has P w K mg base CX0 "_law_edge" ["bag"] 3 (spMade K)) (h_law_tower : Has P w K mg base CX0 "_law_tower" ["bag"] 3 (spMade K)) (h_law_ring : Has P w K mg base CX0 "_law_ring" ["bag"] 3 (spMade K)) (h_law_ties : Has P w K mg base CX0 "_law_ties" ["bag"] 3 (spMade K))
    (h_law_signature : Has P w K mg base CX0 "_law_signature" ["bag", "sizes"] 3 (spSig K)) (h_law_rows : Has P w K mg base CX0 "_law_rows" ["bag", "signature", "steps", "most"] 3 (spRows K)) (h_law_table : Has P w K mg base CX0 "_law_table" ["rows"] 2 (spTable K))
    (h_law_costs : Has P w K mg base CX0 "_law_costs" ["bag", "many"] 3 (spCosts K)) (h_law_near_costs : Has P w K mg base CX0 "_law_near_costs" ["bag", "signature", "table"] 4 (spNear K)) (h_law_most : Has P w K mg base CX0 "_law_most" ["bag", "table"] 2 (spMost K)) (h_law_bests : Has P w K mg base CX0 "_law_bests" ["table", "costs", "most"] 3 (spBests K))
    (h_law_questions : Has P w K mg base CX0 "_law_questions" ["bag", "table", "most"] 3 (spQ K)) (h_law_due : Has P w K mg base CX0 "_law_due" ["found", "many"] 1 (spDue K)) (h_law_asked : Has P w K mg base CX0 "_law_asked" ["table", "costs", "number", "many", "is_named"] 7 (spAsked K)) (h_law_same : Has P w K mg base CX0 "_law_same" ["told", "due"] 43 (spSame K 43)) :
    LawRun P w K mg base CX0 f (spLaw K) := by
  refine law_run (k := 44) (N := N_law) F sc_law hb ⟨rfl, by decide, by decide⟩ (fun cdv s H a Q E hr h => ?_)
  obtain ⟨a', ns, ea, hS, k⟩ := h
  obtain rfl : a = a' := by cases ea; rfl
  clear ea
  have hq := hq_of hr
  have hg : (callerA.deeper (envOfC "law" (defScope s_law) s.heap.objs.size f cdv)).guards = some [] := rfl
  refine ⟨_, PSs.nox
  (pss_cons (ps_set (i := 1) sc_law.nd rfl (Or.inr rfl) (pe_f h_law_own_bag (hr.mono (by decide)) (by rfl) (pa_cons (pv 0) pa_nil)))
      (pss_cons (ps_if (PW.pt (pw_and (pt_cmpR (op_eqK K hq) (pe_f h_law_draw (hr.mono (by decide)) (by rfl) (pa_cons (pv 1) (pa_cons pe_int pa_nil))) pe_int (nomark _)) (pw_and1 (pt_not (pt_val (pe_f h_law_is_wide_right (hr.mono (by decide)) (by rfl) (pa_cons (pv 1) pa_nil))))))) (pss_one (ps_ret pe_bl)) pss_nil)
      (pss_cons (ps_set (i := 2) sc_law.nd rfl (Or.inl rfl) (pe_f h_law_draw (hr.mono (by decide)) (by rfl) (pa_cons (pv 1) (pa_cons pe_int pa_nil))))
      (pss_cons (ps_if (pt_cmpR (op_eqK K hq) (pv 2) pe_int (nomark _)) (pss_one (ps_asg (pe_f h_law_edge (hr.mono (by decide)) (by rfl) (pa_cons (pv 1) pa_nil)) (pg_tupK (n := 2) K rfl (pgs_cons (pg_name (i := 12) sc_law.nd rfl (Or.inl rfl)) (pgs_cons (pg_name (i := 13) sc_law.nd rfl (Or.inl rfl)) pgs_nil))))) (pss_one (ps_if (pt_cmpR (op_eqK K hq) (pv 2) pe_int (nomark _)) (pss_one (ps_asg (pe_f h_law_tower (hr.mono (by decide)) (by rfl) (pa_cons (pv 1) pa_nil)) (pg_tupK (n := 2) K rfl (pgs_cons (pg_name (i := 12) sc_law.nd rfl (Or.inl rfl)) (pgs_cons (pg_name (i := 13) sc_law.nd rfl (Or.inl rfl)) pgs_nil))))) (pss_one (ps_if (pt_cmpR (op_eqK K hq) (pv 2) pe_int (nomark _)) (pss_one (ps_asg (pe_f h_law_ring (hr.mono (by decide)) (by rfl) (pa_cons (pv 1) pa_nil)) (pg_tupK (n := 2) K rfl (pgs_cons (pg_name (i := 12) sc_law.nd rfl (Or.inl rfl)) (pgs_cons (pg_name (i := 13) sc_law.nd rfl (Or.inl rfl)) pgs_nil))))) (pss_one (ps_if (pt_cmpR (op_eqK K hq) (pv 2) pe_int (nomark _)) (pss_one (ps_asg (pe_f h_law_ties (hr.mono (by decide)) (by rfl) (pa_cons (pv 1) pa_nil)) (pg_tupK (n := 2) K rfl (pgs_cons (pg_name (i := 12) sc_law.nd rfl (Or.inl rfl)) (pgs_cons (pg_name (i := 13) sc_law.nd rfl (Or.inl rfl)) pgs_nil))))) (pss_cons (ps_set (i := 12) sc_law.nd rfl (Or.inl rfl) (pe_f h_law_signature (hr.mono (by decide)) (by rfl) (pa_cons (pv 1) (pa_cons (pe_lst (pa_cons pe_int (pa_cons pe_int (pa_cons pe_int (pa_cons pe_int (pa_cons pe_int (pa_cons pe_int pa_nil))))))) pa_nil))))
      (pss_one (ps_set (i := 13) sc_law.nd rfl (Or.inl rfl) (pe_f h_law_table (hr.mono (by decide)) (by rfl) (pa_cons (pe_f h_law_rows (hr.mono (by decide)) (by rfl) (pa_cons (pv 1) (pa_cons (pv 12) (pa_cons (pe_op (op_addK K) pe_int (pe_f h_law_draw (hr.mono (by decide)) (by rfl) (pa_cons (pv 1) (pa_cons pe_int pa_nil)))) (pa_cons (pe_f h_law_pick (hr.mono (by decide)) (by rfl) (pa_cons (pv 1) (pa_cons (pe_lst (pa_cons pe_int (pa_cons pe_int (pa_cons pe_int (pa_cons pe_int (pa_cons pe_int pa_nil)))))) pa_nil))) pa_nil))))) pa_nil))))))))))))
      (pss_cons (ps_set (i := 3) sc_law.nd rfl (Or.inl rfl) (pe_ifExp (pt_cmpR op_gt (pv 2) pe_int (nomark _)) (pe_f h_law_costs (hr.mono (by decide)) (by rfl) (pa_cons (pv 1) (pa_cons (pe_callB (cr_lenK K) (by rfl) T.len bt_len (pa_cons (pv 12) pa_nil)) pa_nil))) (pe_f h_law_near_costs (hr.mono (by decide)) (by rfl) (pa_cons (pv 1) (pa_cons (pv 12) (pa_cons (pv 13) pa_nil))))))
      (pss_cons (ps_if (PW.pt (pw_and (pt_cmpR op_gt (pv 2) pe_int (nomark _)) (pw_and1 (pt_cmpR op_gt (pe_f h_law_draw (hr.mono (by decide)) (by rfl) (pa_cons (pv 1) (pa_cons pe_int pa_nil))) pe_int (nomark _))))) (pss_one (ps_set (i := 3) sc_law.nd rfl (Or.inl rfl) (pe_callTy (cr_tupleK K) (by rfl) T.tuple bt_tuple (pa_cons (pe_lc (own := [("symbol", 16)]) rfl sc_law.nd (pi_tupK K (pv 12)) (blkOk_by (N := N_law) (sc := defScope s_law) (by decide +kernel)) (fun _ _ _ _ _ => (pg_name (i := 16) sc_law.nd rfl (Or.inl rfl))) (fun _ _ _ _ _ => pts_nil) (fun _ _ _ _ _ => (pe_f h_law_pick (hr.mono (by decide)) (by rfl) (pa_cons (pv 1) (pa_cons (pe_lst (pa_cons pe_int (pa_cons pe_int (pa_cons pe_int (pa_cons pe_int pa_nil))))) pa_nil))))) pa_nil)))) pss_nil)
      (pss_cons (ps_set (i := 4) sc_law.nd rfl (Or.inl rfl) (pe_ifExp (pt_cmpR op_gt (pv 2) pe_int (nomark _)) (pe_f h_law_most (hr.mono (by decide)) (by rfl) (pa_cons (pv 1) (pa_cons (pv 13) pa_nil))) pe_int))
      (pss_cons (ps_set (i := 5) sc_law.nd rfl (Or.inr rfl) (pe_f h_law_bests (hr.mono (by decide)) (by rfl) (pa_cons (pv 13) (pa_cons (pv 3) (pa_cons (pv 4) pa_nil)))))
      (pss_cons (ps_set (i := 6) sc_law.nd rfl (Or.inl rfl) (pe_f h_law_questions (hr.mono (by decide)) (by rfl) (pa_cons (pv 1) (pa_cons (pv 13) (pa_cons (pv 4) pa_nil)))))
      (pss_cons (ps_if (pt_cmpR (op_eqK K hq) (pv 2) pe_int (nomark _)) (pss_cons (ps_set (i := 10) sc_law.nd rfl (Or.inl rfl) (pe_op (op_addK K) (pe_lc (own := [("one", 17)]) rfl sc_law.nd (pi_listK K (pe_ix (ix_K K) (pv 5) (pe_ix (ix_K K) (pe_ix (ix_K K) (pv 6) pe_int (fun _ _ => rfl)) pe_int (fun _ _ => rfl)) (fun _ _ => rfl))) (blkOk_by (N := N_law) (sc := defScope s_law) (by decide +kernel)) (fun _ _ _ _ _ => (pg_name (i := 17) sc_law.nd rfl (Or.inl rfl))) (fun _ _ _ _ _ => pts_nil) (fun _ _ _ _ _ => (pe_ix (ix_K K) (pv 17) pe_int (fun _ _ => rfl)))) (pe_lst (pa_cons pe_int pa_nil))))
      (pss_cons (ps_set (i := 11) sc_law.nd rfl (Or.inl rfl) (pe_callB (cr_lenK K) (by rfl) T.len bt_len (pa_cons (pe_lc (own := [("size", 18)]) rfl sc_law.nd (pi_listK K (pv 10)) (blkOk_by (N := N_law) (sc := defScope s_law) (by decide +kernel)) (fun _ _ _ _ _ => (pg_name (i := 18) sc_law.nd rfl (Or.inl rfl))) (fun _ _ _ _ _ => (pts_one (pt_cmpR op_le (pv 18) pe_int (nomark _)))) (fun _ _ _ _ _ => (pv 18))) pa_nil)))
      (pss_one (ps_set (i := 6) sc_law.nd rfl (Or.inl rfl) (pe_op (op_addK K) (pv 6) (pe_lst (pa_cons (pe_tup (pa_cons (pe_ix (ix_K K) (pe_ix (ix_K K) (pv 6) pe_int (fun _ _ => rfl)) pe_int (fun _ _ => rfl)) (pa_cons (pv 11) pa_nil))) (pa_cons (pe_tup (pa_cons (pe_ix (ix_K K) (pe_ix (ix_K K) (pv 6) pe_int (fun _ _ => rfl)) pe_int (fun _ _ => rfl)) (pa_cons (pe_callB (call_min2 rfl) (by rfl) T.min bt_min (pa_cons (pe_op (op_addK K) (pv 11) pe_int) (pa_cons (pv 4) pa_nil))) pa_nil))) pa_nil)))))))) pss_nil)
      (pss_cons (ps_setLc (i := 7) (own := [("number", 14), ("many", 15)]) rfl sc_law.nd rfl rfl (sw_true rfl rfl rfl (by decide +kernel)) (pi_listK K (pv 6)) (blkOk_by (N := N_law) (sc := defScope s_law) (by decide +kernel)) (fun _ _ _ _ _ => (pg_tupK (n := 2) K rfl (pgs_cons (pg_name (i := 14) sc_law.nd rfl (Or.inl rfl)) (pgs_cons (pg_name (i := 15) sc_law.nd rfl (Or.inl rfl)) pgs_nil)))) (fun _ _ _ _ _ => pts_nil) (fun _ _ _ _ _ => (pe_f h_law_due (hr.mono (by decide)) (by rfl) (pa_cons (pe_ix (ix_K K) (pv 5) (pv 14) (fun _ _ => rfl)) (pa_cons (pv 15) pa_nil)))))
      (pss_cons (ps_set (i := 8) sc_law.nd rfl (Or.inl rfl) (pe_callB (cr_reprK K hg hq) (by rfl) T.repr bt_repr (pa_cons (pe_lst (pa_cons (pv 13) (pa_cons (pv 3) pa_nil))) pa_nil)))
      (pss_cons (ps_for PassesOwn.never rfl (pi_range1 (by rfl) T.range (pa_cons (pe_callB (cr_lenK K) (by rfl) T.len bt_len (pa_cons (pv 6) pa_nil)) pa_nil)) (pg_name (i := 9) sc_law.nd rfl (Or.inl rfl)) (pss_cons (ps_asg (pe_ix (ix_K K) (pv 6) (pv 9) (fun _ _ => rfl)) (pg_tupK (n := 2) K rfl (pgs_cons (pg_name (i := 14) sc_law.nd rfl (Or.inl rfl)) (pgs_cons (pg_name (i := 15) sc_law.nd rfl (Or.inl rfl)) pgs_nil))))
      (pss_one (ps_if (pt_not (pt_val (pe_f h_law_same (hr.mono (by decide)) (by rfl) (pa_cons (pe_f h_law_asked (hr.mono (by decide)) (by rfl) (pa_cons (pv 13) (pa_cons (pv 3) (pa_cons (pv 14) (pa_cons (pv 15) (pa_cons (pe_cmpR (op_eqK K hq) (pe_op op_mod (pv 9) pe_int) pe_int (nomark _)) pa_nil)))))) (pa_cons (pe_ix (ix_K K) (pv 7) (pv 9) (fun _ _ => rfl)) pa_nil))))) (pss_one (ps_ret pe_bl)) pss_nil))))
      (pss_cons (ps_for PassesOwn.never rfl (pi_range1 (by rfl) T.range (pa_cons pe_int pa_nil)) (pg_name (i := 9) sc_law.nd rfl (Or.inl rfl)) (pss_cons (ps_asg (pe_ix (ix_K K) (pv 6) (pv 9) (fun _ _ => rfl)) (pg_tupK (n := 2) K rfl (pgs_cons (pg_name (i := 14) sc_law.nd rfl (Or.inl rfl)) (pgs_cons (pg_name (i := 15) sc_law.nd rfl (Or.inl rfl)) pgs_nil))))
      (pss_one (ps_if (pt_not (pt_val (pe_f h_law_same (hr.mono (by decide)) (by rfl) (pa_cons (pe_f h_law_asked (hr.mono (by decide)) (by rfl) (pa_cons (pv 13) (pa_cons (pv 3) (pa_cons (pv 14) (pa_cons (pv 15) (pa_cons (pe_cmpR (op_eqK K hq) (pe_op op_mod (pv 9) pe_int) pe_int (nomark _)) pa_nil)))))) (pa_cons (pe_ix (ix_K K) (pv 7) (pv 9) (fun _ _ => rfl)) pa_nil))))) (pss_one (ps_ret pe_bl)) pss_nil))))
      (pss_one (ps_ret (pe_cmpR (op_eqK K hq) (pe_callB (cr_reprK K hg hq) (by rfl) T.repr bt_repr (pa_cons (pe_lst (pa_cons (pv 13) (pa_cons (pv 3) pa_nil))) pa_nil)) (pv 8) (nomark _)))))))))))))))))), ?_⟩
  -- bag
  refine ⟨_, rfl, a, ns, rfl, hS, fun b cl H1 B1 s1 => ?_⟩
  clear s1
  dsimp only
  -- if _law_draw(bag, 6) == 0 and not _law_is_wide_right(bag)
  refine seq_cut (fun σ H' => σ = [some (.ref a), some (.ref b), none, none, none, none, none, none, none, none, none, none, none, none, none, none, none, none, none] ∧ Bag H' b cl) (fun Z hZ => ?_) ?_
  · refine ⟨_, rfl, b, cl, 6, rfl, B1, by decide, by decide, fun r H2 r0 r1 B2 f2 => .inl ⟨rfl, _, rfl, ?_⟩⟩
    refine dec_b (fun _ => ?_) (fun _ => hZ _ _ ⟨rfl, B2⟩)
    exact ⟨_, rfl, b, cl, rfl, B2, fun H3 B3 => ⟨_, rfl, iteF (hZ _ _ ⟨rfl, B3⟩)⟩⟩
  rintro _ H2 ⟨rfl, B2⟩
  -- kind
  refine ⟨_, rfl, b, cl, 7, rfl, B2, by decide, by decide, fun kd H3 k0 k1 B3 f3 => ?_⟩
  clear f3
  dsimp only
  -- signature, table
  refine seq_cut (fun σ H' => ∃ (sa ta : Addr) (sg : List Int) (Tb : List Row) (n : Nat), σ = [some (.ref a), some (.ref b), some (.int kd), none, none, none, none, none, none, none, none, none, some (.ref sa), some (.ref ta), none, none, none, none, none] ∧ Bag H' b cl ∧ SqT K H' sa (sg.map V.int) ∧ Sig sg ∧ Dp K H' (.ref ta) (tabD Tb) ∧ TabG (arOf sg) Tb n ∧ ∀ r ∈ Tb, r.s < sg.length) (fun Z hZ => ?_) ?_
  · have fin : ∀ (p sa ta : Addr) (sg : List Int) (Tb : List Row) (n : Nat) (H' : Hp), Bag H' b cl → Fr [b, cl] H3 H' → SqT K H' p [.ref sa, .ref ta] → SqT K H' sa (sg.map V.int) → Sig sg → Dp K H' (.ref ta) (tabD Tb) → TabG (arOf sg) Tb n → (∀ r ∈ Tb, r.s < sg.length) →
        gTup K 2 (gCons (gName 12) (gCons (gName 13) gNil)) (.ref p) [some (.ref a), some (.ref b), some (.int kd), none, none, none, none, none, none, none, none, none, none, none, none, none, none, none, none] H' Z :=
      fun p sa ta sg Tb n H' B' _ hp hsa S dt G hsy => ⟨p, _, rfl, hp, rfl, _, _, rfl, _, _, rfl, rfl, hZ _ _ ⟨sa, ta, sg, Tb, n, rfl, B', hsa, S, dt, G, hsy⟩⟩
    refine ⟨_, rfl, .inl ⟨rfl, _, rfl, ?_⟩⟩
    refine dec_b (fun _ => ⟨_, rfl, b, cl, rfl, B3, fin⟩) (fun _ => ?_)
    refine ⟨_, rfl, .inl ⟨rfl, _, rfl, ?_⟩⟩
    refine dec_b (fun _ => ⟨_, rfl, b, cl, rfl, B3, fin⟩) (fun _ => ?_)
    refine ⟨_, rfl, .inl ⟨rfl, _, rfl, ?_⟩⟩
    refine dec_b (fun _ => ⟨_, rfl, b, cl, rfl, B3, fin⟩) (fun _ => ?_)
    refine ⟨_, rfl, .inl ⟨rfl, _, rfl, ?_⟩⟩
    refine dec_b (fun _ => ⟨_, rfl, b, cl, rfl, B3, fin⟩) (fun _ => ?_)
    refine ⟨_, rfl, by show 6 ≤ sizeLine; decide, fun l hl => ⟨b, cl, l, [2, 3, 4, 4, 5, 6], rfl, B3.new hl, upd_same, B3.out hl, by decide, by decide, by decide, fun sa sg H4 B4 f4 hsa S => ?_⟩⟩
    dsimp only
    refine ⟨_, rfl, _, rfl, _, rfl, b, cl, 10, rfl, B4, by decide, by decide, fun r H5 r0 r1 B5 f5 => .inl ⟨_, _, rfl, rfl, ?_⟩⟩
    refine ⟨_, rfl, by show 5 ≤ sizeLine; decide, fun l2 hl2 => ⟨b, cl, l2, [.int 1, .int 1, .int 2, .int 3, .int 4], rfl, B5.new hl2, upd_same, B5.out hl2, by decide, by decide, fun y H6 hy B6 f6 => ?_⟩⟩
    have hy' : ∃ v : Int, y = .int v ∧ 1 ≤ v ∧ v ≤ 4 := by
      simp only [List.mem_cons, List.not_mem_nil, or_false] at hy
      rcases hy with rfl | rfl | rfl | rfl | rfl <;> exact ⟨_, rfl, by decide, by decide⟩
    obtain ⟨v, rfl, v0, v1⟩ := hy'
    have f46 := (f5.trans (Fr.new (o := .lst [.int 1, .int 1, .int 2, .int 3, .int 4]) hl2)).trans f6
    have hsa6 := (f46.tps (K := K) B4.mut) _ _ hsa
    refine ⟨b, cl, sa, sg, 2 + r, v, rfl, B6, hsa6, S, by omega, by omega, v0, v1, fun rp xs R H7 B7 f7 rp0 hrp dx ok c4 hsy => ?_⟩
    refine ⟨rp, xs, R, arOf sg, rfl, hrp, dx, ok, fun tp Tb es Bs H8 s8 dt X => ?_⟩
    exact hZ _ _ ⟨sa, tp, sg, Tb, es.length, rfl, B7.same s8, (Tps.same s8) _ _ ((f7.tps (K := K) B6.mut) _ _ hsa6), S, dt, X.good ok (.inl ⟨3, 4, by decide, by decide, by decide, fun r hr => by rw [ok.a3 r hr]; exact ok.ar3 _, fun r hr => (c4 r hr).1⟩), X.syms hsy⟩
  clear B3
  rintro _ H4 ⟨sa, ta, sg, Tb, n, rfl, B4, hsa, S, dt, G, hsy⟩
  -- costs
  refine seq_cut (fun σ H' => ∃ (ca : Addr) (cs : List Int), σ = [some (.ref a), some (.ref b), some (.int kd), some (.ref ca), none, none, none, none, none, none, none, none, some (.ref sa), some (.ref ta), none, none, none, none, none] ∧ Bag H' b cl ∧ Fr [b, cl] H4 H' ∧ SqT K H' ca (cs.map V.int) ∧ Cos sg.length cs) (fun Z hZ => ?_) ?_
  · have lo := S.lo
    have hi := S.hi
    refine ⟨_, rfl, _, _, rfl, rfl, _, rfl, ?_⟩
    refine dec_b (fun _ => ?_) (fun _ => ?_)
    · refine ⟨_, rfl, _, rfl, sa, _, rfl, .inr hsa, b, cl, _, rfl, B4, by simp; omega, by simp; omega, fun p cs H' B' fr hp hC => ?_⟩
      rw [List.length_map] at hC
      exact hZ _ _ ⟨p, cs, rfl, B', fr, hp, hC⟩
    · exact ⟨_, rfl, _, rfl, _, rfl, b, cl, sa, ta, sg, Tb, n, rfl, B4, hsa, S, dt, G, hsy, fun p cs H' B' fr hp hC => hZ _ _ ⟨p, cs, rfl, B', fr, hp, hC⟩⟩
  rintro _ H5 ⟨ca, cs, rfl, B5, f5, hca, hC⟩
  have t5 := f5.tps (K := K) B4.mut
  have hsa := t5 _ _ hsa
  have dt := Dp.tps t5 _ _ (tabD_flat Tb) dt
  clear t5 f5 B4
  refine seq_cut (fun σ H' => ∃ (ca : Addr) (cs : List Int), σ = [some (.ref a), some (.ref b), some (.int kd), some (.ref ca), none, none, none, none, none, none, none, none, some (.ref sa), some (.ref ta), none, none, none, none, none] ∧ Bag H' b cl ∧ Fr [b, cl] H5 H' ∧ SqT K H' ca (cs.map V.int) ∧ Cos sg.length cs) (fun Z hZ => ?_) ?_
  · refine ⟨_, rfl, _, _, rfl, rfl, _, rfl, ?_⟩
    refine dec_b (fun _ => ?_) (fun _ => hZ _ _ ⟨ca, cs, rfl, B5, Fr.refl _ _, hca, hC⟩)
    refine ⟨_, rfl, b, cl, 4, rfl, B5, by decide, by decide, fun r H6 r0 r1 B6 f6 => ⟨_, _, rfl, rfl, _, rfl, ?_⟩⟩
    have t6 := f6.tps (K := K) B5.mut
    refine dec_b (fun _ => ?_) (fun _ => hZ _ _ ⟨ca, cs, rfl, B6, f6, t6 _ _ hca, hC⟩)
    have hsa6 := t6 _ _ hsa
    have hi := S.hi
    refine ⟨_, rfl, sa, rfl, ⟨_, hsa6⟩, fun D hD => ?_⟩
    refine lcM (walk_tup (xs := sg.map V.int)) [b, cl] hD (fun i acc H' => ∃ cs : List Int, acc = cs.map V.int ∧ (∀ x ∈ cs, 1 ≤ x ∧ x ≤ 1001) ∧ cs.length = i ∧ Bag H' b cl) ⟨[], rfl, (fun x hx => by cases hx), rfl, B6.new hD⟩ (fun i acc H' fr _ => (fr.tps B6.mut) _ _ hsa6) ?_ ?_
    · rintro i x acc H7 H8 Nx hN hi' fr e ⟨cs, rfl, c1, c2, B7⟩ ⟨rfl, hv⟩
      have hil : i < sg.length := by simpa using (List.getElem?_eq_some_iff.mp hv).1
      refine ⟨rfl, ?_⟩
      refine yes_cut ?_
      refine ⟨_, rfl, by show 4 ≤ sizeLine; decide, fun p hp => ?_⟩
      refine ⟨b, cl, p, [.int 1, .int 1, .int 2, .int 3], rfl, B7.new hp, upd_same, B7.out hp, by decide, by decide, fun y H9 hy B9 fr9 => ?_⟩
      have hy' : ∃ v : Int, y = .int v ∧ 1 ≤ v ∧ v ≤ 3 := by
        simp only [List.mem_cons, List.not_mem_nil, or_false] at hy
        rcases hy with rfl | rfl | rfl | rfl <;> exact ⟨_, rfl, by decide, by decide⟩
      obtain ⟨v, rfl, v0, v1⟩ := hy'
      have f79 := (Fr.new (o := HO.lst [.int 1, .int 1, .int 2, .int 3]) hp).trans fr9
      refine ⟨_, f79 _ _ e (B6.out hD), small_line (by simp; omega), hN _ _ upd_same ((fr.trans f79).put (.inl hD)) ⟨cs ++ [v], by simp, ?_, by simp [c2], B9.upd' B6 hD⟩⟩
      intro x hx
      rcases List.mem_append.mp hx with h | h
      · exact c1 x h
      · rw [List.mem_singleton.mp h]
        omega
    · rintro acc H7 fr e ⟨cs, rfl, c1, c2, B7⟩
      refine ⟨D, _, rfl, .inl ⟨SqL.of e, fun t ht => ?_⟩⟩
      exact hZ _ _ ⟨t, cs, rfl, B7.new ht, (f6.trans fr).trans (Fr.new ht), SqT.of upd_same, ⟨by rw [c2]; simp, c1⟩⟩
  clear hca hC ca cs
  rintro _ H6 ⟨ca, cs, rfl, B6, f6, hca, hC⟩
  have dt := Dp.tps (f6.tps (K := K) B5.mut) _ _ (tabD_flat Tb) dt
  have lcs : cs.length = sg.length := by have := hC.len; omega
  have pos := coOf_pos (cs := cs) fun x hx => (hC.ok x hx).1
  have hco : CoOk cs (coOf cs) Tb := coOf_ok (fun x hx => (hC.ok x hx).1) fun r hr => by rw [lcs]; exact hsy r hr
  clear hsa f6 B5
  -- most
  refine seq_cut (fun σ H' => ∃ (m : Nat), σ = [some (.ref a), some (.ref b), some (.int kd), some (.ref ca), some (.int (m : Nat)), none, none, none, none, none, none, none, some (.ref sa), some (.ref ta), none, none, none, none, none] ∧ Bag H' b cl ∧ Fr [b, cl] H6 H' ∧ 1 ≤ m ∧ m ≤ 20 ∧ wid m Tb ≤ 5000) (fun Z hZ => ?_) ?_
  · refine ⟨_, rfl, _, _, rfl, rfl, _, rfl, ?_⟩
    refine dec_b (fun _ => ?_) (fun _ => ?_)
    · exact ⟨_, rfl, _, rfl, b, cl, ta, Tb, n, arOf sg, rfl, B6, dt, G, fun m H' m1 m2 hw B' fr => hZ _ _ ⟨m, rfl, B', fr, m1, m2, hw⟩⟩
    · exact hZ _ _ ⟨2, rfl, B6, Fr.refl _ _, by decide, by decide, by have := wid_two G; omega⟩
  rintro _ H7 ⟨m, rfl, B7, f7, m1, m2, hw⟩
  have t7 := f7.tps (K := K) B6.mut
  have dt := Dp.tps t7 _ _ (tabD_flat Tb) dt
  have hca := t7 _ _ hca
  clear t7 f7 B6
  -- found
  refine ⟨_, rfl, _, rfl, _, rfl, ta, ca, m, Tb, n, arOf sg, cs, coOf cs, rfl, dt, G, .inr hca, hco, pos, m1, m2, hw, fun fp ls g H8 s8 fp0 FH gFP => ?_⟩
  have B8 := B7.same s8
  have dt := Dp.tps (Tps.same s8) _ _ (tabD_flat Tb) dt
  have hca := (Tps.same s8) _ _ hca
  have gne : ∀ i, i < n → g i ≠ [] := fun i hi => by
    obtain ⟨u, hu, _⟩ := G.has i hi
    exact (gFP i).ne m1 hu
  dsimp only
  -- some
  refine ⟨_, rfl, _, rfl, _, rfl, b, cl, ta, Tb, n, m, arOf sg, rfl, B8, dt, G, m1, m2, fun q zs qs H9 q0 hq9 dq hqs l2 l100 B9 f9 => ?_⟩
  have FH := FH.fr B8 f9 G.n1 gne
  have t9 := f9.tps (K := K) B8.mut
  have dt := Dp.tps t9 _ _ (tabD_flat Tb) dt
  have hca := t9 _ _ hca
  clear B9 f9 t9 B8 s8 B7 fp0 q0 hS
  dsimp only
  -- if kind == 2
  refine seq_cut (fun σ H' => ∃ (v10 v11 : Option V) (q : Addr) (zs : List V) (qs : List (Nat × Nat)), σ = [some (.ref a), some (.ref b), some (.int kd), some (.ref ca), some (.int (m : Nat)), some (.ref fp), some (.ref q), none, none, none, v10, v11, some (.ref sa), some (.ref ta), none, none, none, none, none] ∧ Same H9 H' ∧ H' q = some (.lst zs) ∧ DpAll K H' zs (qs.map qD) ∧ (∀ e ∈ qs, e.1 < n ∧ e.2 ≤ m) ∧ 2 ≤ qs.length ∧ qs.length ≤ 102) (fun Z hZ => ?_) ?_
  · refine ⟨_, rfl, .inl ⟨rfl, _, rfl, ?_⟩⟩
    refine dec_b (fun _ => ?_) (fun _ => hZ _ _ ⟨none, none, q, zs, qs, rfl, fun _ _ h => h, hq9, dq, hqs, l2, by omega⟩)
    obtain ⟨e0, qs0, rfl⟩ := List.exists_cons_of_ne_nil (l := qs) fun e => by
      rw [e] at l2
      simp at l2
    have hz : ∃ z0 zs0, zs = z0 :: zs0 ∧ Dp K H9 z0 (qD e0) := by
      cases dq with
      | cons h1 h2 => exact ⟨_, _, rfl, h1⟩
    obtain ⟨z0, zs0, rfl, dz0⟩ := hz
    obtain ⟨z, rfl, hz0⟩ := R59.Dp.q dz0
    obtain ⟨he1, he2⟩ := hqs e0 List.mem_cons_self
    obtain ⟨ga, gy, eg, hga, dgy⟩ := FH.get he1
    have lgy : gy.length ≤ m := by
      rw [DpAll.len dgy, List.length_map]
      exact (gFP e0.1).len
    -- own
    refine seq_cut (fun σ H' => ∃ (op : Addr) (os : List Int), σ = [some (.ref a), some (.ref b), some (.int kd), some (.ref ca), some (.int (m : Nat)), some (.ref fp), some (.ref q), none, none, none, some (.ref op), none, some (.ref sa), some (.ref ta), none, none, none, none, none] ∧ Same H9 H' ∧ H' op = some (.lst (os.map V.int)) ∧ (os.filter fun x => decide (x ≤ 40)).length ≤ m ∧ os.length ≤ 100) (fun Y hY => ?_) ?_
    · refine ⟨_, rfl, _, rfl, q, _, 0, _, rfl, rfl, .inl (SqL.of hq9), atI0, z, _, 0, _, rfl, rfl, .inr hz0, rfl, fp, _, (e0.1 : Nat), _, rfl, rfl, .inl (SqL.of FH.hp), eg, ga, rfl, ⟨_, SqL.of hga⟩, fun D hD => ?_⟩
      refine lcM (walk_list (xs := gy)) [] hD (fun i acc H' => ∃ os : List Int, acc = os.map V.int ∧ os.length = i) ⟨[], rfl, rfl⟩ (fun i acc H' fr _ => SqL.of (fr.same _ _ hga)) ?_ ?_
      · rintro j v acc Hz Ha Nx hN hj fr e ⟨os, rfl, lo⟩ ⟨rfl, hv⟩
        obtain ⟨dd, ed, dr⟩ := DpAll.get' (DpAll.tps (Tps.same fr.same) _ _ (flatDs_all _ _ fun t => lbD_flat (coOf cs) (e0.1, t)) dgy) hv
        rw [List.getElem?_map] at ed
        obtain ⟨t, et, rfl⟩ := Option.map_eq_some_iff.mp ed
        obtain ⟨ra, sa', w', rfl, h1, h2, h3⟩ := R59.Dp.lb dr
        refine ⟨rfl, ?_⟩
        refine yes_cut ?_
        exact ⟨_, rfl, ra, _, 1, _, rfl, rfl, .inr h1, rfl, _, e, small_line (by rw [List.length_map]; omega), hN _ _ upd_same (fr.put (.inl hD)) ⟨os ++ [(t.size : Int)], by simp, by simp [lo]⟩⟩
      · rintro acc Ha fr e ⟨os, rfl, lo⟩
        refine ⟨by show 1 ≤ sizeLine; decide, fun p hp => .inr (.inl ⟨D, p, _, _, rfl, rfl, (Fr.new (M := []) hp).same _ _ e, upd_same, Nat.le_of_lt (small_line (by simp; omega)), fun l hl => ?_⟩)⟩
        refine hY _ _ ⟨l, os ++ [99], rfl, (fr.same.trans (Fr.new (M := []) hp).same).trans (Fr.new (M := []) hl).same, ?_, ?_, by simp; omega⟩
        · rw [upd_same, List.map_append]
          rfl
        · rw [List.filter_append]
          have : ([99] : List Int).filter (fun x => decide (x ≤ 40)) = [] := by decide
          rw [this, List.append_nil]
          exact Nat.le_trans (List.length_filter_le _ _) (by omega)
    rintro _ Hb ⟨op, os, rfl, sb, hop, lf, lo⟩
    -- last
    refine seq_cut (fun σ H' => ∃ (op : Addr) (lc : Nat), σ = [some (.ref a), some (.ref b), some (.int kd), some (.ref ca), some (.int (m : Nat)), some (.ref fp), some (.ref q), none, none, none, some (.ref op), some (.int (lc : Nat)), some (.ref sa), some (.ref ta), none, none, none, none, none] ∧ Same H9 H' ∧ lc ≤ m) (fun Y hY => ?_) ?_
    · refine ⟨_, rfl, op, rfl, ⟨_, SqL.of hop⟩, fun D hD => ?_⟩
      refine lcM (walk_list (xs := os.map V.int)) [] hD (fun i acc H' => acc.length = ((os.take i).filter fun x => decide (x ≤ 40)).length) rfl (fun i acc H' fr _ => SqL.of (fr.same _ _ hop)) ?_ ?_
      · rintro j v acc Hz Ha Nx hN hj fr e la ⟨rfl, hv⟩
        rw [List.getElem?_map] at hv
        obtain ⟨x, ex, rfl⟩ := Option.map_eq_some_iff.mp hv
        have lacc : acc.length ≤ 100 := by
          have := List.length_filter_le (fun x : Int => decide (x ≤ 40)) (os.take j)
          rw [List.length_take] at this
          omega
        refine ⟨rfl, ?_⟩
        refine ⟨_, rfl, _, _, rfl, rfl, _, rfl, ?_⟩
        refine dec_b (fun h => ?_) (fun h => ?_)
        · refine ⟨_, rfl, _, e, small_line (by omega), hN _ _ upd_same (fr.put (.inl hD)) ?_⟩
          rw [take_get ex, List.filter_append, List.length_append, List.length_append, la]
          simp [h]
        · refine hN _ _ e fr ?_
          rw [take_get ex, List.filter_append, List.length_append, la]
          simp [h]
      · rintro acc Ha fr e la
        rw [List.length_map, List.take_of_length_le (Nat.le_refl _)] at la
        exact ⟨D, acc, rfl, .inl (SqL.of e), hY _ _ ⟨op, acc.length, rfl, sb.trans fr.same, by omega⟩⟩
    clear hop
    rintro _ Hc ⟨op, lc, rfl, sc, hlc⟩
    have hqc := sc _ _ hq9
    have hzc := (Tps.same (K := K) sc) _ _ hz0
    refine ⟨_, rfl, _, rfl, q, _, 0, _, rfl, rfl, .inl (SqL.of hqc), atI0, z, _, 0, _, rfl, rfl, .inr hzc, rfl, _, rfl, by show 2 ≤ sizeLine; decide, fun t1 ht1 => ?_⟩
    have q1 := (Fr.new (M := []) (o := .tup [.int (e0.1 : Nat), .int (lc : Nat)]) ht1).same
    have w1 := qD_made (K := K) (x := e0.1) (y := lc) (SqT.of (H := upd Hc t1 (.tup [.int (e0.1 : Nat), .int (lc : Nat)])) upd_same)
    generalize upd Hc t1 (.tup [.int (e0.1 : Nat), .int (lc : Nat)]) = Hd at q1 w1
    have hqd := q1 _ _ hqc
    have hzd := (Tps.same (K := K) q1) _ _ hzc
    refine ⟨_, rfl, q, _, 0, _, rfl, rfl, .inl (SqL.of hqd), atI0, z, _, 0, _, rfl, rfl, .inr hzd, rfl, _, rfl, .inl ⟨_, _, rfl, rfl, _, rfl, ?_⟩⟩
    refine ⟨_, _, rfl, ?_⟩
    have emin : (if ((m : Nat) : Int) < (lc : Nat) + 1 then ((m : Nat) : Int) else (lc : Nat) + 1) = ((min (lc + 1) m : Nat) : Int) := by
      split <;> omega
    rw [emin]
    refine ⟨by show 2 ≤ sizeLine; decide, fun t2 ht2 => ?_⟩
    have q2 := (Fr.new (M := []) (o := .tup [.int (e0.1 : Nat), .int (min (lc + 1) m : Nat)]) ht2).same
    have w2 := qD_made (K := K) (x := e0.1) (y := min (lc + 1) m) (SqT.of (H := upd Hd t2 (.tup [.int (e0.1 : Nat), .int (min (lc + 1) m : Nat)])) upd_same)
    generalize upd Hd t2 (.tup [.int (e0.1 : Nat), .int (min (lc + 1) m : Nat)]) = He at q2 w2
    refine ⟨by show 2 ≤ sizeLine; decide, fun lp hlp => ?_⟩
    have q3 := (Fr.new (M := []) (o := .lst [.ref t1, .ref t2]) hlp).same
    have lzs : (V.ref z :: zs0).length = (e0 :: qs0).length := by rw [DpAll.len dq, List.length_map]
    refine .inr (.inl ⟨q, lp, _, _, rfl, rfl, (q2.trans q3) _ _ hqd, upd_same, Nat.le_of_lt (small_line (by rw [lzs]; show _ + 2 ≤ _; omega)), fun l hl => ?_⟩)
    have q4 := q3.trans (Fr.new (M := []) (o := .lst ((.ref z :: zs0) ++ [.ref t1, .ref t2])) hl).same
    refine hZ _ _ ⟨_, _, l, _, (e0 :: qs0) ++ [(e0.1, lc), (e0.1, min (lc + 1) m)], rfl, ((sc.trans q1).trans q2).trans q4, upd_same, ?_, ?_, by rw [List.length_append]; omega, by rw [List.length_append]; show _ + 2 ≤ _; omega⟩
    · rw [List.map_append]
      have t4 := Tps.same (K := K) (q2.trans q4)
      exact DpAll.app (DpAll.tps ((Tps.same (sc.trans q1)).trans t4) _ _ (flatDs_all _ _ qD_flat) dq) (.cons (Dp.tps t4 _ _ (qD_flat _) w1) (.cons (Dp.tps (Tps.same q4) _ _ (qD_flat _) w2) .nil))
    · intro e he
      rcases List.mem_append.mp he with he | he
      · exact hqs e he
      · simp only [List.mem_cons, List.not_mem_nil, or_false] at he
        rcases he with rfl | rfl
        · exact ⟨he1, hlc⟩
        · exact ⟨he1, Nat.min_le_right _ _⟩
  clear hq9 dq hqs l2 l100
  rintro _ H10 ⟨v10, v11, q, zs, qs, rfl, s10, hqq, dq, hqs, l2, l102⟩
  have FH := FH.same s10
  have dt := Dp.tps (Tps.same s10) _ _ (tabD_flat Tb) dt
  have hca := (Tps.same s10) _ _ hca
  have lzs : zs.length = qs.length := by rw [DpAll.len dq, List.length_map]
  clear s10
  have quest : ∀ {Hx : Hp}, Same H10 Hx → ∀ {j : Nat} {v : V}, zs[j]? = some v → ∃ e z, qs[j]? = some e ∧ v = .ref z ∧ SqT K Hx z [.int (e.1 : Nat), .int (e.2 : Nat)] := fun {Hx} sx {j v} hv => by
    obtain ⟨dd, ed, dr⟩ := DpAll.get' (DpAll.tps (Tps.same sx) _ _ (flatDs_all _ _ qD_flat) dq) hv
    rw [List.getElem?_map] at ed
    obtain ⟨e, ee, rfl⟩ := Option.map_eq_some_iff.mp ed
    obtain ⟨z, rfl, h1⟩ := R59.Dp.q dr
    exact ⟨e, z, ee, rfl, h1⟩
  -- dues
  refine seq_cut (fun σ H' => ∃ (dp : Addr) (ds : List V), σ = [some (.ref a), some (.ref b), some (.int kd), some (.ref ca), some (.int (m : Nat)), some (.ref fp), some (.ref q), some (.ref dp), none, none, v10, v11, some (.ref sa), some (.ref ta), none, none, none, none, none] ∧ Same H10 H' ∧ H' dp = some (.lst ds) ∧ DpAll K H' ds (qs.map fun e => dueD ((g e.1).take (max 1 e.2)))) (fun Z hZ => ?_) ?_
  · refine ⟨_, rfl, q, rfl, ⟨_, SqL.of hqq⟩, fun D hD => ?_⟩
    refine lcM (walk_list (xs := zs)) [] hD (fun i acc H' => DpAll K H' acc ((qs.take i).map fun e => dueD ((g e.1).take (max 1 e.2)))) .nil (fun i acc H' fr _ => SqL.of (fr.same _ _ hqq)) ?_ ?_
    · rintro j v acc Hz Ha Nx hN hj fr e dA ⟨rfl, hv⟩
      obtain ⟨ee, z, eq, rfl, hz⟩ := quest fr.same hv
      obtain ⟨he1, he2⟩ := hqs ee (List.mem_of_getElem? eq)
      have FHa := FH.same fr.same
      obtain ⟨ga, gy, eg, hga, dgy⟩ := FHa.get he1
      have lacc : acc.length ≤ 102 := by
        rw [DpAll.len dA, List.length_map, List.length_take]
        omega
      refine ⟨z, _, rfl, hz, rfl, _, _, rfl, _, _, rfl, rfl, rfl, ?_⟩
      refine yes_cut ?_
      refine ⟨_, rfl, _, rfl, fp, _, (ee.1 : Nat), _, rfl, rfl, .inl (SqL.of FHa.hp), eg, _, rfl, ga, gy, g ee.1, coOf cs, ee.1, ee.2, rfl, hga, dgy, gne _ he1, Nat.le_trans (gFP ee.1).len m2, fun v H' s' dv => ?_⟩
      have e' := s' _ _ e
      have tm := Tps.mut (K := K) (o := .lst (acc ++ [v])) e' trivial
      refine ⟨_, e', small_line (by omega), hN _ _ upd_same ((fr.trans (.of_same s')).put (.inl hD)) ?_⟩
      rw [take_get eq, List.map_append]
      exact DpAll.app (DpAll.tps ((Tps.same s').trans tm) _ _ (flatDs_all _ _ fun e => dueD_flat _) dA) (.cons (Dp.tps tm _ _ (dueD_flat _) dv) .nil)
    · rintro acc Ha fr e dA
      rw [lzs, List.take_of_length_le (Nat.le_refl _)] at dA
      exact hZ _ _ ⟨D, acc, rfl, fr.same, e, dA⟩
  rintro _ H11 ⟨dp, ds, rfl, s11, hdp, dd⟩
  have dt := Dp.tps (Tps.same s11) _ _ (tabD_flat Tb) dt
  have hca := (Tps.same s11) _ _ hca
  have hqq := s11 _ _ hqq
  have quest : ∀ {Hx : Hp}, Same H11 Hx → ∀ {j : Nat} {v : V}, zs[j]? = some v → ∃ e z, qs[j]? = some e ∧ v = .ref z ∧ SqT K Hx z [.int (e.1 : Nat), .int (e.2 : Nat)] := fun {Hx} sx {j v} hv => quest (s11.trans sx) hv
  have lds : ds.length = qs.length := by rw [DpAll.len dd, List.length_map]
  clear s11 FH dq
  obtain ⟨sh1, sh2, sh3⟩ := kept_show G (cs := cs) (by have := S.hi; omega) hC.ok
  have kd' : ∀ {Hx : Hp} {lp : Addr}, Same H11 Hx → Hx lp = none → Dp K (upd Hx lp (.lst [.ref ta, .ref ca])) (.ref lp) (keptD Tb cs) := fun {Hx lp} sx hl => by
    have s' := sx.trans (Fr.new (M := []) (o := .lst [.ref ta, .ref ca]) hl).same
    exact .lst (SqL.of upd_same) (.cons (Dp.tps (Tps.same s') _ _ (tabD_flat Tb) dt) (.cons (.tup ((Tps.same s') _ _ hca) (DpAll.ints cs)) .nil))
  -- kept
  refine ⟨_, rfl, _, rfl, by show 2 ≤ sizeLine; decide, fun lp hlp => ⟨lp, keptD Tb cs, rfl, kd' (fun _ _ h => h) hlp, sh1, sh2, sh3, ?_⟩⟩
  have s12 := (Fr.new (M := []) (o := .lst [.ref ta, .ref ca]) hlp).same
  generalize upd H11 lp (.lst [.ref ta, .ref ca]) = H12 at s12
  have hqq := s12 _ _ hqq
  have hdp := s12 _ _ hdp
  have wd1 : wid 1 Tb ≤ 10000 := by have := wid_one G; omega
  have due : ∀ {e : Nat × Nat} {l : List Tm}, e ∈ qs → FP Tb big40 (coOf cs) (max 1 e.2) e.1 l → dueD l = dueD ((g e.1).take (max 1 e.2)) := fun {e l} he FPl => by
    have := (hqs e he).2
    exact due_same G.a3 FPl (((gFP e.1).take (by omega)).less fun _ h => False.elim h)
  dsimp only
  -- for turn in range(len(some))
  refine seq_cut (fun σ H' => ∃ (v9 v14 v15 : Option V), σ = [some (.ref a), some (.ref b), some (.int kd), some (.ref ca), some (.int (m : Nat)), some (.ref fp), some (.ref q), some (.ref dp), some (.str (keptD Tb cs).shown), v9, v10, v11, some (.ref sa), some (.ref ta), v14, v15, none, none, none] ∧ Same H12 H') (fun Z hZ => ?_) ?_
  · refine ⟨_, rfl, q, zs, rfl, .inl (SqL.of hqq), _, rfl, by omega, by omega, ?_⟩
    refine for_it (D := { nx := Z, rt := Q }) (walk_range (lo := 0) (n := ((zs.length : Nat) : Int).toNat)) (fun i σ H' => ∃ (v9 v14 v15 : Option V), σ = [some (.ref a), some (.ref b), some (.int kd), some (.ref ca), some (.int (m : Nat)), some (.ref fp), some (.ref q), some (.ref dp), some (.str (keptD Tb cs).shown), v9, v10, v11, some (.ref sa), some (.ref ta), v14, v15, none, none, none] ∧ Same H12 H') ⟨_, _, _, rfl, fun _ _ h => h⟩ (fun _ _ _ _ _ => trivial) ?_ ?_
    · rintro i x _ Hz Ha hi ⟨v9, v14, v15, rfl, sx⟩ ⟨rfl, rfl⟩
      dsimp only [gName]
      have e0 : (0 : Int) + ((i : Nat) : Int) = ((i : Nat) : Int) := by omega
      rw [e0]
      have hil : i < qs.length := by omega
      have hzi : zs[i]? = some (zs[i]'(by omega)) := List.getElem?_eq_getElem _
      obtain ⟨e, z, eq, ez, hz⟩ := quest (s12.trans sx) hzi
      rw [ez] at hzi
      have he := List.mem_of_getElem? eq
      obtain ⟨he1, he2⟩ := hqs e he
      have hdi : ds[i]? = some (ds[i]'(by omega)) := List.getElem?_eq_getElem _
      generalize ds[i]'(by omega) = dv at hdi
      obtain ⟨de, ede, ddv⟩ := DpAll.get' dd hdi
      rw [List.getElem?_map, eq] at ede
      obtain rfl := Option.some.inj ede
      refine ⟨_, rfl, _, rfl, q, _, (i : Nat), _, rfl, rfl, .inl (SqL.of (sx _ _ hqq)), atI_nat hzi, z, _, rfl, hz, rfl, _, _, rfl, _, _, rfl, rfl, ?_⟩
      dsimp only [gName]
      refine ⟨_, rfl, _, rfl, _, rfl, _, rfl, _, rfl, ⟨_, _, rfl, rfl, (by decide : (0 : Int) < 2), .inl ⟨rfl, ?_⟩⟩⟩
      refine ⟨ta, ca, Tb, n, e.2, arOf sg, cs, coOf cs, e.1, _, rfl, Dp.tps (Tps.same (s12.trans sx)) _ _ (tabD_flat Tb) dt, G, (Tps.same (s12.trans sx)) _ _ hca, hco, pos, by omega, Nat.le_trans (wid_mono he2) (by omega), wd1, he1, fun l FPl v H' s' dl => ?_⟩
      refine ⟨_, rfl, _, rfl, dp, _, (i : Nat), _, rfl, rfl, .inl (SqL.of ((sx.trans s') _ _ hdp)), atI_nat hdi, ?_⟩
      refine ⟨v, dv, dueD l, rfl, dl, ?_, dueD_flat _, dueD_wd (Nat.le_trans FPl.len (by omega)), Nat.lt_succ_of_le dueD_depth, fun H'' s'' => ⟨_, rfl, iteF ⟨_, _, _, rfl, (sx.trans s').trans s''⟩⟩⟩
      rw [due he FPl]
      exact Dp.tps (Tps.same ((s12.trans sx).trans s')) _ _ (dueD_flat _) ddv
    · rintro _ Ha ⟨v9, v14, v15, rfl, sx⟩
      exact hZ _ _ ⟨_, _, _, rfl, sx⟩
  rintro _ H13 ⟨v9, v14, v15, rfl, s13⟩
  refine seq_cut (fun σ H' => ∃ (v9 v14 v15 : Option V), σ = [some (.ref a), some (.ref b), some (.int kd), some (.ref ca), some (.int (m : Nat)), some (.ref fp), some (.ref q), some (.ref dp), some (.str (keptD Tb cs).shown), v9, v10, v11, some (.ref sa), some (.ref ta), v14, v15, none, none, none] ∧ Same H12 H') (fun Z hZ => ?_) ?_
  · refine ⟨_, rfl, by decide, by decide, ?_⟩
    refine for_it (D := { nx := Z, rt := Q }) (walk_range (lo := 0) (n := (2 : Int).toNat)) (fun i σ H' => ∃ (v9 v14 v15 : Option V), σ = [some (.ref a), some (.ref b), some (.int kd), some (.ref ca), some (.int (m : Nat)), some (.ref fp), some (.ref q), some (.ref dp), some (.str (keptD Tb cs).shown), v9, v10, v11, some (.ref sa), some (.ref ta), v14, v15, none, none, none] ∧ Same H12 H') ⟨_, _, _, rfl, s13⟩ (fun _ _ _ _ _ => trivial) ?_ ?_
    · rintro i x _ Hz Ha hi ⟨v9, v14, v15, rfl, sx⟩ ⟨rfl, rfl⟩
      dsimp only [gName]
      have e0 : (0 : Int) + ((i : Nat) : Int) = ((i : Nat) : Int) := by omega
      rw [e0]
      have hil : i < qs.length := Nat.lt_of_lt_of_le hi l2
      have hzi : zs[i]? = some (zs[i]'(by omega)) := List.getElem?_eq_getElem _
      obtain ⟨e, z, eq, ez, hz⟩ := quest (s12.trans sx) hzi
      rw [ez] at hzi
      have he := List.mem_of_getElem? eq
      obtain ⟨he1, he2⟩ := hqs e he
      have hdi : ds[i]? = some (ds[i]'(by omega)) := List.getElem?_eq_getElem _
      generalize ds[i]'(by omega) = dv at hdi
      obtain ⟨de, ede, ddv⟩ := DpAll.get' dd hdi
      rw [List.getElem?_map, eq] at ede
      obtain rfl := Option.some.inj ede
      refine ⟨_, rfl, _, rfl, q, _, (i : Nat), _, rfl, rfl, .inl (SqL.of (sx _ _ hqq)), atI_nat hzi, z, _, rfl, hz, rfl, _, _, rfl, _, _, rfl, rfl, ?_⟩
      dsimp only [gName]
      refine ⟨_, rfl, _, rfl, _, rfl, _, rfl, _, rfl, ⟨_, _, rfl, rfl, (by decide : (0 : Int) < 2), .inl ⟨rfl, ?_⟩⟩⟩
      refine ⟨ta, ca, Tb, n, e.2, arOf sg, cs, coOf cs, e.1, _, rfl, Dp.tps (Tps.same (s12.trans sx)) _ _ (tabD_flat Tb) dt, G, (Tps.same (s12.trans sx)) _ _ hca, hco, pos, by omega, Nat.le_trans (wid_mono he2) (by omega), wd1, he1, fun l FPl v H' s' dl => ?_⟩
      refine ⟨_, rfl, _, rfl, dp, _, (i : Nat), _, rfl, rfl, .inl (SqL.of ((sx.trans s') _ _ hdp)), atI_nat hdi, ?_⟩
      refine ⟨v, dv, dueD l, rfl, dl, ?_, dueD_flat _, dueD_wd (Nat.le_trans FPl.len (by omega)), Nat.lt_succ_of_le dueD_depth, fun H'' s'' => ⟨_, rfl, iteF ⟨_, _, _, rfl, (sx.trans s').trans s''⟩⟩⟩
      rw [due he FPl]
      exact Dp.tps (Tps.same ((s12.trans sx).trans s')) _ _ (dueD_flat _) ddv
    · rintro _ Ha ⟨v9, v14, v15, rfl, sx⟩
      exact hZ _ _ ⟨_, _, _, rfl, sx⟩
  rintro _ H14 ⟨v9, v14, v15, rfl, s14⟩
  refine ⟨_, rfl, _, rfl, by show 2 ≤ sizeLine; decide, fun lp hlp => ⟨lp, keptD Tb cs, rfl, kd' (s12.trans s14) hlp, sh1, sh2, sh3, ?_⟩⟩
  refine ⟨_, rfl, .inl ⟨rfl, ?_⟩⟩
  have e : decide (V.str (keptD Tb cs).shown = V.str (keptD Tb cs).shown) = true := decide_eq_true rfl
  rw [e]
  exact k _
end
end R59
/-! W32 -/
set_option maxHeartbeats 4000000
/-! the head's facts -/
namespace R59
open PySem PySem.Spec PyProof.Rows L2
abbrev P0 : Program := (PySem.W.OpenLaw.row PySem.Challenge.rw_toldterms_k59_whole_cheapest_members).prog
def d_how_many : He.DefD := ⟨("how_many", none), "how_many", "how_many", defArgs s_how_many, defBody s_how_many, defScope s_how_many, [], []⟩
def d_F_put : He.DefD := ⟨("Found", some "put"), "put", "Found.put", defArgs s_put, defBody s_put, defScope s_put, [], []⟩
def d_F_with_newest : He.DefD := ⟨("Found", some "with_newest"), "with_newest", "Found.with_newest", defArgs s_with_newest, defBody s_with_newest, defScope s_with_newest, [], []⟩
def d_F_choices : He.DefD := ⟨("Found", some "choices"), "choices", "Found.choices", defArgs s_choices, defBody s_choices, defScope s_choices, [], []⟩
def d_F_spread : He.DefD := ⟨("Found", some "spread"), "spread", "Found.spread", defArgs s_spread, defBody s_spread, defScope s_spread, [], []⟩
def d_F_of : He.DefD := ⟨("Found", some "of"), "of", "Found.of", defArgs s_of, defBody s_of, defScope s_of, [], []⟩
def d_F_init : He.DefD := ⟨("Found", some "__init__"), "__init__", "Found.__init__", defArgs s_init, defBody s_init, defScope s_init, [], []⟩
def d_bests : He.DefD := ⟨("bests", none), "bests", "bests", defArgs s_bests, defBody s_bests, defScope s_bests, [], []⟩
def d_cheapest : He.DefD := ⟨("cheapest", none), "cheapest", "cheapest", defArgs s_cheapest, defBody s_cheapest, defScope s_cheapest, [], []⟩
def d_law_own_bag : He.DefD := ⟨("_law_own_bag", none), "_law_own_bag", "_law_own_bag", defArgs s_law_own_bag, defBody s_law_own_bag, defScope s_law_own_bag, [], []⟩
def d_law_draw : He.DefD := ⟨("_law_draw", none), "_law_draw", "_law_draw", defArgs s_law_draw, defBody s_law_draw, defScope s_law_draw, [], []⟩
def d_law_pick : He.DefD := ⟨("_law_pick", none), "_law_pick", "_law_pick", defArgs s_law_pick, defBody s_law_pick, defScope s_law_pick, [], []⟩
def d_law_same : He.DefD := ⟨("_law_same", none), "_law_same", "_law_same", defArgs s_law_same, defBody s_law_same, defScope s_law_same, [], []⟩
def d_law_refusal : He.DefD := ⟨("_law_refusal", none), "_law_refusal", "_law_refusal", defArgs s_law_refusal, defBody s_law_refusal, defScope s_law_refusal, [], []⟩
def d_law_signature : He.DefD := ⟨("_law_signature", none), "_law_signature", "_law_signature", defArgs s_law_signature, defBody s_law_signature, defScope s_law_signature, [], []⟩
def d_law_costs : He.DefD := ⟨("_law_costs", none), "_law_costs", "_law_costs", defArgs s_law_costs, defBody s_law_costs, defScope s_law_costs, [], []⟩
def d_law_shuffled : He.DefD := ⟨("_law_shuffled", none), "_law_shuffled", "_law_shuffled", defArgs s_law_shuffled, defBody s_law_shuffled, defScope s_law_shuffled, [], []⟩
def d_law_rows : He.DefD := ⟨("_law_rows", none), "_law_rows", "_law_rows", defArgs s_law_rows, defBody s_law_rows, defScope s_law_rows, [], []⟩
def d_law_leasts : He.DefD := ⟨("_law_leasts", none), "_law_leasts", "_law_leasts", defArgs s_law_leasts, defBody s_law_leasts, defScope s_law_leasts, [], []⟩
def d_law_table : He.DefD := ⟨("_law_table", none), "_law_table", "_law_table", defArgs s_law_table, defBody s_law_table, defScope s_law_table, [], []⟩
def d_law_many : He.DefD := ⟨("_law_many", none), "_law_many", "_law_many", defArgs s_law_many, defBody s_law_many, defScope s_law_many, [], []⟩
def d_law_edge : He.DefD := ⟨("_law_edge", none), "_law_edge", "_law_edge", defArgs s_law_edge, defBody s_law_edge, defScope s_law_edge, [], []⟩
def d_law_tower : He.DefD := ⟨("_law_tower", none), "_law_tower", "_law_tower", defArgs s_law_tower, defBody s_law_tower, defScope s_law_tower, [], []⟩
def d_law_ring : He.DefD := ⟨("_law_ring", none), "_law_ring", "_law_ring", defArgs s_law_ring, defBody s_law_ring, defScope s_law_ring, [], []⟩
def d_law_ties : He.DefD := ⟨("_law_ties", none), "_law_ties", "_law_ties", defArgs s_law_ties, defBody s_law_ties, defScope s_law_ties, [], []⟩
def d_law_joined : He.DefD := ⟨("_law_joined", none), "_law_joined", "_law_joined", defArgs s_law_joined, defBody s_law_joined, defScope s_law_joined, [], []⟩
def d_law_new : He.DefD := ⟨("_law_new", none), "_law_new", "_law_new", defArgs s_law_new, defBody s_law_new, defScope s_law_new, [], []⟩
def d_law_bests : He.DefD := ⟨("_law_bests", none), "_law_bests", "_law_bests", defArgs s_law_bests, defBody s_law_bests, defScope s_law_bests, [], []⟩
def d_law_asked : He.DefD := ⟨("_law_asked", none), "_law_asked", "_law_asked", defArgs s_law_asked, defBody s_law_asked, defScope s_law_asked, [], []⟩
def d_law_due : He.DefD := ⟨("_law_due", none), "_law_due", "_law_due", defArgs s_law_due, defBody s_law_due, defScope s_law_due, [], []⟩
def d_law_near_costs : He.DefD := ⟨("_law_near_costs", none), "_law_near_costs", "_law_near_costs", defArgs s_law_near_costs, defBody s_law_near_costs, defScope s_law_near_costs, [], []⟩
def d_law_questions : He.DefD := ⟨("_law_questions", none), "_law_questions", "_law_questions", defArgs s_law_questions, defBody s_law_questions, defScope s_law_questions, [], []⟩
def d_law_most : He.DefD := ⟨("_law_most", none), "_law_most", "_law_most", defArgs s_law_most, defBody s_law_most, defScope s_law_most, [], []⟩
def d_law_is_wide_right : He.DefD := ⟨("_law_is_wide_right", none), "_law_is_wide_right", "_law_is_wide_right", defArgs s_law_is_wide_right, defBody s_law_is_wide_right, defScope s_law_is_wide_right, [], []⟩
def d_law : He.DefD := ⟨("law", none), "law", "law", defArgs s_law, defBody s_law, defScope s_law, [], []⟩
def fnL : List He.DefD := [d_how_many, d_F_put, d_F_with_newest, d_F_choices, d_F_spread, d_F_of, d_F_init, d_bests, d_cheapest, d_law_own_bag, d_law_draw, d_law_pick, d_law_same, d_law_refusal, d_law_signature, d_law_costs, d_law_shuffled, d_law_rows, d_law_leasts, d_law_table, d_law_many, d_law_edge, d_law_tower, d_law_ring, d_law_ties, d_law_joined, d_law_new, d_law_bests, d_law_asked, d_law_due, d_law_near_costs, d_law_questions, d_law_most, d_law_is_wide_right, d_law]
def faL : List He.Fa := [.free "len", .free "sorted", .free "max", .free "min", .free "sum", .free "all", .free "abs", .free "repr", .free "isinstance", .free "list", .free "tuple", .free "set", .free "int", .free "bool", .free "str", .free "range", .free "enumerate", .free "zip", .free "reversed", .free "super", .free "ValueError", .cls "Found", .noat "Found" "table", .noat "Found" "costs", .noat "Found" "many", .noat "Found" "members", .noat "Found" "waiting", .noat "Found" "count", .noat "Found" "uses", .int "MAX_SIZE" 40, .glo "Found", .mkr "Found", .glo "TooMany", .glo "Unfit", .glo "NothingToUndo", .glo "BadText", .glo "BadLog", .glo "BadTerm", .glo "BadRule", .glo "Refused", .glo "TermError", .glo "how_many", .meth "Found" "put", .meth "Found" "with_newest", .meth "Found" "choices", .meth "Found" "spread", .meth "Found" "of", .meth "Found" "__init__", .glo "bests", .glo "cheapest", .glo "_law_own_bag", .glo "_law_draw", .glo "_law_pick", .glo "_law_same", .glo "_law_refusal", .glo "_law_signature", .glo "_law_costs", .glo "_law_shuffled", .glo "_law_rows", .glo "_law_leasts", .glo "_law_table", .glo "_law_many", .glo "_law_edge", .glo "_law_tower", .glo "_law_ring", .glo "_law_ties", .glo "_law_joined", .glo "_law_new", .glo "_law_bests", .glo "_law_asked", .glo "_law_due", .glo "_law_near_costs", .glo "_law_questions", .glo "_law_most", .glo "_law_is_wide_right", .glo "law"]
/-! ### the class TooMany -/
abbrev s_lim : Stmt := inClass (top 5) 0
def oexB (K : PySem.W.Frag) (C : Addr) : Bool := match K.lookup C with
  | some ⟨.type t, _, .cls cd, sl⟩ => (match cd.mro, sl.toList with
    | .ref C' :: bm, [_, _, _, _, some (.builtin n), _] => decide (t = "type") && (decide (C' = C) && (PySem.HandSPX.refsVE bm && (cd.hasDict && (!cd.hasDel && decide (n = "ValueError.__new__")))))
    | _, _ => false)
  | _ => false
theorem oexB_ok {K : PySem.W.Frag} {C : Addr} (h : oexB K C = true) : ∃ nm q N bs bm sn sub ab col dd k0 k1 k2 k3 k5, K.lookup C = some (excClassObj nm q C N bs bm true sn sub ab col dd k0 k1 k2 k3 k5 "ValueError.__new__") ∧ PySem.HandSPX.refsVE bm = true := by
  unfold oexB at h
  split at h
  · rename_i t dd cd sl e
    split at h
    · rename_i C' bm k0 k1 k2 k3 n k5 e1 e2
      obtain ⟨h1, h⟩ := He.ba h
      obtain ⟨h2, h⟩ := He.ba h
      obtain ⟨h3, h⟩ := He.ba h
      obtain ⟨h4, h⟩ := He.ba h
      obtain ⟨h5, h6⟩ := He.ba h
      obtain ⟨nm, bs, mro, ns, q, hd, sn, sub, ab, col, del⟩ := cd
      obtain rfl : t = "type" := of_decide_eq_true h1
      obtain rfl : C' = C := of_decide_eq_true h2
      obtain rfl : n = "ValueError.__new__" := of_decide_eq_true h6
      dsimp only at e1 h4 h5
      subst e1
      subst h4
      have h5' : del = false := by simpa using h5
      subst h5'
      have e3 : sl = #[k0, k1, k2, k3, some (.builtin "ValueError.__new__"), k5] := by
        obtain ⟨l⟩ := sl
        dsimp only at e2
        rw [e2]
      subst e3
      exact ⟨nm, q, ns, bs, bm, sn, sub, ab, col, dd, k0, k1, k2, k3, k5, e, h3⟩
    · cases h
  · cases h
abbrev FnL : Type := Option (Str × Str × Arguments × FuncBody × Scope × Addr × List Str × Value × Addr)
def fIn (K : PySem.W.Frag) : Addr := He.ma K (He.ga K "TooMany") "__init__"
def limO (K : PySem.W.Frag) : FnL := match K.lookup (fIn K) with
  | some ⟨_, _, .func fd, _⟩ => some (fd.name, fd.qualname, fd.params, fd.body, fd.scope, fd.globals, fd.closure.map (·.1), fd.defaults, fd.builtins)
  | _ => none
def limV : FnL := some ("__init__", "TooMany.__init__", defArgs s_lim, .stmts (defBody s_lim), defScope s_lim, mainGlobals, ["__class__"], .none, builtinsNs)
def limB (K : PySem.W.Frag) : Bool := match K.lookup (fIn K) with
  | some ⟨_, _, .func fd, _⟩ => (match fd.code, fd.closure with
    | .ref cda, [(_, cc)] => PySem.W.codeIn K (.ref cda) "TooMany.__init__" && (match K.lookup cda, K.lookup cc with
      | some ⟨_, _, .fields vs, _⟩, some ⟨_, _, .cell (some (.ref C')), _⟩ => decide (C' = He.ga K "TooMany") && (match (vs : Array Value)[2]? with
        | some (Value.str file _) => ((P0.main.file : Str) == file)
        | _ => false)
      | _, _ => false)
    | _, _ => false)
  | _ => false
theorem lim_ok {K : PySem.W.Frag} (e : limO K = limV) (h : limB K = true) : ∃ oc od kV doc pm an cda ct cc osl ccl cdd vs ccs file tf cl cld csl,
    K.lookup (fIn K) = some ⟨oc, od, .func (PySem.W.ksFn "__init__" "TooMany.__init__" (defArgs s_lim) (defBody s_lim) (defScope s_lim) .none kV doc pm an (.ref cda) ct cc), osl⟩ ∧ PySem.W.codeIn K (.ref cda) "TooMany.__init__" = true ∧
    K.lookup cda = some ⟨ccl, cdd, .fields vs, ccs⟩ ∧ vs[2]? = some (.str file tf) ∧ ((P0.main.file : Str) == file) = true ∧ K.lookup cc = some ⟨cl, cld, .cell (some (.ref (He.ga K "TooMany"))), csl⟩ := by
  unfold limB at h
  unfold limO at e
  split at h
  · rename_i oc od fd osl q
    rw [q] at e
    obtain ⟨n1, n2, n3, n4, n5, n6, n7, n8, n9, n10, n11, n12, n13, n14, n15⟩ := fd
    have e2 : (some (n1, n2, n3, n4, n5, n6, n7.map (·.1), n8, n15) : FnL) = some (("__init__" : Str), ("TooMany.__init__" : Str), defArgs s_lim, FuncBody.stmts (defBody s_lim), defScope s_lim, mainGlobals, [("__class__" : Str)], Value.none, builtinsNs) := e
    simp only [Option.some.injEq, Prod.mk.injEq] at e2
    obtain ⟨h1, h2, h3, h4, h5, h6, h7, h8, h9⟩ := e2
    dsimp only at h
    split at h
    · rename_i cda y cc
      obtain ⟨k1, h⟩ := He.ba h
      split at h
      · rename_i ccl cdd vs ccs cl cld C' csl q1 q2
        obtain ⟨k2, hF⟩ := He.ba h
        clear h
        obtain rfl : C' = He.ga K "TooMany" := of_decide_eq_true k2
        split at hF
        · rename_i file tf q3
          have hy : y = "__class__" := by simpa using h7
          subst h1 h2 h3 h4 h5 h6 h8 h9 hy
          exact ⟨oc, od, n9, n10, n11, n12, cda, n14, cc, osl, ccl, cdd, vs, ccs, file, tf, cl, cld, csl, q, k1, q1, q3, hF, q2⟩
        · cases hF
      · cases h
    · cases h
  · cases h
def xAll (K : PySem.W.Frag) : List Bool := let C := He.ga K "TooMany"
  [He.eqO (PySem.W.nsIn K mainGlobals "heappush") (some (some (.builtin "_heapq.heappush"))), He.eqO (PySem.W.nsIn K mainGlobals "heappop") (some (some (.builtin "_heapq.heappop"))),
    oexB K C, xfB K C, (PySem.W.clsIn K C).isSome,
    He.eqO (PySem.W.findIn K (.ref C) "__getattribute__") (some (some (.builtin "BaseException.__getattribute__"))), He.eqO (PySem.W.findIn K (.ref C) "__getattr__") (some none), decide (PySem.W.subIn K (.ref C) (.type "BaseException") = some true), PySem.W.hasDictIn K C,
    He.eqO (PySem.W.findIn K (.ref C) "__class__") (some (some (.builtin "object.__class__"))), He.eqO (PySem.W.specialIn K (.builtin "object.__class__") "__get__") (some (some (.builtin "getset_descriptor.__get__"))),
    decide (PySem.W.takesIn K (.builtin "object.__class__") = some true), decide (PySem.W.mroIn K C (.type "object") = some true),
    decide (PySem.W.kitAny K (.ref C) [.ref (He.ga K "Unfit"), .ref (He.ga K "NothingToUndo"), .ref (He.ga K "BadText"), .ref (He.ga K "BadLog"), .ref (He.ga K "BadTerm"), .ref (He.ga K "BadRule"), .ref (He.ga K "Refused")] = some false),
    decide (PySem.W.kitOne K (.ref C) (.ref (He.ga K "TermError")) = some true), decide (PySem.W.kitOne K (.ref C) (.type "ValueError") = some true), decide (PySem.W.exmOne K (.ref C) (.ref C) = some true),
    He.eqO (PySem.W.findIn K (.ref C) "limit") (some none), limB K, He.eqO (PySem.W.nsIn K cStatics "thirdparty.any") (some none), He.eqO (PySem.W.ks_superIn K C C "__init__") (some (some (.builtin "ValueError.__init__"))),
    decide (PySem.W.subIn K (.ref C) (.type "ValueError") = some true), PySem.W.excInitIn K C He.veBase "ValueError.__new__", decide (PySem.W.mroIn K C (.ref C) = some true),
    He.eqO (PySem.W.findIn K (.ref C) "__init__") (some (some (.ref (fIn K)))), decide (PySem.W.typeIn K (.ref (fIn K)) = some (.type "function")),
    He.eqO (PySem.W.findIn K (.ref C) "__setattr__") (some (some (.builtin "object.__setattr__"))), decide (PySem.W.typeIn K (.ref C) = some (.type "type")), PySem.W.keepIn K (.ref C)]
structure XY (K : PySem.W.Frag) : Prop where
  all : (xAll K).all id = true
  lim : limO K = limV
section
variable {K : PySem.W.Frag} {h : Heap} {mg : Str → Option Value} {w : World} {base : Heap}
theorem XY.at_ (Y : XY K) (i : Nat) {b : Bool} (e : (xAll K)[i]? = some b) : b = true := List.all_eq_true.mp Y.all b (List.mem_of_getElem? e)
theorem XY.push (Y : XY K) (X : K.In h) (G : h.Ns mainGlobals mg) : mg "heappush" = some (.builtin "_heapq.heappush") := PySem.W.mg_of X G (He.eqO_ok (Y.at_ 0 rfl))
theorem XY.pop (Y : XY K) (X : K.In h) (G : h.Ns mainGlobals mg) : mg "heappop" = some (.builtin "_heapq.heappop") := PySem.W.mg_of X G (He.eqO_ok (Y.at_ 1 rfl))
theorem XY.oex (Y : XY K) : OexC K (He.ga K "TooMany") := ⟨oexB_ok (Y.at_ 2 rfl), He.eqO_ok (Y.at_ 26 rfl), of_decide_eq_true (Y.at_ 7 rfl), of_decide_eq_true (Y.at_ 27 rfl), Y.at_ 28 rfl⟩
theorem XY.exc (Y : XY K) (gU : mg "Unfit" = some (.ref (He.ga K "Unfit"))) (gN : mg "NothingToUndo" = some (.ref (He.ga K "NothingToUndo"))) (gX : mg "BadText" = some (.ref (He.ga K "BadText"))) (gL : mg "BadLog" = some (.ref (He.ga K "BadLog")))
    (gB : mg "BadTerm" = some (.ref (He.ga K "BadTerm"))) (gR : mg "BadRule" = some (.ref (He.ga K "BadRule"))) (gF : mg "Refused" = some (.ref (He.ga K "Refused"))) (gT : mg "TermError" = some (.ref (He.ga K "TermError"))) :
    ETxt K mg (He.ga K "TooMany") (He.ga K "Unfit") (He.ga K "NothingToUndo") (He.ga K "BadText") (He.ga K "BadLog") (He.ga K "BadTerm") (He.ga K "BadRule") (He.ga K "Refused") (He.ga K "TermError") :=
  ⟨gU, gN, gX, gL, gB, gR, gF, gT, of_decide_eq_true (Y.at_ 13 rfl), of_decide_eq_true (Y.at_ 14 rfl), of_decide_eq_true (Y.at_ 15 rfl),
    ⟨Y.at_ 4 rfl, ⟨He.eqO_ok (Y.at_ 5 rfl), He.eqO_ok (Y.at_ 6 rfl), of_decide_eq_true (Y.at_ 7 rfl), Y.at_ 8 rfl, He.eqO_ok (Y.at_ 9 rfl), He.eqO_ok (Y.at_ 10 rfl), of_decide_eq_true (Y.at_ 11 rfl), of_decide_eq_true (Y.at_ 12 rfl)⟩⟩,
    xfB_ok (Y.at_ 3 rfl), He.eqO_ok (Y.at_ 17 rfl), of_decide_eq_true (Y.at_ 16 rfl)⟩
theorem XY.many (Y : XY K) (X : K.In base) (hs : mg "super" = none) (g : mg "TooMany" = some (.ref (He.ga K "TooMany"))) : TmTxt P0 w K mg base (He.ga K "TooMany") := by
  obtain ⟨oc, od, kV, doc, pm, an, cda, ct, cc, osl, ccl, cdd, vs, ccs, file, tf, cl, cld, csl, q, k1, q1, q3, hf, q2⟩ := lim_ok Y.lim (Y.at_ 18 rfl)
  obtain ⟨cdC, hC⟩ := Option.isSome_iff_exists.mp (Y.at_ 4 rfl)
  refine ⟨Y.oex, g, fIn K, PySem.W.ksFn "__init__" "TooMany.__init__" (defArgs s_lim) (defBody s_lim) (defScope s_lim) .none kV doc pm an (.ref cda) ct cc, He.eqO_ok (Y.at_ 24 rfl), of_decide_eq_true (Y.at_ 25 rfl), ?_, ?_⟩
  · exact .all fun us hl => match us, hl with | [_, _], _ => rfl
  · exact fnok_lim PySem.F.excBase_ValueError q k1 q1 q3 hf q2 rfl rfl ⟨by decide +kernel, by decide +kernel, by decide +kernel, by decide +kernel, rfl, rfl, rfl, by decide +kernel⟩ hC (of_decide_eq_true (Y.at_ 23 rfl)) hs (by decide +kernel) (He.eqO_ok (Y.at_ 19 rfl)) (He.eqO_ok (Y.at_ 20 rfl))
      (of_decide_eq_true (Y.at_ 21 rfl)) (Y.at_ 22 rfl) Y.oex (He.eqO_ok (Y.at_ 17 rfl)) (fun L => rfl) (fun L => rfl) (fun L => rfl) (fun L => rfl)
end
theorem kb0 {K : PySem.W.Frag} {x qual : Str} {params : Arguments} {body : List Stmt} {scope : Scope} {f : Addr} {fd : FuncData} {ps : List Str} (F : FunD K x qual params body scope [] [] f fd)
    (h : ∀ (kV doc pm : Value) (an : Option Addr) (cdv ct : Value) (us : List Value), us.length = ps.length → bindArgs (PySem.W.fnOf x qual params body scope .none kV doc pm an cdv ct) ⟨[], ps.zip us⟩ = pure (ps.zip us)) : KB0 K fd ps := by
  obtain ⟨oc, od, dV, kV, doc, pm, an, cdv, ct, osl, rfl, lk, hcd, hD, hK⟩ := F.ex
  rcases hD with ⟨_, rfl⟩ | ⟨e, _⟩
  · exact fun s ws _ hl => .of_eq (h kV doc pm an cdv ct ws hl)
  · exact absurd rfl e
theorem facts {w : World} {K : PySem.W.Frag} {h : Heap} {mg : Str → Option Value} {fa : Addr} (X : K.In h) (G : h.Ns mainGlobals mg) (hfa : mg ("law" : Str) = some (.ref fa)) (c : He.SaysD faL fnL K) (Y : XY K) (base : Heap) (XB : K.In base) : LawRun P0 w K mg base CX0 fa (spLaw K) := by
  have T : Nm mg := ⟨He.free_ok X G (c.fact 0 (f := .free "len") rfl), He.free_ok X G (c.fact 1 (f := .free "sorted") rfl), He.free_ok X G (c.fact 2 (f := .free "max") rfl), He.free_ok X G (c.fact 3 (f := .free "min") rfl), He.free_ok X G (c.fact 4 (f := .free "sum") rfl), He.free_ok X G (c.fact 5 (f := .free "all") rfl), He.free_ok X G (c.fact 6 (f := .free "abs") rfl), He.free_ok X G (c.fact 7 (f := .free "repr") rfl), He.free_ok X G (c.fact 8 (f := .free "isinstance") rfl), He.free_ok X G (c.fact 9 (f := .free "list") rfl), He.free_ok X G (c.fact 10 (f := .free "tuple") rfl), He.free_ok X G (c.fact 11 (f := .free "set") rfl), He.free_ok X G (c.fact 12 (f := .free "int") rfl), He.free_ok X G (c.fact 13 (f := .free "bool") rfl), He.free_ok X G (c.fact 14 (f := .free "str") rfl), He.free_ok X G (c.fact 15 (f := .free "range") rfl), He.free_ok X G (c.fact 16 (f := .free "enumerate") rfl), He.free_ok X G (c.fact 17 (f := .free "zip") rfl), He.free_ok X G (c.fact 18 (f := .free "reversed") rfl), He.free_ok X G (c.fact 19 (f := .free "super") rfl), He.free_ok X G (c.fact 20 (f := .free "ValueError") rfl)⟩
  have TF : FTxt K mg (He.ga K "Found") := ⟨He.cls_ok (c.fact 21 (f := .cls "Found") rfl), He.noat_ok (c.fact 22 (f := .noat "Found" "table") rfl), He.noat_ok (c.fact 23 (f := .noat "Found" "costs") rfl), He.noat_ok (c.fact 24 (f := .noat "Found" "many") rfl), He.noat_ok (c.fact 25 (f := .noat "Found" "members") rfl), He.noat_ok (c.fact 26 (f := .noat "Found" "waiting") rfl), He.noat_ok (c.fact 27 (f := .noat "Found" "count") rfl), He.noat_ok (c.fact 28 (f := .noat "Found" "uses") rfl), Y.push X G, Y.pop X G, He.int_ok X G (c.fact 29 (f := .int "MAX_SIZE" 40) rfl), He.glo_ok X G (c.fact 30 (f := .glo "Found") rfl)⟩
  have TM : TmTxt P0 w K mg base (He.ga K "TooMany") := Y.many XB T.super (He.glo_ok X G (c.fact 32 (f := .glo "TooMany") rfl))
  have TE : ETxt K mg (He.ga K "TooMany") (He.ga K "Unfit") (He.ga K "NothingToUndo") (He.ga K "BadText") (He.ga K "BadLog") (He.ga K "BadTerm") (He.ga K "BadRule") (He.ga K "Refused") (He.ga K "TermError") := Y.exc (He.glo_ok X G (c.fact 33 (f := .glo "Unfit") rfl)) (He.glo_ok X G (c.fact 34 (f := .glo "NothingToUndo") rfl)) (He.glo_ok X G (c.fact 35 (f := .glo "BadText") rfl)) (He.glo_ok X G (c.fact 36 (f := .glo "BadLog") rfl)) (He.glo_ok X G (c.fact 37 (f := .glo "BadTerm") rfl)) (He.glo_ok X G (c.fact 38 (f := .glo "BadRule") rfl)) (He.glo_ok X G (c.fact 39 (f := .glo "Refused") rfl)) (He.glo_ok X G (c.fact 40 (f := .glo "TermError") rfl))
  obtain ⟨fd0, F0⟩ := c.def_ 0 (d := d_how_many) rfl
  have b0 : Binds K fd0 ["table"] [] := F0.bindsN fun _ _ _ _ _ _ us hl => match us, hl with | [_], _ => rfl
  have h_how_many : Has P0 w K mg base CX0 "how_many" ["table"] _ _ := ⟨_, _, He.glo_ok X G (c.fact 41 (f := .glo "how_many") rfl), F0.kp, b0, ok_how F0 T⟩
  obtain ⟨fd1, F1⟩ := c.def_ 1 (d := d_F_put) rfl
  have b1 : Binds K fd1 ["self", "place", "numbers"] [] := F1.bindsN fun _ _ _ _ _ _ us hl => match us, hl with | [_, _, _], _ => rfl
  have h_put : HasM P0 w K mg base CX0 (He.ga K "Found") "put" ["self", "place", "numbers"] _ _ := ⟨_, _, He.meth_ok (c.fact 42 (f := .meth "Found" "put") rfl), b1, ok_put F1 T TF⟩
  obtain ⟨fd2, F2⟩ := c.def_ 2 (d := d_F_with_newest) rfl
  have b2 : Binds K fd2 ["self", "classes", "own", "number", "spot"] [] := F2.bindsN fun _ _ _ _ _ _ us hl => match us, hl with | [_, _, _, _, _], _ => rfl
  have h_with_newest : HasM P0 w K mg base CX0 (He.ga K "Found") "with_newest" ["self", "classes", "own", "number", "spot"] _ _ := ⟨_, _, He.meth_ok (c.fact 43 (f := .meth "Found" "with_newest") rfl), b2, ok_with F2 T TF⟩
  obtain ⟨fd3, F3⟩ := c.def_ 3 (d := d_F_choices) rfl
  have b3 : Binds K fd3 ["self", "classes", "own", "number"] [] := F3.bindsN fun _ _ _ _ _ _ us hl => match us, hl with | [_, _, _, _], _ => rfl
  have h_choices : HasM P0 w K mg base CX0 (He.ga K "Found") "choices" ["self", "classes", "own", "number"] _ _ := ⟨_, _, He.meth_ok (c.fact 44 (f := .meth "Found" "choices") rfl), b3, ok_choices F3 T TF h_with_newest⟩
  obtain ⟨fd4, F4⟩ := c.def_ 4 (d := d_F_spread) rfl
  have b4 : Binds K fd4 ["self", "own", "number"] [] := F4.bindsN fun _ _ _ _ _ _ us hl => match us, hl with | [_, _, _], _ => rfl
  have h_spread : HasM P0 w K mg base CX0 (He.ga K "Found") "spread" ["self", "own", "number"] _ _ := ⟨_, _, He.meth_ok (c.fact 45 (f := .meth "Found" "spread") rfl), b4, ok_spread F4 T TF h_choices h_put⟩
  obtain ⟨fd5, F5⟩ := c.def_ 5 (d := d_F_of) rfl
  have b5 : Binds K fd5 ["self", "number"] [] := F5.bindsN fun _ _ _ _ _ _ us hl => match us, hl with | [_, _], _ => rfl
  have h_of : HasM P0 w K mg base CX0 (He.ga K "Found") "of" ["self", "number"] _ _ := ⟨_, _, He.meth_ok (c.fact 46 (f := .meth "Found" "of") rfl), b5, ok_ofM F5 T TF h_spread⟩
  obtain ⟨fd6, F6⟩ := c.def_ 6 (d := d_F_init) rfl
  have b6 : Binds K fd6 ["self", "table", "costs", "many"] [] := F6.bindsN fun _ _ _ _ _ _ us hl => match us, hl with | [_, _, _, _], _ => rfl
  have h_Found : HasMk P0 w K mg base (He.ga K "Found") ["self", "table", "costs", "many"] 2 (spInit K (He.ga K "Found")) := ⟨_, _, He.mkr_ok (c.fact 31 (f := .mkr "Found") rfl), b6, ok_init F6 T TF h_how_many h_put⟩
  obtain ⟨fd7, F7⟩ := c.def_ 7 (d := d_bests) rfl
  have b7 : Binds K fd7 ["table", "costs", "number", "many"] [] := F7.bindsN fun _ _ _ _ _ _ us hl => match us, hl with | [_, _, _, _], _ => rfl
  have h_bests : HasX P0 w K mg base "bests" ["table", "costs", "number", "many"] _ _ := ⟨_, _, He.glo_ok X G (c.fact 48 (f := .glo "bests") rfl), F7.kp, b7, kb0 F7 fun _ _ _ _ _ _ ws hl => match ws, hl with | [_, _, _, _], _ => rfl, ok_bb F7 T TF TM h_Found h_of⟩
  obtain ⟨fd8, F8⟩ := c.def_ 8 (d := d_cheapest) rfl
  have b8 : Binds K fd8 ["table", "costs", "number"] [] := F8.bindsN fun _ _ _ _ _ _ us hl => match us, hl with | [_, _, _], _ => rfl
  have h_cheapest : HasX P0 w K mg base "cheapest" ["table", "costs", "number"] _ _ := ⟨_, _, He.glo_ok X G (c.fact 49 (f := .glo "cheapest") rfl), F8.kp, b8, kb0 F8 fun _ _ _ _ _ _ ws hl => match ws, hl with | [_, _, _], _ => rfl, ok_ch F8 T h_bests⟩
  obtain ⟨fd9, F9⟩ := c.def_ 9 (d := d_law_own_bag) rfl
  have b9 : Binds K fd9 ["script"] [] := F9.bindsN fun _ _ _ _ _ _ us hl => match us, hl with | [_], _ => rfl
  have h_law_own_bag : Has P0 w K mg base CX0 "_law_own_bag" ["script"] _ _ := ⟨_, _, He.glo_ok X G (c.fact 50 (f := .glo "_law_own_bag") rfl), F9.kp, b9, ok_own_bag F9 T⟩
  obtain ⟨fd10, F10⟩ := c.def_ 10 (d := d_law_draw) rfl
  have b10 : Binds K fd10 ["bag", "below"] [] := F10.bindsN fun _ _ _ _ _ _ us hl => match us, hl with | [_, _], _ => rfl
  have h_law_draw : Has P0 w K mg base CX0 "_law_draw" ["bag", "below"] _ _ := ⟨_, _, He.glo_ok X G (c.fact 51 (f := .glo "_law_draw") rfl), F10.kp, b10, ok_draw F10 T⟩
  obtain ⟨fd11, F11⟩ := c.def_ 11 (d := d_law_pick) rfl
  have b11 : Binds K fd11 ["bag", "some"] [] := F11.bindsN fun _ _ _ _ _ _ us hl => match us, hl with | [_, _], _ => rfl
  have h_law_pick : Has P0 w K mg base CX0 "_law_pick" ["bag", "some"] _ _ := ⟨_, _, He.glo_ok X G (c.fact 52 (f := .glo "_law_pick") rfl), F11.kp, b11, ok_pick F11 T h_law_draw⟩
  obtain ⟨fd12, F12⟩ := c.def_ 12 (d := d_law_same) rfl
  have b12 : Binds K fd12 ["told", "due"] [] := F12.bindsN fun _ _ _ _ _ _ us hl => match us, hl with | [_, _], _ => rfl
  have h_law_same : Has P0 w K mg base CX0 "_law_same" ["told", "due"] 43 (spSame K 43) := ⟨_, _, (He.glo_ok X G (c.fact 53 (f := .glo "_law_same") rfl)), F12.kp, b12, ok_same F12 T (He.glo_ok X G (c.fact 53 (f := .glo "_law_same") rfl)) F12.kp b12 43⟩
  obtain ⟨fd13, F13⟩ := c.def_ 13 (d := d_law_refusal) rfl
  have b13 : Binds K fd13 ["error", "limit"] [] := F13.bindsN fun _ _ _ _ _ _ us hl => match us, hl with | [_, _], _ => rfl
  have h_law_refusal : HasZ P0 w K mg base "_law_refusal" ["error", "limit"] _ _ _ := ⟨_, _, He.glo_ok X G (c.fact 54 (f := .glo "_law_refusal") rfl), F13.kp, b13, ok_refusal F13 T TE⟩
  obtain ⟨fd14, F14⟩ := c.def_ 14 (d := d_law_signature) rfl
  have b14 : Binds K fd14 ["bag", "sizes"] [] := F14.bindsN fun _ _ _ _ _ _ us hl => match us, hl with | [_, _], _ => rfl
  have h_law_signature : Has P0 w K mg base CX0 "_law_signature" ["bag", "sizes"] _ _ := ⟨_, _, He.glo_ok X G (c.fact 55 (f := .glo "_law_signature") rfl), F14.kp, b14, ok_signature F14 T h_law_draw h_law_pick⟩
  obtain ⟨fd15, F15⟩ := c.def_ 15 (d := d_law_costs) rfl
  have b15 : Binds K fd15 ["bag", "many"] [] := F15.bindsN fun _ _ _ _ _ _ us hl => match us, hl with | [_, _], _ => rfl
  have h_law_costs : Has P0 w K mg base CX0 "_law_costs" ["bag", "many"] _ _ := ⟨_, _, He.glo_ok X G (c.fact 56 (f := .glo "_law_costs") rfl), F15.kp, b15, ok_costs F15 T h_law_draw h_law_pick⟩
  obtain ⟨fd16, F16⟩ := c.def_ 16 (d := d_law_shuffled) rfl
  have b16 : Binds K fd16 ["bag", "some"] [] := F16.bindsN fun _ _ _ _ _ _ us hl => match us, hl with | [_, _], _ => rfl
  have h_law_shuffled : Has P0 w K mg base CX0 "_law_shuffled" ["bag", "some"] _ _ := ⟨_, _, He.glo_ok X G (c.fact 57 (f := .glo "_law_shuffled") rfl), F16.kp, b16, ok_shuffled F16 T h_law_draw⟩
  obtain ⟨fd17, F17⟩ := c.def_ 17 (d := d_law_rows) rfl
  have b17 : Binds K fd17 ["bag", "signature", "steps", "most"] [] := F17.bindsN fun _ _ _ _ _ _ us hl => match us, hl with | [_, _, _, _], _ => rfl
  have h_law_rows : Has P0 w K mg base CX0 "_law_rows" ["bag", "signature", "steps", "most"] _ _ := ⟨_, _, He.glo_ok X G (c.fact 58 (f := .glo "_law_rows") rfl), F17.kp, b17, ok_rows F17 T h_law_draw h_law_pick⟩
  obtain ⟨fd18, F18⟩ := c.def_ 18 (d := d_law_leasts) rfl
  have b18 : Binds K fd18 ["rows"] [] := F18.bindsN fun _ _ _ _ _ _ us hl => match us, hl with | [_], _ => rfl
  have h_law_leasts : Has P0 w K mg base CX0 "_law_leasts" ["rows"] _ _ := ⟨_, _, He.glo_ok X G (c.fact 59 (f := .glo "_law_leasts") rfl), F18.kp, b18, ok_leasts F18 T⟩
  obtain ⟨fd19, F19⟩ := c.def_ 19 (d := d_law_table) rfl
  have b19 : Binds K fd19 ["rows"] [] := F19.bindsN fun _ _ _ _ _ _ us hl => match us, hl with | [_], _ => rfl
  have h_law_table : Has P0 w K mg base CX0 "_law_table" ["rows"] _ _ := ⟨_, _, He.glo_ok X G (c.fact 60 (f := .glo "_law_table") rfl), F19.kp, b19, ok_table F19 T h_law_leasts⟩
  obtain ⟨fd20, F20⟩ := c.def_ 20 (d := d_law_many) rfl
  have b20 : Binds K fd20 ["table"] [] := F20.bindsN fun _ _ _ _ _ _ us hl => match us, hl with | [_], _ => rfl
  have h_law_many : Has P0 w K mg base CX0 "_law_many" ["table"] _ _ := ⟨_, _, He.glo_ok X G (c.fact 61 (f := .glo "_law_many") rfl), F20.kp, b20, ok_many F20 T⟩
  obtain ⟨fd21, F21⟩ := c.def_ 21 (d := d_law_edge) rfl
  have b21 : Binds K fd21 ["bag"] [] := F21.bindsN fun _ _ _ _ _ _ us hl => match us, hl with | [_], _ => rfl
  have h_law_edge : Has P0 w K mg base CX0 "_law_edge" ["bag"] _ _ := ⟨_, _, He.glo_ok X G (c.fact 62 (f := .glo "_law_edge") rfl), F21.kp, b21, ok_edge F21 T h_law_draw h_law_shuffled h_law_table⟩
  obtain ⟨fd22, F22⟩ := c.def_ 22 (d := d_law_tower) rfl
  have b22 : Binds K fd22 ["bag"] [] := F22.bindsN fun _ _ _ _ _ _ us hl => match us, hl with | [_], _ => rfl
  have h_law_tower : Has P0 w K mg base CX0 "_law_tower" ["bag"] _ _ := ⟨_, _, He.glo_ok X G (c.fact 63 (f := .glo "_law_tower") rfl), F22.kp, b22, ok_tower F22 T h_law_draw h_law_pick h_law_shuffled h_law_table⟩
  obtain ⟨fd23, F23⟩ := c.def_ 23 (d := d_law_ring) rfl
  have b23 : Binds K fd23 ["bag"] [] := F23.bindsN fun _ _ _ _ _ _ us hl => match us, hl with | [_], _ => rfl
  have h_law_ring : Has P0 w K mg base CX0 "_law_ring" ["bag"] _ _ := ⟨_, _, He.glo_ok X G (c.fact 64 (f := .glo "_law_ring") rfl), F23.kp, b23, ok_ring F23 T h_law_draw h_law_shuffled h_law_table⟩
  obtain ⟨fd24, F24⟩ := c.def_ 24 (d := d_law_ties) rfl
  have b24 : Binds K fd24 ["bag"] [] := F24.bindsN fun _ _ _ _ _ _ us hl => match us, hl with | [_], _ => rfl
  have h_law_ties : Has P0 w K mg base CX0 "_law_ties" ["bag"] _ _ := ⟨_, _, He.glo_ok X G (c.fact 65 (f := .glo "_law_ties") rfl), F24.kp, b24, ok_ties F24 T h_law_draw h_law_shuffled h_law_table⟩
  obtain ⟨fd25, F25⟩ := c.def_ 25 (d := d_law_joined) rfl
  have b25 : Binds K fd25 ["some", "parts"] [] := F25.bindsN fun _ _ _ _ _ _ us hl => match us, hl with | [_, _], _ => rfl
  have h_law_joined : Has P0 w K mg base CX0 "_law_joined" ["some", "parts"] _ _ := ⟨_, _, He.glo_ok X G (c.fact 66 (f := .glo "_law_joined") rfl), F25.kp, b25, ok_joined F25 T⟩
  obtain ⟨fd26, F26⟩ := c.def_ 26 (d := d_law_new) rfl
  have b26 : Binds K fd26 ["table", "costs", "found", "best", "most"] [] := F26.bindsN fun _ _ _ _ _ _ us hl => match us, hl with | [_, _, _, _, _], _ => rfl
  have h_law_new : Has P0 w K mg base CX0 "_law_new" ["table", "costs", "found", "best", "most"] _ _ := ⟨_, _, He.glo_ok X G (c.fact 67 (f := .glo "_law_new") rfl), F26.kp, b26, ok_new F26 T h_law_joined⟩
  obtain ⟨fd27, F27⟩ := c.def_ 27 (d := d_law_bests) rfl
  have b27 : Binds K fd27 ["table", "costs", "most"] [] := F27.bindsN fun _ _ _ _ _ _ us hl => match us, hl with | [_, _, _], _ => rfl
  have h_law_bests : Has P0 w K mg base CX0 "_law_bests" ["table", "costs", "most"] _ _ := ⟨_, _, He.glo_ok X G (c.fact 68 (f := .glo "_law_bests") rfl), F27.kp, b27, ok_bests F27 T h_law_many h_law_new⟩
  obtain ⟨fd28, F28⟩ := c.def_ 28 (d := d_law_asked) rfl
  have b28 : Binds K fd28 ["table", "costs", "number", "many", "is_named"] [] := F28.bindsN fun _ _ _ _ _ _ us hl => match us, hl with | [_, _, _, _, _], _ => rfl
  have h_law_asked : Has P0 w K mg base CX0 "_law_asked" ["table", "costs", "number", "many", "is_named"] _ _ := ⟨_, _, He.glo_ok X G (c.fact 69 (f := .glo "_law_asked") rfl), F28.kp, b28, ok_asked F28 T TM TE h_cheapest h_bests h_law_refusal⟩
  obtain ⟨fd29, F29⟩ := c.def_ 29 (d := d_law_due) rfl
  have b29 : Binds K fd29 ["found", "many"] [] := F29.bindsN fun _ _ _ _ _ _ us hl => match us, hl with | [_, _], _ => rfl
  have h_law_due : Has P0 w K mg base CX0 "_law_due" ["found", "many"] _ _ := ⟨_, _, He.glo_ok X G (c.fact 70 (f := .glo "_law_due") rfl), F29.kp, b29, ok_due F29 T⟩
  obtain ⟨fd30, F30⟩ := c.def_ 30 (d := d_law_near_costs) rfl
  have b30 : Binds K fd30 ["bag", "signature", "table"] [] := F30.bindsN fun _ _ _ _ _ _ us hl => match us, hl with | [_, _, _], _ => rfl
  have h_law_near_costs : Has P0 w K mg base CX0 "_law_near_costs" ["bag", "signature", "table"] _ _ := ⟨_, _, He.glo_ok X G (c.fact 71 (f := .glo "_law_near_costs") rfl), F30.kp, b30, ok_near F30 T h_law_draw h_law_pick h_law_bests⟩
  obtain ⟨fd31, F31⟩ := c.def_ 31 (d := d_law_questions) rfl
  have b31 : Binds K fd31 ["bag", "table", "most"] [] := F31.bindsN fun _ _ _ _ _ _ us hl => match us, hl with | [_, _, _], _ => rfl
  have h_law_questions : Has P0 w K mg base CX0 "_law_questions" ["bag", "table", "most"] _ _ := ⟨_, _, He.glo_ok X G (c.fact 72 (f := .glo "_law_questions") rfl), F31.kp, b31, ok_questions F31 T h_law_draw h_law_pick h_law_many⟩
  obtain ⟨fd32, F32⟩ := c.def_ 32 (d := d_law_most) rfl
  have b32 : Binds K fd32 ["bag", "table"] [] := F32.bindsN fun _ _ _ _ _ _ us hl => match us, hl with | [_, _], _ => rfl
  have h_law_most : Has P0 w K mg base CX0 "_law_most" ["bag", "table"] _ _ := ⟨_, _, He.glo_ok X G (c.fact 73 (f := .glo "_law_most") rfl), F32.kp, b32, ok_most F32 T h_law_draw⟩
  obtain ⟨fd33, F33⟩ := c.def_ 33 (d := d_law_is_wide_right) rfl
  have b33 : Binds K fd33 ["bag"] [] := F33.bindsN fun _ _ _ _ _ _ us hl => match us, hl with | [_], _ => rfl
  have h_law_is_wide_right : Has P0 w K mg base CX0 "_law_is_wide_right" ["bag"] _ _ := ⟨_, _, He.glo_ok X G (c.fact 74 (f := .glo "_law_is_wide_right") rfl), F33.kp, b33, ok_wide F33 T h_law_draw h_law_pick h_law_shuffled h_law_table h_law_asked h_law_same⟩
  obtain ⟨fd34, F34⟩ := c.def_ 34 (d := d_law) rfl
  have b34 := FunD.bindsA (ps := ["script"]) F34 fun _ _ _ _ _ _ us hl => match us, hl with | [_], _ => rfl
  have e := hfa.symm.trans (He.glo_ok X G (c.fact 75 (f := .glo "law") rfl))
  cases e
  exact ok_law F34 T (fun s v => b34 s [v] rfl) h_law_own_bag h_law_draw h_law_pick h_law_is_wide_right h_law_edge h_law_tower h_law_ring h_law_ties h_law_signature h_law_rows h_law_table h_law_costs h_law_near_costs h_law_most h_law_bests h_law_questions h_law_due h_law_asked h_law_same
end R59
/-! W33 -/
set_option maxHeartbeats 0
namespace R59
open PySem PySem.Spec PyProof.Rows L2
abbrev RR : PySem.W.OpenRow := PySem.W.OpenLaw.row PySem.Challenge.rw_toldterms_k59_whole_cheapest_members
def KX (g : Addr → Option Obj) : PySem.W.Frag := He.frG g (cStatics :: He.asD g 4)
abbrev AlX : Type := Bool × FnL × He.AlD
def obsX (K : PySem.W.Frag) : AlX := ((xAll K).all id, limO K, He.obsD faL fnL K)
def valX : AlX := (true, limV, He.valD fnL)
def hookX : PySem.W.Hook where
  α := AlX
  obs := fun s => obsX (KX s.heap.get?)
  val := fun _ => valX
  says := fun _ h => ∃ K : PySem.W.Frag, K.In h ∧ obsX K = valX
  of := fun _ _ e => ⟨_, He.frG_in, e⟩
  keeps := fun _ _ _ ⟨K, hK, c⟩ k => ⟨K, PySem.W.Frag.In.keeps hK k, c⟩
def obX (s : PySem.W.SharedT) : AlX := obsX (KX (HandSHeadRun.getT s))
theorem obX_eq (s : PySem.W.SharedT) : obX s = hookX.obs s.abs := by
  have e : HandSHeadRun.getT s = s.abs.heap.get? := funext (HandSHeadRun.getT_eq s)
  show obsX (KX (HandSHeadRun.getT s)) = obsX (KX s.abs.heap.get?)
  rw [e]
def loose1 : List PySem.Str := ["MAX_SIZE", "TermError", "Unfit", "TooMany", "BadText", "BadTerm", "BadRule", "Refused", "BadLog", "NothingToUndo", "how_many", "Found", "bests", "cheapest", "_law_own_bag", "_law_draw", "_law_pick", "_law_same", "_law_refusal", "_law_signature", "_law_costs", "_law_shuffled"]
def loose2 : List PySem.Str := ["_law_rows", "_law_leasts", "_law_table", "_law_many", "_law_edge", "_law_tower", "_law_ring", "_law_ties", "_law_joined", "_law_new", "_law_bests", "_law_asked", "_law_due", "_law_near_costs", "_law_questions", "_law_most", "_law_is_wide_right"]
def looseX : List PySem.Str := loose1 ++ loose2
theorem runX (w : World) : HandSHeadRun.RunEqI RR (PySem.W.view RR.prog [0, 44]) hookX obX 8000 looseX w := by
  unfold HandSHeadRun.RunEqI
  kernel_rfl
end R59
/-! W34 -/
set_option maxHeartbeats 0
namespace R59
open PySem PySem.W PySem.Calls PyProof.Rows
theorem obsX_inv {K : Frag} (c : obsX K = valX) : XY K ∧ He.SaysD faL fnL K := ⟨⟨congrArg (fun z : AlX => z.1) c, congrArg (fun z : AlX => z.2.1) c⟩, congrArg (fun z : AlX => z.2.2) c⟩
theorem factsX {w : World} {h : Heap} {mg : PySem.Str → Option Value} {fa : Addr} (Y : hookX.says w h) (G : h.Ns mainGlobals mg) (hmg : mg ("law" : PySem.Str) = some (.ref fa)) :
    ∃ (K : Frag) (sp : L2.Sp), K.In h ∧ (∀ (H : L2.Hp) (a : Addr) (ns : List Int), ns.length ≤ 63 → L2.Only H → L2.SqL K H a (ns.map L2.V.int) → sp [.ref a] H (fun v _ => v = .bl true) fun _ _ _ => False) ∧
      ∀ base : Heap, K.In base → base.Ns mainGlobals mg → LawRun P0 w K mg base L2.CX0 fa sp := by
  obtain ⟨K, KX, c⟩ := Y
  obtain ⟨c1, c2⟩ := obsX_inv c
  exact ⟨K, spLaw K, KX, fun H a ns hl _ hS => ⟨a, ns, rfl, hS, fun _ => rfl⟩, fun base XB _ => facts KX G hmg c2 c1 base XB⟩
theorem nameX : (HandSHeadRun.topDef RR.prog 44).name = ("law" : PySem.Str) := by kernel_rfl
theorem dflX : (HandSHeadRun.topDef RR.prog 44).params.defaults = [] := by kernel_rfl
theorem hcX : WalkO (view RR.prog [0, 44]) looseX (XL (view RR.prog [0, 44]) []) hookX.says RR.toRowW (HandSHeadRun.topDef RR.prog 44) [] (fun f vs => PySem.call f vs) := by
  refine walk_ofA (l := PySem.Challenge.rw_toldterms_k59_whole_cheapest_members) (n := 63) (CX := L2.CX0) rfl (by decide) dflX ?F (fun _ _ _ _ z => z)
  intro w mg fa h Y G hmg0
  rw [nameX] at hmg0
  exact factsX Y G hmg0
end R59
open PySem PySem.W PySem.Calls PyProof.Rows
theorem PySem.Challenge.cw_toldterms_k59_whole_cheapest_members_holds : PySem.Challenge.rw_toldterms_k59_whole_cheapest_members.Holds := by
  w_on; o_law
  refine HandSHeadRun.head_imp (r := R59.RR) (q := view R59.RR.prog [0, 44]) (H := R59.hookX) (ob := R59.obX) (M := 8000) (loose := R59.looseX) (d := HandSHeadRun.topDef R59.RR.prog 44) (kwd := []) R59.obX_eq R59.runX
    (by kernel_rfl) (by kernel_rfl) (by kernel_rfl) (by rfl) (by first | assumption | decide +kernel) (by decide +kernel) ⟨rfl, rfl, rfl, rfl, rfl, by decide +kernel⟩ ?hw R59.hcX
  case hw => w_witness2
