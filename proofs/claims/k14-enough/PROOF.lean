import PyProof.Rows.All
import PySem.Str
import KE.KeyNested
import Wide.All
import OpenK.AllK
import Wide.FinOn
import KE.KStateDown
import KE.KDictKeyed
import HandS.ForMost
import HandS.ForExc
import HandS.Evl
import HandS.Conv
import HandS.Codes
import HandS.DictTup
import HandS.DictComp
import HandS.Strs
import HandS.TupAny
import HandS.TupMul
import HandS.Remove
import HandS.SetFor
import HandS.Zip
import HandS.Walk
import HandS.IsInst
import HandS.Style
import HandS.Flow
import HandS.ExcInit
import HandS.ExcIs
import HandS.ExcField
import HandS.Small
import HandS.Defaults
import HandS.Deep
import HandS.Head0
import HandS.Head1
import HandS.Head2
import HandS.HeadEnd
import HandS.HeadHook1
import HandS.HeadHook2
import KE.KIndexOf
import KE.KExcIs
import KE.GoesEnum
import HandS.ExcCtx
import HandS.HotCalls
import PySem.Challenge.RW_narrowahead_k14_whole_questions_that_are
set_option linter.all false
namespace K14

/-! ### orders and questions -/
/-- the orders in which a comes ahead of b -/
def fst (S : List (List Nat)) (a b : Nat) : List (List Nat) := S.filter fun o => decide (o.idxOf a < o.idxOf b)
theorem mem_fst {S : List (List Nat)} {a b : Nat} {o : List Nat} : o ∈ fst S a b ↔ o ∈ S ∧ o.idxOf a < o.idxOf b := by
  unfold fst; rw [List.mem_filter, decide_eq_true_iff]
def Perms (n : Nat) (S : List (List Nat)) : Prop := ∀ o ∈ S, o.Perm (List.range n)
theorem Perms.fst {n : Nat} {S : List (List Nat)} (h : Perms n S) (a b : Nat) : Perms n (fst S a b) := fun o ho => h o (mem_fst.mp ho).1
def Sub (T S : List (List Nat)) : Prop := ∀ o ∈ T, o ∈ S
theorem Sub.fst {T S : List (List Nat)} (h : Sub T S) (a b : Nat) : Sub (fst T a b) (fst S a b) := fun o ho =>
  mem_fst.mpr ⟨h o (mem_fst.mp ho).1, (mem_fst.mp ho).2⟩
theorem fst_sub (S : List (List Nat)) (a b : Nat) : Sub (fst S a b) S := fun o ho => (mem_fst.mp ho).1
theorem perm_mem {n : Nat} {o : List Nat} (h : o.Perm (List.range n)) {a : Nat} : a ∈ o ↔ a < n := by
  rw [h.mem_iff, List.mem_range]
theorem perm_nodup {n : Nat} {o : List Nat} (h : o.Perm (List.range n)) : o.Nodup := h.nodup_iff.mpr List.nodup_range
theorem perm_len {n : Nat} {o : List Nat} (h : o.Perm (List.range n)) : o.length = n := by rw [h.length_eq, List.length_range]
theorem idx_lt {n : Nat} {o : List Nat} (h : o.Perm (List.range n)) {a : Nat} (ha : a < n) : o.idxOf a < o.length := List.idxOf_lt_length_of_mem ((perm_mem h).mpr ha)
theorem idx_inj {o : List Nat} {a b : Nat} (ha : a ∈ o) (e : o.idxOf a = o.idxOf b) : a = b := by
  have h1 : o.idxOf a < o.length := List.idxOf_lt_length_of_mem ha
  have h2 : o.idxOf b < o.length := by rw [← e]; exact h1
  have e1 : o[o.idxOf a] = a := List.getElem_idxOf h1
  have e2 : o[o.idxOf b] = b := List.getElem_idxOf h2
  have e3 : o[o.idxOf a] = o[o.idxOf b] := by congr 1
  rw [e1, e2] at e3; exact e3
theorem idx_ne {n : Nat} {o : List Nat} (h : o.Perm (List.range n)) {a b : Nat} (ha : a < n) (hab : a ≠ b) : o.idxOf a ≠ o.idxOf b := fun e => hab (idx_inj ((perm_mem h).mpr ha) e)

section
variable (fl : List Nat → List Bool) (n : Nat)
def Const (S : List (List Nat)) : Prop := ∀ o ∈ S, ∀ o' ∈ S, fl o = fl o'
/-- there is a tree of at most this depth -/
def HT : Nat → List (List Nat) → Prop
  | 0, S => Const fl S
  | k + 1, S => Const fl S ∨ ∃ a b, a < b ∧ b < n ∧ fst S a b ≠ [] ∧ fst S b a ≠ [] ∧ HT k (fst S a b) ∧ HT k (fst S b a)
end
section
variable {fl : List Nat → List Bool} {n : Nat}
theorem Const.sub {S T : List (List Nat)} (h : Sub T S) (c : Const fl S) : Const fl T := fun o ho o' ho' => c o (h o ho) o' (h o' ho')
theorem HT.of_const {k : Nat} {S : List (List Nat)} (c : Const fl S) : HT fl n k S := by
  cases k with
  | zero => exact c
  | succ k => exact .inl c
theorem HT.succ : ∀ {k : Nat} {S : List (List Nat)}, HT fl n k S → HT fl n (k + 1) S
  | 0, _, h => .inl h
  | k + 1, _, .inl h => .inl h
  | k + 1, _, .inr ⟨a, b, h1, h2, h3, h4, h5, h6⟩ => .inr ⟨a, b, h1, h2, h3, h4, h5.succ, h6.succ⟩
theorem HT.mono {j k : Nat} {S : List (List Nat)} (h : HT fl n j S) (e : j ≤ k) : HT fl n k S := by
  induction e with
  | refl => exact h
  | step _ ih => exact ih.succ
theorem HT.sub : ∀ {k : Nat} {S T : List (List Nat)}, Sub T S → Perms n T → HT fl n k S → HT fl n k T
  | 0, _, _, h, _, c => Const.sub h c
  | k + 1, _, _, h, _, .inl c => .inl (Const.sub h c)
  | k + 1, S, T, h, p, .inr ⟨a, b, h1, h2, h3, h4, h5, h6⟩ => by
    by_cases e1 : fst T a b = []
    · refine HT.succ (HT.sub (S := fst S b a) (fun o ho => mem_fst.mpr ⟨h o ho, ?_⟩) p h6)
      have q := idx_ne (p o ho) (show a < n by omega) (show a ≠ b by omega)
      have : ¬ o.idxOf a < o.idxOf b := fun z => by
        have := mem_fst.mpr ⟨ho, z⟩
        rw [e1] at this; cases this
      omega
    · by_cases e2 : fst T b a = []
      · refine HT.succ (HT.sub (S := fst S a b) (fun o ho => mem_fst.mpr ⟨h o ho, ?_⟩) p h5)
        have q := idx_ne (p o ho) (show a < n by omega) (show a ≠ b by omega)
        have : ¬ o.idxOf b < o.idxOf a := fun z => by
          have := mem_fst.mpr ⟨ho, z⟩
          rw [e2] at this; cases this
        omega
      · exact .inr ⟨a, b, h1, h2, e1, e2, HT.sub (h.fst a b) (p.fst a b) h5, HT.sub (h.fst b a) (p.fst b a) h6⟩

/-! ### the number of questions that part -/
def pairs (n : Nat) : List (Nat × Nat) := (List.range n).flatMap fun a => ((List.range n).filter fun b => decide (a < b)).map fun b => (a, b)
theorem mem_pairs {p : Nat × Nat} : p ∈ pairs n ↔ p.1 < p.2 ∧ p.2 < n := by
  obtain ⟨a, b⟩ := p
  unfold pairs
  rw [List.mem_flatMap]
  constructor
  · rintro ⟨x, _, h⟩
    obtain ⟨y, hy, e⟩ := List.mem_map.mp h
    obtain ⟨h1, h2⟩ := List.mem_filter.mp hy
    cases e
    exact ⟨of_decide_eq_true h2, List.mem_range.mp h1⟩
  · rintro ⟨h1, h2⟩
    exact ⟨a, List.mem_range.mpr (Nat.lt_trans h1 h2), List.mem_map.mpr ⟨b, List.mem_filter.mpr ⟨List.mem_range.mpr h2, decide_eq_true h1⟩, rfl⟩⟩
def spl (S : List (List Nat)) (p : Nat × Nat) : Bool := !(fst S p.1 p.2).isEmpty && !(fst S p.2 p.1).isEmpty
theorem spl_iff {S : List (List Nat)} {a b : Nat} : spl S (a, b) = true ↔ fst S a b ≠ [] ∧ fst S b a ≠ [] := by
  unfold spl
  simp
def sp (n : Nat) (S : List (List Nat)) : Nat := (pairs n).countP (spl S)
theorem countP_lt {α : Type} {p q : α → Bool} : ∀ {l : List α}, (∀ x ∈ l, p x = true → q x = true) → ∀ {x : α}, x ∈ l → q x = true → p x = false → l.countP p < l.countP q
  | [], _, _, h, _, _ => by cases h
  | y :: l, hpq, x, hx, hq, hp => by
    rw [List.countP_cons, List.countP_cons]
    have hle : l.countP p ≤ l.countP q := List.countP_mono_left fun z hz => hpq z (List.mem_cons_of_mem _ hz)
    rcases List.mem_cons.mp hx with rfl | hx
    · rw [hq, hp]; simp; omega
    · have ih := countP_lt (fun z hz => hpq z (List.mem_cons_of_mem _ hz)) hx hq hp
      have := hpq y List.mem_cons_self
      cases e1 : p y <;> cases e2 : q y <;> simp_all <;> omega
theorem ne_nil_sub {S T : List (List Nat)} (h : Sub T S) (e : T ≠ []) : S ≠ [] := by
  cases T with
  | nil => exact absurd rfl e
  | cons o T => intro z; have := h o List.mem_cons_self; rw [z] at this; cases this
theorem spl_sub {S T : List (List Nat)} (h : Sub T S) {p : Nat × Nat} (e : spl T p = true) : spl S p = true := by
  obtain ⟨a, b⟩ := p
  obtain ⟨h1, h2⟩ := spl_iff.mp e
  exact spl_iff.mpr ⟨ne_nil_sub (h.fst a b) h1, ne_nil_sub (h.fst b a) h2⟩
theorem sp_lt {S : List (List Nat)} {a b : Nat} (hab : a < b) (hb : b < n) (h1 : fst S a b ≠ []) (h2 : fst S b a ≠ []) : sp n (fst S a b) < sp n S ∧ sp n (fst S b a) < sp n S := by
  have key : ∀ c d, (c = a ∧ d = b) ∨ (c = b ∧ d = a) → spl (fst S c d) (a, b) = false := by
    intro c d hcd
    cases e : spl (fst S c d) (a, b) with
    | false => rfl
    | true =>
      obtain ⟨z1, z2⟩ := spl_iff.mp e
      rcases hcd with ⟨rfl, rfl⟩ | ⟨rfl, rfl⟩
      · exfalso; apply z2
        apply List.eq_nil_iff_forall_not_mem.mpr
        intro o ho
        have q1 := mem_fst.mp ho
        have q2 := mem_fst.mp q1.1
        omega
      · exfalso; apply z1
        apply List.eq_nil_iff_forall_not_mem.mpr
        intro o ho
        have q1 := mem_fst.mp ho
        have q2 := mem_fst.mp q1.1
        omega
  have hm : (a, b) ∈ pairs n := mem_pairs.mpr ⟨hab, hb⟩
  have hS : spl S (a, b) = true := spl_iff.mpr ⟨h1, h2⟩
  exact ⟨countP_lt (fun p _ e => spl_sub (fst_sub S a b) e) hm hS (key a b (.inl ⟨rfl, rfl⟩)), countP_lt (fun p _ e => spl_sub (fst_sub S b a) e) hm hS (key b a (.inr ⟨rfl, rfl⟩))⟩

/-! ### unlike orders are parted by some question -/
theorem idx_ne_cons {x a : Nat} (o : List Nat) (h : x ≠ a) : (x :: o).idxOf a = o.idxOf a + 1 := by
  have e : (x == a) = false := by rw [beq_eq_false_iff_ne]; exact h
  rw [List.idxOf_cons, e]; rfl
theorem same_order : ∀ {o o' : List Nat}, o.Nodup → o.Perm o' → (∀ a ∈ o, ∀ b ∈ o, o.idxOf a < o.idxOf b → o'.idxOf a < o'.idxOf b) → o = o'
  | [], o', _, p, _ => p.nil_eq
  | x :: o, o', nd, p, h => by
    have nx : x ∉ o := (List.nodup_cons.mp nd).1
    have nd2 : o.Nodup := (List.nodup_cons.mp nd).2
    cases o' with
    | nil => exact absurd p.eq_nil (by simp)
    | cons y o' =>
      have hy : y ∈ x :: o := p.mem_iff.mpr List.mem_cons_self
      have hx : x ∈ y :: o' := p.mem_iff.mp List.mem_cons_self
      have e : x = y := by
        by_cases e : x = y
        · exact e
        · exfalso
          have hy2 : y ∈ o := by
            rcases List.mem_cons.mp hy with z | z
            · exact absurd z.symm e
            · exact z
          have q := h x List.mem_cons_self y hy (by
            rw [List.idxOf_cons_self, idx_ne_cons _ e]; omega)
          rw [List.idxOf_cons_self] at q
          omega
      subst e
      have p2 : o.Perm o' := (List.perm_cons x).mp p
      refine congrArg (x :: ·) (same_order nd2 p2 fun a ha b hb hab => ?_)
      have na : x ≠ a := fun z => nx (z ▸ ha)
      have nb : x ≠ b := fun z => nx (z ▸ hb)
      have q := h a (List.mem_cons_of_mem _ ha) b (List.mem_cons_of_mem _ hb) (by rw [idx_ne_cons _ na, idx_ne_cons _ nb]; omega)
      rw [idx_ne_cons _ na, idx_ne_cons _ nb] at q
      omega
theorem parted {o o' : List Nat} (h : o.Perm (List.range n)) (h' : o'.Perm (List.range n)) (ne : o ≠ o') :
    ∃ a b, a < n ∧ b < n ∧ o.idxOf a < o.idxOf b ∧ o'.idxOf b < o'.idxOf a := by
  refine Classical.byContradiction fun hc => ne (same_order (perm_nodup h) (h.trans h'.symm) fun a ha b hb hab => ?_)
  have la := (perm_mem h).mp ha
  have lb := (perm_mem h).mp hb
  have hne : a ≠ b := fun z => by subst z; omega
  have q := idx_ne h' la hne
  refine Classical.byContradiction fun hd => hc ⟨a, b, la, lb, hab, by omega⟩
theorem exists_spl {S : List (List Nat)} (p : Perms n S) (nc : ¬ Const fl S) : ∃ a b, a < b ∧ b < n ∧ fst S a b ≠ [] ∧ fst S b a ≠ [] := by
  have : ∃ o ∈ S, ∃ o' ∈ S, fl o ≠ fl o' := by
    refine Classical.byContradiction fun hc => nc fun o ho o' ho' => ?_
    refine Classical.byContradiction fun hd => hc ⟨o, ho, o', ho', hd⟩
  obtain ⟨o, ho, o', ho', d⟩ := this
  obtain ⟨a, b, la, lb, h1, h2⟩ := parted (p o ho) (p o' ho') fun z => d (by rw [z])
  have f1 : fst S a b ≠ [] := List.ne_nil_of_mem (mem_fst.mpr ⟨ho, h1⟩)
  have f2 : fst S b a ≠ [] := List.ne_nil_of_mem (mem_fst.mpr ⟨ho', h2⟩)
  rcases Nat.lt_trichotomy a b with z | z | z
  · exact ⟨a, b, z, lb, f1, f2⟩
  · subst z; omega
  · exact ⟨b, a, z, la, f2, f1⟩
theorem HT.all : ∀ (k : Nat) {S : List (List Nat)}, Perms n S → sp n S ≤ k → HT fl n k S
  | 0, S, p, h => by
    refine Classical.byContradiction fun nc => ?_
    obtain ⟨a, b, h1, h2, h3, h4⟩ := exists_spl p nc
    have := (sp_lt h1 h2 h3 h4).1
    omega
  | k + 1, S, p, h => by
    by_cases c : Const fl S
    · exact .inl c
    · obtain ⟨a, b, h1, h2, h3, h4⟩ := exists_spl p c
      obtain ⟨q1, q2⟩ := sp_lt h1 h2 h3 h4
      exact .inr ⟨a, b, h1, h2, h3, h4, HT.all k (p.fst a b) (by omega), HT.all k (p.fst b a) (by omega)⟩

/-! ### the least depth -/
def IsL (fl : List Nat → List Bool) (n : Nat) (S : List (List Nat)) (k : Nat) : Prop := HT fl n k S ∧ ∀ j, HT fl n j S → k ≤ j
theorem exists_least {P : Nat → Prop} : ∀ k, P k → ∃ m, P m ∧ ∀ j, P j → m ≤ j := by
  intro k hk
  refine Classical.byContradiction fun hc => ?_
  have : ∀ m, ¬ P m := by
    intro m
    induction m using Nat.strongRecOn with
    | _ m ih =>
      intro hm
      exact hc ⟨m, hm, fun j hj => Nat.le_of_not_lt fun z => ih j z hj⟩
  exact this k hk
noncomputable def lst (fl : List Nat → List Bool) (n : Nat) (S : List (List Nat)) : Nat := Classical.epsilon (IsL fl n S)
theorem lst_is {S : List (List Nat)} (p : Perms n S) : IsL fl n S (lst fl n S) := by
  have : ∃ k, IsL fl n S k := exists_least (P := fun k => HT fl n k S) (sp n S) (HT.all _ p (Nat.le_refl _))
  exact Classical.epsilon_spec this
theorem lst_le {S : List (List Nat)} (p : Perms n S) {k : Nat} (h : HT fl n k S) : lst fl n S ≤ k := (lst_is p).2 k h
theorem lst_sp {S : List (List Nat)} (p : Perms n S) : lst fl n S ≤ sp n S := lst_le p (HT.all _ p (Nat.le_refl _))
theorem lst_sub {S T : List (List Nat)} (h : Sub T S) (p : Perms n S) : lst fl n T ≤ lst fl n S := by
  have q : Perms n T := fun o ho => p o (h o ho)
  exact lst_le q (HT.sub h q (lst_is p).1)
theorem lst_same {S T : List (List Nat)} (h : Sub T S) (h' : Sub S T) (p : Perms n S) : lst fl n T = lst fl n S := by
  have q : Perms n T := fun o ho => p o (h o ho)
  exact Nat.le_antisymm (lst_sub h p) (lst_sub h' q)
theorem lst_const {S : List (List Nat)} (p : Perms n S) (c : Const fl S) : lst fl n S = 0 := Nat.le_zero.mp (lst_le p (k := 0) c)
/-- what a question is worth -/
noncomputable def worth (fl : List Nat → List Bool) (n : Nat) (S : List (List Nat)) (a b : Nat) : Nat := 1 + max (lst fl n (fst S a b)) (lst fl n (fst S b a))
theorem lst_le_worth {S : List (List Nat)} (p : Perms n S) {a b : Nat} (h1 : a < b) (h2 : b < n) (h3 : fst S a b ≠ []) (h4 : fst S b a ≠ []) : lst fl n S ≤ worth fl n S a b := by
  unfold worth
  rw [Nat.add_comm]
  refine lst_le p (.inr ⟨a, b, h1, h2, h3, h4, (lst_is (p.fst a b)).1.mono (Nat.le_max_left _ _), (lst_is (p.fst b a)).1.mono (Nat.le_max_right _ _)⟩)
theorem exists_worth {S : List (List Nat)} (p : Perms n S) (nc : ¬ Const fl S) : ∃ a b, a < b ∧ b < n ∧ fst S a b ≠ [] ∧ fst S b a ≠ [] ∧ worth fl n S a b ≤ lst fl n S := by
  have h := (lst_is (fl := fl) p).1
  cases e : lst fl n S with
  | zero => rw [e] at h; exact absurd h nc
  | succ k =>
    rw [e] at h
    rcases h with h | ⟨a, b, h1, h2, h3, h4, h5, h6⟩
    · exact absurd h nc
    · refine ⟨a, b, h1, h2, h3, h4, ?_⟩
      unfold worth
      have q1 := lst_le (p.fst a b) h5
      have q2 := lst_le (p.fst b a) h6
      omega
/-- the least worth of all questions is the least depth -/
theorem lst_min {S : List (List Nat)} (p : Perms n S) (nc : ¬ Const fl S) {a b : Nat} (h1 : a < b) (h2 : b < n) (h3 : fst S a b ≠ []) (h4 : fst S b a ≠ [])
    (hm : ∀ c d, c < d → d < n → fst S c d ≠ [] → fst S d c ≠ [] → worth fl n S a b ≤ worth fl n S c d) : lst fl n S = worth fl n S a b := by
  obtain ⟨c, d, g1, g2, g3, g4, g5⟩ := exists_worth p nc
  have := hm c d g1 g2 g3 g4
  have := lst_le_worth (fl := fl) p h1 h2 h3 h4
  omega
theorem sp_le_ten {S : List (List Nat)} (h : n ≤ 5) : sp n S ≤ 10 := by
  refine Nat.le_trans List.countP_le_length ?_
  match n, h with
  | 0, _ => decide
  | 1, _ => decide
  | 2, _ => decide
  | 3, _ => decide
  | 4, _ => decide
  | 5, _ => decide
end
/-! ### data -/
/-- what a value stands for, with no heap: None, a flag, a number, a text, a tuple, a list, a dict by tuples of numbers, one by numbers, some object -/
inductive D where
  | non | bl (b : Bool) | int (i : Int) | str (x : PySem.Str) | tup (xs : List D) | lst (xs : List D) | dic (kvs : List (List Int × D)) | dii (kvs : List (Int × D)) | ins (C : Nat) (fs : List (PySem.Str × D)) | obj (a : Nat) | ord (ns : List Nat) | dnk (es : List (PySem.NestedKey × D))
/-! how deep tuples stand in one another -/
mutual
def dep : D → Nat
  | .tup xs => depL xs + 1
  | _ => 0
def depL : List D → Nat
  | [] => 0
  | x :: xs => max (dep x) (depL xs)
end
/-- the flags of a list of flags -/
def bools : List D → Option (List Bool)
  | [] => some []
  | .bl b :: r => (bools r).map (b :: ·)
  | _ :: _ => none
theorem bools_map (bs : List Bool) : bools (bs.map D.bl) = some bs := by
  induction bs with
  | nil => rfl
  | cons b r ih => simp [bools, ih]
theorem bools_some : ∀ {fs : List D} {bs : List Bool}, bools fs = some bs → fs = bs.map D.bl
  | [], bs, h => by simp [bools] at h; subst h; rfl
  | .bl b :: r, bs, h => by
    rw [bools] at h
    obtain ⟨cs, h1, rfl⟩ := Option.map_eq_some_iff.mp h
    rw [bools_some h1]; rfl
  | .non :: _, _, h => by simp [bools] at h
  | .int _ :: _, _, h => by simp [bools] at h
  | .str _ :: _, _, h => by simp [bools] at h
  | .tup _ :: _, _, h => by simp [bools] at h
  | .lst _ :: _, _, h => by simp [bools] at h
  | .dic _ :: _, _, h => by simp [bools] at h
  | .dii _ :: _, _, h => by simp [bools] at h
  | .ins _ _ :: _, _, h => by simp [bools] at h
  | .obj _ :: _, _, h => by simp [bools] at h
def toldS : PySem.Str := "told"
/-- the depth of a tree for some orders, none if it is no tree for them -/
def dpt (fl : List Nat → List Bool) (n : Nat) (S : List (List Nat)) : D → Option Nat
  | .tup [.str s, .tup fs] =>
    if s = toldS then
      match bools fs with
      | some bs => if ∀ o ∈ S, fl o = bs then some 0 else none
      | none => none
    else none
  | .tup [.int a, .int b, t1, t2] =>
    if 0 ≤ a ∧ a < n ∧ 0 ≤ b ∧ b < n then
      if a = b ∨ fst S a.toNat b.toNat = [] ∨ fst S b.toNat a.toNat = [] then none
      else
        match dpt fl n (fst S a.toNat b.toNat) t1, dpt fl n (fst S b.toNat a.toNat) t2 with
        | some x, some y => some (1 + max x y)
        | _, _ => none
    else none
  | _ => none
theorem sub_nil {S T : List (List Nat)} (h : Sub S T) (e : T = []) : S = [] := by
  subst e
  cases S with
  | nil => rfl
  | cons o S => exact absurd (h o List.mem_cons_self) (by simp)
theorem nil_same {S T : List (List Nat)} (h : Sub T S) (h' : Sub S T) : T = [] ↔ S = [] := ⟨sub_nil h', sub_nil h⟩
theorem dep_four {a b t1 t2 : D} : dep t1 < dep (.tup [a, b, t1, t2]) ∧ dep t2 < dep (.tup [a, b, t1, t2]) := by
  simp only [dep, depL]; omega
theorem dpt_same_aux {fl : List Nat → List Bool} {n : Nat} : ∀ (k : Nat) (d : D), dep d ≤ k → ∀ {S T : List (List Nat)}, Sub T S → Sub S T → dpt fl n T d = dpt fl n S d := by
  intro k
  induction k with
  | zero =>
    intro d hd S T h h'
    cases d <;> first | (simp only [dpt]; done) | (exfalso; simp only [dep] at hd; omega)
  | succ k ih =>
    intro d hd S T h h'
    rw [dpt.eq_def fl n T d, dpt.eq_def fl n S d]
    split
    · rename_i s fs
      split
      · split
        · rename_i bs e2
          by_cases q : ∀ o ∈ T, fl o = bs
          · rw [if_pos q, if_pos fun o ho => q o (h' o ho)]
          · rw [if_neg q, if_neg fun z => q fun o ho => z o (h o ho)]
        · rfl
      · rfl
    · rename_i a b t1 t2
      obtain ⟨d1, d2⟩ := @dep_four (.int a) (.int b) t1 t2
      split
      · have c : (a = b ∨ fst T a.toNat b.toNat = [] ∨ fst T b.toNat a.toNat = []) ↔ (a = b ∨ fst S a.toNat b.toNat = [] ∨ fst S b.toNat a.toNat = []) := by
          rw [nil_same (h.fst a.toNat b.toNat) (h'.fst a.toNat b.toNat), nil_same (h.fst b.toNat a.toNat) (h'.fst b.toNat a.toNat)]
        by_cases q : a = b ∨ fst T a.toNat b.toNat = [] ∨ fst T b.toNat a.toNat = []
        · rw [if_pos q, if_pos (c.mp q)]
        · rw [if_neg q, if_neg (fun z => q (c.mpr z)), ih t1 (by omega) (h.fst a.toNat b.toNat) (h'.fst a.toNat b.toNat), ih t2 (by omega) (h.fst b.toNat a.toNat) (h'.fst b.toNat a.toNat)]
      · rfl
    · rfl
theorem dpt_same {fl : List Nat → List Bool} {n : Nat} (d : D) {S T : List (List Nat)} (h : Sub T S) (h' : Sub S T) : dpt fl n T d = dpt fl n S d := dpt_same_aux (dep d) d (Nat.le_refl _) h h'
theorem dpt_told {fl : List Nat → List Bool} {n : Nat} {S : List (List Nat)} {bs : List Bool} (h : ∀ o ∈ S, fl o = bs) : dpt fl n S (.tup [.str toldS, .tup (bs.map .bl)]) = some 0 := by
  rw [dpt, if_pos rfl, bools_map]
  dsimp only
  rw [if_pos h]
theorem dpt_node {fl : List Nat → List Bool} {n : Nat} {S : List (List Nat)} {a b x y : Nat} {t1 t2 : D} (ha : a < n) (hb : b < n) (hab : a ≠ b) (h1 : fst S a b ≠ []) (h2 : fst S b a ≠ [])
    (e1 : dpt fl n (fst S a b) t1 = some x) (e2 : dpt fl n (fst S b a) t2 = some y) : dpt fl n S (.tup [.int a, .int b, t1, t2]) = some (1 + max x y) := by
  rw [dpt, if_pos (by omega), if_neg (by simp only [Int.toNat_natCast]; intro z; rcases z with z | z | z; omega; exact h1 z; exact h2 z)]
  simp only [Int.toNat_natCast]
  rw [e1, e2]
/-! ### the program's orders -/
def rst (n : Nat) (o : List Nat) : List Nat := (List.range n).filter fun c => !decide (c ∈ o)
def nxt (n : Nat) (C : Nat → Nat → Bool) (o : List Nat) : List Nat := (rst n o).filter fun c => !((rst n o).any fun x => C x c)
def ordP (n : Nat) (C : Nat → Nat → Bool) : Nat → List (List Nat)
  | 0 => [[]]
  | t + 1 => (ordP n C t).flatMap fun o => (nxt n C o).map fun c => o ++ [c]
theorem mem_rst {n c : Nat} {o : List Nat} : c ∈ rst n o ↔ c < n ∧ c ∉ o := by
  unfold rst; rw [List.mem_filter, List.mem_range]; simp
theorem mem_nxt {n c : Nat} {C : Nat → Nat → Bool} {o : List Nat} : c ∈ nxt n C o ↔ c < n ∧ c ∉ o ∧ ∀ x < n, x ∉ o → C x c = false := by
  unfold nxt
  rw [List.mem_filter, mem_rst]
  simp only [Bool.not_eq_true', List.any_eq_false, mem_rst, Bool.not_eq_true]
  constructor
  · rintro ⟨⟨h1, h2⟩, h3⟩; exact ⟨h1, h2, fun x hx hn => h3 x ⟨hx, hn⟩⟩
  · rintro ⟨h1, h2, h3⟩; exact ⟨⟨h1, h2⟩, fun x ⟨hx, hn⟩ => h3 x hx hn⟩
def OkP (n : Nat) (C : Nat → Nat → Bool) (o : List Nat) : Prop := o.Nodup ∧ (∀ x ∈ o, x < n) ∧ ∀ p c s, o = p ++ c :: s → ∀ x < n, x ∉ p → C x c = false
theorem mem_ordP {n : Nat} {C : Nat → Nat → Bool} : ∀ {t : Nat} {o : List Nat}, o ∈ ordP n C t ↔ o.length = t ∧ OkP n C o
  | 0, o => by
    rw [ordP, List.mem_singleton]
    constructor
    · rintro rfl; exact ⟨rfl, List.nodup_nil, by simp, by simp⟩
    · rintro ⟨h, _⟩; exact List.length_eq_zero_iff.mp h
  | t + 1, o => by
    rw [ordP, List.mem_flatMap]
    constructor
    · rintro ⟨q, hq, ho⟩
      obtain ⟨c, hc, rfl⟩ := List.mem_map.mp ho
      obtain ⟨l, nd, hm, hv⟩ := mem_ordP.mp hq
      obtain ⟨c1, c2, c3⟩ := mem_nxt.mp hc
      refine ⟨by simp [l], List.nodup_append.mpr ⟨nd, by simp, by rintro a ha b hb rfl; simp at hb; subst hb; exact c2 ha⟩, ?_, ?_⟩
      · intro x hx
        rcases List.mem_append.mp hx with h | h
        · exact hm x h
        · simp at h; omega
      · intro p d s e x hx hn
        rcases List.eq_nil_or_concat s with rfl | ⟨s', z, rfl⟩
        · have := List.append_inj' e rfl
          obtain ⟨rfl, e2⟩ := this
          cases e2
          exact c3 x hx hn
        · have e' : q ++ [c] = (p ++ d :: s') ++ [z] := by simpa using e
          obtain ⟨rfl, _⟩ := List.append_inj' e' rfl
          exact hv p d s' rfl x hx hn
    · rintro ⟨l, nd, hm, hv⟩
      rcases List.eq_nil_or_concat o with rfl | ⟨q, c, rfl⟩
      · simp at l
      · rw [List.concat_eq_append] at *
        have hq : q ∈ ordP n C t := mem_ordP.mpr ⟨by simpa using l, (List.nodup_append.mp nd).1, fun x hx => hm x (List.mem_append_left _ hx), fun p d s e x hx hn => hv p d (s ++ [c]) (by rw [e]; simp) x hx hn⟩
        refine ⟨q, hq, List.mem_map.mpr ⟨c, mem_nxt.mpr ⟨hm c (by simp), fun z => ?_, fun x hx hn => hv q c [] (by simp) x hx hn⟩, rfl⟩⟩
        exact (List.nodup_append.mp nd).2.2 c z c (by simp) rfl
theorem perm_sub : ∀ {o l : List Nat}, o.Nodup → l.Nodup → (∀ x ∈ o, x ∈ l) → l.length ≤ o.length → o.Perm l
  | [], l, _, _, _, h => by rw [List.length_eq_zero_iff.mp (Nat.le_zero.mp h)]
  | x :: o, l, nd, nl, hs, h => by
    have hx : x ∈ l := hs x List.mem_cons_self
    have nx := (List.nodup_cons.mp nd).1
    have P : l.Perm (x :: l.erase x) := List.perm_cons_erase hx
    have hl : (l.erase x).length + 1 = l.length := by rw [P.length_eq, List.length_cons]
    refine (List.Perm.cons x (perm_sub (List.nodup_cons.mp nd).2 (nl.erase x) (fun y hy => ?_) (by rw [List.length_cons] at h; omega))).trans P.symm
    have : y ≠ x := fun z => nx (z ▸ hy)
    exact (List.mem_erase_of_ne this).mpr (hs y (List.mem_cons_of_mem _ hy))
theorem perm_of {n : Nat} {o : List Nat} (nd : o.Nodup) (h : ∀ x ∈ o, x < n) (l : o.length = n) : o.Perm (List.range n) := by
  exact perm_sub nd List.nodup_range (fun x hx => List.mem_range.mpr (h x hx)) (by simp [l])
theorem mem_ordP_full {n : Nat} {C : Nat → Nat → Bool} {o : List Nat} : o ∈ ordP n C n ↔ o.Perm (List.range n) ∧ ∀ a b, a < n → b < n → C a b = true → o.idxOf a < o.idxOf b := by
  rw [mem_ordP]
  constructor
  · rintro ⟨l, nd, hm, hv⟩
    have P := perm_of nd hm l
    refine ⟨P, fun a b ha hb hC => ?_⟩
    have hbo : b ∈ o := (perm_mem P).mpr hb
    obtain ⟨p, s, e, hp⟩ : ∃ p s, o = p ++ b :: s ∧ b ∉ p := by
      obtain ⟨p, s, e⟩ := List.append_of_mem hbo
      refine ⟨p, s, e, fun z => ?_⟩
      rw [e] at nd
      exact (List.nodup_append.mp nd).2.2 b z b List.mem_cons_self rfl
    have hap : a ∈ p := by
      refine Classical.byContradiction fun z => ?_
      have := hv p b s e a ha z
      rw [hC] at this; cases this
    rw [e, List.idxOf_append, if_pos hap, List.idxOf_append, if_neg hp, List.idxOf_cons_self]
    have := List.idxOf_lt_length_of_mem hap
    omega
  · rintro ⟨P, h⟩
    refine ⟨perm_len P, perm_nodup P, fun x hx => (perm_mem P).mp hx, fun p c s e x hx hn => ?_⟩
    cases hC : C x c with
    | false => rfl
    | true =>
      exfalso
      have nd := perm_nodup P
      have hc : c < n := (perm_mem P).mp (by rw [e]; simp)
      have q := h x c hx hc hC
      have hcp : c ∉ p := fun z => by
        rw [e] at nd
        exact (List.nodup_append.mp nd).2.2 c z c List.mem_cons_self rfl
      rw [e, List.idxOf_append, if_neg hn, List.idxOf_append, if_neg hcp, List.idxOf_cons_self] at q
      omega

/-! ### the law's orders -/
def ins1 (t : Nat) (o : List Nat) : List (List Nat) := (List.range (o.length + 1)).map fun at_ => o.take at_ ++ [t] ++ o.drop at_
def allL : Nat → List (List Nat)
  | 0 => [[]]
  | t + 1 => (allL t).flatMap (ins1 t)
theorem mem_allL : ∀ {n : Nat} {o : List Nat}, o ∈ allL n ↔ o.Perm (List.range n)
  | 0, o => by
    rw [allL, List.mem_singleton]
    constructor
    · rintro rfl; exact List.Perm.refl _
    · intro h; exact h.eq_nil
  | n + 1, o => by
    rw [allL, List.mem_flatMap]
    constructor
    · rintro ⟨q, hq, ho⟩
      obtain ⟨i, hi, rfl⟩ := List.mem_map.mp ho
      have P := mem_allL.mp hq
      rw [List.range_succ]
      have h1 : (q.take i ++ [n] ++ q.drop i).Perm (n :: (q.take i ++ q.drop i)) := by
        rw [List.append_assoc]
        exact List.perm_middle
      rw [List.take_append_drop] at h1
      refine h1.trans ?_
      refine (List.Perm.cons n P).trans ?_
      exact (List.perm_append_singleton n (List.range n)).symm
    · intro P
      have hn : n ∈ o := (perm_mem P).mpr (Nat.lt_succ_self n)
      obtain ⟨p, s, rfl⟩ := List.append_of_mem hn
      refine ⟨p ++ s, mem_allL.mpr ?_, List.mem_map.mpr ⟨p.length, List.mem_range.mpr (by simp; omega), by simp⟩⟩
      have h1 : (p ++ n :: s).Perm (n :: (p ++ s)) := List.perm_middle
      have h2 : (n :: (p ++ s)).Perm (n :: List.range n) := by
        refine h1.symm.trans (P.trans ?_)
        rw [List.range_succ]
        exact List.perm_append_singleton n (List.range n)
      exact (List.perm_cons n).mp h2
def keepsB (prs : List (Nat × Nat)) (o : List Nat) : Bool := prs.all fun p => decide (o.idxOf p.1 < o.idxOf p.2)
def ordL (n : Nat) (prs : List (Nat × Nat)) : List (List Nat) := (allL n).filter (keepsB prs)
theorem mem_ordL {n : Nat} {prs : List (Nat × Nat)} {o : List Nat} : o ∈ ordL n prs ↔ o.Perm (List.range n) ∧ ∀ p ∈ prs, o.idxOf p.1 < o.idxOf p.2 := by
  unfold ordL keepsB
  rw [List.mem_filter, mem_allL, List.all_eq_true]
  simp
theorem ordL_perms (n : Nat) (prs : List (Nat × Nat)) : Perms n (ordL n prs) := fun _ ho => (mem_ordL.mp ho).1
theorem ordP_perms (n : Nat) (C : Nat → Nat → Bool) : Perms n (ordP n C n) := fun _ ho => (mem_ordP_full.mp ho).1

/-! ### what follows from the pairs known -/
structure Clo (n : Nat) (prs : List (Nat × Nat)) (C : Nat → Nat → Bool) : Prop where
  all : ∀ p ∈ prs, C p.1 p.2 = true
  bnd : ∀ a b, C a b = true → a < n ∧ b < n
  tr : ∀ R : Nat → Nat → Prop, (∀ p ∈ prs, R p.1 p.2) → (∀ a b c, R a b → R b c → R a c) → ∀ a b, C a b = true → R a b
theorem Clo.keeps {n : Nat} {prs : List (Nat × Nat)} {C : Nat → Nat → Bool} (c : Clo n prs C) {o : List Nat} (h : ∀ p ∈ prs, o.idxOf p.1 < o.idxOf p.2) : ∀ a b, C a b = true → o.idxOf a < o.idxOf b :=
  c.tr (fun a b => o.idxOf a < o.idxOf b) h fun _ _ _ => Nat.lt_trans
theorem Clo.same {n : Nat} {prs : List (Nat × Nat)} {C : Nat → Nat → Bool} (c : Clo n prs C) {o : List Nat} : o ∈ ordP n C n ↔ o ∈ ordL n prs := by
  rw [mem_ordP_full, mem_ordL]
  constructor
  · rintro ⟨P, h⟩
    exact ⟨P, fun p hp => h p.1 p.2 (c.bnd _ _ (c.all p hp)).1 (c.bnd _ _ (c.all p hp)).2 (c.all p hp)⟩
  · rintro ⟨P, h⟩
    exact ⟨P, fun a b _ _ hC => c.keeps h a b hC⟩

/-! ### who is taken -/
section
variable (has : Nat → PySem.Str → Bool)
def ledP : List Nat → List PySem.Str → List (Option Nat)
  | _, [] => []
  | free, k :: r =>
    match free.find? fun s => has s k with
    | none => none :: ledP free r
    | some s => some s :: ledP (free.erase s) r
def mine (m : Nat) (used : List (Option Nat)) (k : PySem.Str) : Option Nat := (List.range m).find? fun s => !decide (some s ∈ used) && has s k
def ledL (m : Nat) : List (Option Nat) → List PySem.Str → List (Option Nat)
  | _, [] => []
  | used, k :: r => mine has m used k :: ledL m (used ++ [mine has m used k]) r
theorem ledP_len : ∀ (row : List PySem.Str) (free : List Nat), (ledP has free row).length = row.length
  | [], _ => rfl
  | k :: r, free => by
    rw [ledP]
    split <;> simp [ledP_len r]
theorem led_same (m : Nat) : ∀ (row : List PySem.Str) (used : List (Option Nat)), ledP has ((List.range m).filter fun s => !decide (some s ∈ used)) row = ledL has m used row
  | [], used => rfl
  | k :: r, used => by
    have e : ((List.range m).filter fun s => !decide (some s ∈ used)).find? (fun s => has s k) = mine has m used k := by
      unfold mine
      rw [List.find?_filter]
      congr 1
      funext s
      simp
    rw [ledP, ledL, e]
    cases q : mine has m used k with
    | none =>
      dsimp only
      rw [← led_same m r (used ++ [none])]
      congr 3
      funext s
      simp
    | some s =>
      dsimp only
      rw [← led_same m r (used ++ [some s])]
      congr 2
      have nd : ((List.range m).filter fun s => !decide (some s ∈ used)).Nodup := List.nodup_range.filter _
      rw [nd.erase_eq_filter, List.filter_filter]
      congr 1
      funext x
      by_cases hx : x = s <;> simp [hx]
end
/-- the flags of an order -/
def flg (has : Nat → PySem.Str → Bool) (m : Nat) (row : List PySem.Str) (o : List Nat) : List Bool :=
  (List.range row.length).map fun c => ((ledP has (List.range m) (o.map fun i => row.getD i PySem.Str.empty)).getD (o.idxOf c) none).isSome
theorem ledL_eq (has : Nat → PySem.Str → Bool) (m : Nat) (row : List PySem.Str) : ledL has m [] row = ledP has (List.range m) row := by
  rw [← led_same has m row []]
  congr 1
  rw [List.filter_eq_self.mpr]
  simp
end K14

set_option Elab.async false
set_option linter.all false
set_option maxRecDepth 100000
set_option maxHeartbeats 4000000
namespace K14
open PySem L2

/-! ### a value and what it stands for -/
abbrev Ms := Addr → Prop
mutual
/-- v is the key k -/
inductive KeyV (M : Ms) (H : Hp) : NestedKey → V → Prop
  | num (i : Int) : KeyV M H (.num i) (.int i)
  | tup {a : Addr} {vs : List V} {ks : List NestedKey} : ¬ M a → Rd H a (.tup vs) → KeyVs M H ks vs → KeyV M H (.tup ks) (.ref a)
inductive KeyVs (M : Ms) (H : Hp) : List NestedKey → List V → Prop
  | nil : KeyVs M H [] []
  | cons {k : NestedKey} {v : V} {ks : List NestedKey} {vs : List V} : KeyV M H k v → KeyVs M H ks vs → KeyVs M H (k :: ks) (v :: vs)
end
/-- the one object at a is a dict with these entries: key, the key's own tuple, value -/
def plainN : NestedKey → Bool
  | .num _ => true
  | .tup ks => plainNs ks
  | _ => false
where plainNs : List NestedKey → Bool
  | [] => true
  | k :: ks => plainN k && plainNs ks
def ndOk (a : Addr) (xs : List (NestedKey × Addr × V)) (h : Heap) : Prop :=
  xs.length ≤ sizeLine ∧ (a == sysModules) = false ∧ (∀ x ∈ xs, plainN x.1 = true ∧ x.1.depth ≤ 8) ∧ (xs.map (·.1)).Nodup ∧ ∃ us : List (NestedKey × Addr × Value), Paired (fun (p : NestedKey × Addr × V) (q : NestedKey × Addr × Value) => p.1 = q.1 ∧ p.2.1 = q.2.1 ∧ RelV p.2.2 q.2.2) xs us ∧
    ∃ o es ep, h.get? a = some o ∧ o.ExactDict ∧ o.data = .dict es ep ∧ ∀ w : World, es.toList = us.map fun x => ⟨x.1.hash w, .ref x.2.1, x.2.2⟩
mutual
/-- v stands for d: its objects are tracked and none of them may change (M: the addresses that may) -/
inductive Rp (M : Ms) (H : Hp) : V → D → Prop
  | non : Rp M H .non .non
  | bl (b : Bool) : Rp M H (.bl b) (.bl b)
  | int (i : Int) : Rp M H (.int i) (.int i)
  | str (x : Str) : Rp M H (.str x) (.str x)
  | obj (a : Addr) : Rp M H (.ref a) (.obj a)
  | tup {a : Addr} {xs : List V} {ds : List D} : ¬ M a → H a = some (.tup xs) → RpL M H xs ds → Rp M H (.ref a) (.tup ds)
  | lst {a : Addr} {xs : List V} {ds : List D} : ¬ M a → H a = some (.lst xs) → RpL M H xs ds → Rp M H (.ref a) (.lst ds)
  | dic {a : Addr} {kvs : List (List Key × V)} {es : List (List Int × D)} : ¬ M a → H a = some (.dT kvs) → RpK M H kvs es → Rp M H (.ref a) (.dic es)
  | dii {a : Addr} {kvs : List (Key × V)} {es : List (Int × D)} : ¬ M a → H a = some (.dK kvs) → RpI M H kvs es → Rp M H (.ref a) (.dii es)
  | ins {a C dx : Addr} {fs : List (Str × V)} {gs : List (Str × D)} : ¬ M a → H a = some (.ins C dx fs) → RpF M H fs gs → Rp M H (.ref a) (.ins C gs)
  | ord {a : Addr} {ob : Obj} {ns : List Nat} : ¬ M a → H a = some (.frz ob (.tup (ns.map fun (n : Nat) => V.int (n : Int)))) → ob.dict = none → Rp M H (.ref a) (.ord ns)
  | dnk {a : Addr} {xs : List (NestedKey × Addr × V)} {es : List (NestedKey × D)} : ¬ M a → H a = some (.ext (ndOk a xs)) → RpN M H xs es → Rp M H (.ref a) (.dnk es)
inductive RpN (M : Ms) (H : Hp) : List (NestedKey × Addr × V) → List (NestedKey × D) → Prop
  | nil : RpN M H [] []
  | cons {k : NestedKey} {b : Addr} {v : V} {d : D} {vs : List (NestedKey × Addr × V)} {ds : List (NestedKey × D)} : KeyV M H k (.ref b) → Rp M H v d → RpN M H vs ds → RpN M H ((k, b, v) :: vs) ((k, d) :: ds)
inductive RpL (M : Ms) (H : Hp) : List V → List D → Prop
  | nil : RpL M H [] []
  | cons {v : V} {d : D} {vs : List V} {ds : List D} : Rp M H v d → RpL M H vs ds → RpL M H (v :: vs) (d :: ds)
inductive RpK (M : Ms) (H : Hp) : List (List Key × V) → List (List Int × D) → Prop
  | nil : RpK M H [] []
  | cons {k : List Int} {v : V} {d : D} {vs : List (List Key × V)} {ds : List (List Int × D)} : Rp M H v d → RpK M H vs ds → RpK M H ((k.map Sum.inl, v) :: vs) ((k, d) :: ds)
inductive RpI (M : Ms) (H : Hp) : List (Key × V) → List (Int × D) → Prop
  | nil : RpI M H [] []
  | cons {k : Int} {v : V} {d : D} {vs : List (Key × V)} {ds : List (Int × D)} : Rp M H v d → RpI M H vs ds → RpI M H ((.inl k, v) :: vs) ((k, d) :: ds)
inductive RpF (M : Ms) (H : Hp) : List (Str × V) → List (Str × D) → Prop
  | nil : RpF M H [] []
  | cons {k : Str} {v : V} {d : D} {vs : List (Str × V)} {ds : List (Str × D)} : Rp M H v d → RpF M H vs ds → RpF M H ((k, v) :: vs) ((k, d) :: ds)
end
def Keeps (M M' : Ms) (H H' : Hp) : Prop := ∀ a o, ¬ M a → H a = some o → ¬ M' a ∧ H' a = some o
theorem Keeps.rd {M M' : Ms} {H H' : Hp} (k : Keeps M M' H H') {a : Addr} {o : HO} (n : ¬ M a) (r : Rd H a o) : ¬ M' a ∧ Rd H' a o := by
  rcases r with r | ⟨ob, r⟩
  · exact ⟨(k _ _ n r).1, .inl (k _ _ n r).2⟩
  · exact ⟨(k _ _ n r).1, .inr ⟨ob, (k _ _ n r).2⟩⟩
mutual
theorem KeyV.mono {M M' : Ms} {H H' : Hp} (k : Keeps M M' H H') : ∀ {q : NestedKey} {v : V}, KeyV M H q v → KeyV M' H' q v
  | _, _, .num i => .num i
  | _, _, .tup n e l => .tup (k.rd n e).1 (k.rd n e).2 (KeyVs.mono k l)
theorem KeyVs.mono {M M' : Ms} {H H' : Hp} (k : Keeps M M' H H') : ∀ {q : List NestedKey} {v : List V}, KeyVs M H q v → KeyVs M' H' q v
  | _, _, .nil => .nil
  | _, _, .cons r l => .cons (KeyV.mono k r) (KeyVs.mono k l)
end
mutual
theorem Rp.mono {M M' : Ms} {H H' : Hp} (k : Keeps M M' H H') : ∀ {v : V} {d : D}, Rp M H v d → Rp M' H' v d
  | _, _, .non => .non
  | _, _, .bl b => .bl b
  | _, _, .int i => .int i
  | _, _, .str x => .str x
  | _, _, .obj a => .obj a
  | _, _, .tup n e l => .tup (k _ _ n e).1 (k _ _ n e).2 (RpL.mono k l)
  | _, _, .lst n e l => .lst (k _ _ n e).1 (k _ _ n e).2 (RpL.mono k l)
  | _, _, .dic n e l => .dic (k _ _ n e).1 (k _ _ n e).2 (RpK.mono k l)
  | _, _, .dii n e l => .dii (k _ _ n e).1 (k _ _ n e).2 (RpI.mono k l)
  | _, _, .ins n e l => .ins (k _ _ n e).1 (k _ _ n e).2 (RpF.mono k l)
  | _, _, .ord n e d => .ord (k _ _ n e).1 (k _ _ n e).2 d
  | _, _, .dnk n e l => .dnk (k _ _ n e).1 (k _ _ n e).2 (RpN.mono k l)
theorem RpN.mono {M M' : Ms} {H H' : Hp} (k : Keeps M M' H H') : ∀ {v : List (NestedKey × Addr × V)} {d : List (NestedKey × D)}, RpN M H v d → RpN M' H' v d
  | _, _, .nil => .nil
  | _, _, .cons q r l => .cons (KeyV.mono k q) (Rp.mono k r) (RpN.mono k l)
theorem RpL.mono {M M' : Ms} {H H' : Hp} (k : Keeps M M' H H') : ∀ {v : List V} {d : List D}, RpL M H v d → RpL M' H' v d
  | _, _, .nil => .nil
  | _, _, .cons r l => .cons (Rp.mono k r) (RpL.mono k l)
theorem RpK.mono {M M' : Ms} {H H' : Hp} (k : Keeps M M' H H') : ∀ {v : List (List Key × V)} {d : List (List Int × D)}, RpK M H v d → RpK M' H' v d
  | _, _, .nil => .nil
  | _, _, .cons r l => .cons (Rp.mono k r) (RpK.mono k l)
theorem RpI.mono {M M' : Ms} {H H' : Hp} (k : Keeps M M' H H') : ∀ {v : List (Key × V)} {d : List (Int × D)}, RpI M H v d → RpI M' H' v d
  | _, _, .nil => .nil
  | _, _, .cons r l => .cons (Rp.mono k r) (RpI.mono k l)
theorem RpF.mono {M M' : Ms} {H H' : Hp} (k : Keeps M M' H H') : ∀ {v : List (Str × V)} {d : List (Str × D)}, RpF M H v d → RpF M' H' v d
  | _, _, .nil => .nil
  | _, _, .cons r l => .cons (Rp.mono k r) (RpF.mono k l)
end
/-- what stood and may not change stands; nothing vanishes -/
structure Ext (M : Ms) (H H' : Hp) : Prop where
  keep : ∀ a o, ¬ M a → H a = some o → H' a = some o
  dom : ∀ a, H' a = none → H a = none
theorem Ext.refl {M : Ms} {H : Hp} : Ext M H H := ⟨fun _ _ _ h => h, fun _ h => h⟩
theorem Ext.trans {M : Ms} {H H1 H2 : Hp} (a : Ext M H H1) (b : Ext M H1 H2) : Ext M H H2 := ⟨fun x o n h => b.keep x o n (a.keep x o n h), fun x h => a.dom x (b.dom x h)⟩
theorem Ext.new {M : Ms} {H : Hp} {p : Addr} {o : HO} (h : H p = none) : Ext M H (upd H p o) := ⟨fun a u _ e => by rw [upd_ne (ne_of_none e h)]; exact e, fun a e => by
  by_cases q : a = p
  · subst q; exact h
  · rw [upd_ne q] at e; exact e⟩
theorem Ext.mut {M : Ms} {H : Hp} {p : Addr} {o u : HO} (m : M p) (h : H p = some u) : Ext M H (upd H p o) := ⟨fun a v n e => by rw [upd_ne (fun z => n (by rw [z]; exact m))]; exact e, fun a e => by
  by_cases q : a = p
  · subst q; rw [upd_same] at e; cases e
  · rw [upd_ne q] at e; exact e⟩
theorem Ext.keeps {M : Ms} {H H' : Hp} (e : Ext M H H') : Keeps M M H H' := fun a o n h => ⟨n, e.keep a o n h⟩
theorem Rp.ext {M : Ms} {H H' : Hp} (e : Ext M H H') {v : V} {d : D} (r : Rp M H v d) : Rp M H' v d := r.mono e.keeps
theorem RpL.ext {M : Ms} {H H' : Hp} (e : Ext M H H') {v : List V} {d : List D} (r : RpL M H v d) : RpL M H' v d := r.mono e.keeps

/-! ### what may change, and what is known of it -/
structure Res where
  m : Ms
  I : Ms → Hp → Prop
  dom : ∀ {M : Ms} {H : Hp} {a : Addr}, I M H → m a → H a ≠ none
  stab : ∀ {M : Ms} {H H' : Hp}, I M H → (∀ a, m a → H' a = H a) → (∀ a o, ¬ M a → H a = some o → H' a = some o) → I M H'
  grow : ∀ {M M' : Ms} {H : Hp}, I M H → (∀ a, M' a → M a ∨ H a = none) → I M' H
  shrink : ∀ {M M' : Ms} {H : Hp}, I M' H → (∀ a, M a → M' a) → I M H
abbrev Res.ok (W : Res) (H : Hp) : Prop := W.I W.m H
theorem Res.same {W : Res} {H H' : Hp} (h : W.ok H) (s : ∀ a o, H a = some o → H' a = some o) : W.ok H' :=
  W.stab h (fun a m => by
    cases q : H a with
    | none => exact absurd q (W.dom h m)
    | some o => exact s a o q) fun a o _ e => s a o e
theorem Res.new {W : Res} {H : Hp} {p : Addr} {o : HO} (h : W.ok H) (n : H p = none) : W.ok (upd H p o) := W.same h fun a u e => by rw [upd_ne (ne_of_none e n)]; exact e
theorem Res.fresh {W : Res} {H : Hp} {p : Addr} (h : W.ok H) (n : H p = none) : ¬ W.m p := fun m => W.dom h m n
def Res.nil : Res := ⟨fun _ => False, fun _ _ => True, fun _ h => h.elim, fun _ _ _ => trivial, fun _ _ => trivial, fun _ _ => trivial⟩
/-- one object that changes -/
structure Cell where
  I : Ms → Hp → Addr → Prop
  dom : ∀ {M : Ms} {H : Hp} {a : Addr}, I M H a → H a ≠ none
  stab : ∀ {M : Ms} {H H' : Hp} {a : Addr}, I M H a → H' a = H a → (∀ b o, ¬ M b → H b = some o → H' b = some o) → I M H' a
  grow : ∀ {M M' : Ms} {H : Hp} {a : Addr}, I M H a → (∀ b, M' b → M b ∨ H b = none) → I M' H a
  shrink : ∀ {M M' : Ms} {H : Hp} {a : Addr}, I M' H a → (∀ b, M b → M' b) → I M H a
def Res.add (W : Res) (l : Addr) (c : Cell) : Res where
  m := fun a => W.m a ∨ a = l
  I := fun M H => W.I M H ∧ c.I M H l
  dom := fun {M H a} h m => by
    rcases m with m | rfl
    · exact W.dom h.1 m
    · exact c.dom h.2
  stab := fun h e k => ⟨W.stab h.1 (fun a m => e a (.inl m)) k, c.stab h.2 (e l (.inr rfl)) k⟩
  grow := fun h e => ⟨W.grow h.1 e, c.grow h.2 e⟩
  shrink := fun h e => ⟨W.shrink h.1 e, c.shrink h.2 e⟩
theorem keeps_grow {M M' : Ms} {H : Hp} (e : ∀ b, M' b → M b ∨ H b = none) : Keeps M M' H H := fun a o n h => ⟨fun z => (e a z).elim n (fun q => by rw [q] at h; cases h), h⟩
theorem keeps_shrink {M M' : Ms} {H : Hp} (e : ∀ b, M b → M' b) : Keeps M' M H H := fun a o n h => ⟨fun z => n (e a z), h⟩
theorem keeps_of {M : Ms} {H H' : Hp} (k : ∀ b o, ¬ M b → H b = some o → H' b = some o) : Keeps M M H H' := fun a o n h => ⟨n, k a o n h⟩
/-- a list that holds just these -/
def ownL (ds : List D) : Cell where
  I := fun M H a => ∃ vs, H a = some (.lst vs) ∧ RpL M H vs ds
  dom := fun ⟨_, e, _⟩ z => by rw [e] at z; cases z
  stab := fun ⟨vs, e, r⟩ q k => ⟨vs, by rw [q, e], r.mono (keeps_of k)⟩
  grow := fun ⟨vs, e, r⟩ k => ⟨vs, e, r.mono (keeps_grow k)⟩
  shrink := fun ⟨vs, e, r⟩ k => ⟨vs, e, r.mono (keeps_shrink k)⟩
/-- a dict by tuples of numbers that holds just these -/
def ownT (es : List (List Int × D)) : Cell where
  I := fun M H a => ∃ kvs, H a = some (.dT kvs) ∧ RpK M H kvs es
  dom := fun ⟨_, e, _⟩ z => by rw [e] at z; cases z
  stab := fun ⟨vs, e, r⟩ q k => ⟨vs, by rw [q, e], r.mono (keeps_of k)⟩
  grow := fun ⟨vs, e, r⟩ k => ⟨vs, e, r.mono (keeps_grow k)⟩
  shrink := fun ⟨vs, e, r⟩ k => ⟨vs, e, r.mono (keeps_shrink k)⟩

/-- a dict by tuples that holds just these -/
def ownN (es : List (NestedKey × D)) : Cell where
  I := fun M H a => ∃ xs, H a = some (.ext (ndOk a xs)) ∧ RpN M H xs es
  dom := fun ⟨_, e, _⟩ z => by rw [e] at z; cases z
  stab := fun ⟨vs, e, r⟩ q k => ⟨vs, by rw [q, e], r.mono (keeps_of k)⟩
  grow := fun ⟨vs, e, r⟩ k => ⟨vs, e, r.mono (keeps_grow k)⟩
  shrink := fun ⟨vs, e, r⟩ k => ⟨vs, e, r.mono (keeps_shrink k)⟩

/-! ### the slots -/
structure Sl (M : Ms) (H : Hp) (σ : St) (ρ : List (Option D)) : Prop where
  len : σ.length = ρ.length
  at_ : ∀ (i : Nat) (d : D), ρ[i]? = some (some d) → ∃ v, σ[i]? = some (some v) ∧ Rp M H v d
theorem Sl.mono {M M' : Ms} {H H' : Hp} {σ : St} {ρ : List (Option D)} (k : Keeps M M' H H') (s : Sl M H σ ρ) : Sl M' H' σ ρ := ⟨s.len, fun i d h => let ⟨v, e, r⟩ := s.at_ i d h; ⟨v, e, r.mono k⟩⟩
theorem Sl.ext {M : Ms} {H H' : Hp} {σ : St} {ρ : List (Option D)} (e : Ext M H H') (s : Sl M H σ ρ) : Sl M H' σ ρ := s.mono e.keeps
theorem Sl.set {M : Ms} {H : Hp} {σ : St} {ρ : List (Option D)} (s : Sl M H σ ρ) (i : Nat) {v : V} {d : D} (r : Rp M H v d) : Sl M H (σ.set i (some v)) (ρ.set i (some d)) := by
  refine ⟨by rw [List.length_set, List.length_set, s.len], fun j e h => ?_⟩
  by_cases q : j = i
  · subst q
    have hl : j < ρ.length := by
      have := (List.getElem?_eq_some_iff.mp h).1
      rwa [List.length_set] at this
    rw [List.getElem?_set_self hl] at h
    cases h
    exact ⟨v, List.getElem?_set_self (by rw [s.len]; exact hl), r⟩
  · rw [List.getElem?_set_ne (Ne.symm q)] at h
    obtain ⟨u, e1, r1⟩ := s.at_ j e h
    exact ⟨u, by rw [List.getElem?_set_ne (Ne.symm q)]; exact e1, r1⟩
theorem Sl.wiped {M : Ms} {H : Hp} {σ : St} {ρ : List (Option D)} (s : Sl M H σ ρ) : ∀ vs : List Nat, Sl M H (L2.wipe σ vs) (vs.foldr (fun v l => l.set v none) ρ)
  | [] => s
  | v :: vs => by
    have ih := Sl.wiped s vs
    show Sl M H ((L2.wipe σ vs).set v none) ((vs.foldr (fun v l => l.set v none) ρ).set v none)
    refine ⟨by rw [List.length_set, List.length_set, ih.len], fun j e h => ?_⟩
    by_cases q : j = v
    · subst q
      have hl : j < (vs.foldr (fun v l => l.set v none) ρ).length := by
        have := (List.getElem?_eq_some_iff.mp h).1
        rwa [List.length_set] at this
      rw [List.getElem?_set_self hl] at h
      cases h
    · rw [List.getElem?_set_ne (Ne.symm q)] at h
      obtain ⟨u, e1, r1⟩ := ih.at_ j e h
      exact ⟨u, by rw [List.getElem?_set_ne (Ne.symm q)]; exact e1, r1⟩

/-! ### expressions -/
theorem PEimp {X : Cx} {e : Expr} {t t' : TE} (h : PE X e t) (k : ∀ σ H Q, t' σ H Q → t σ H Q) : PE X e t' := ⟨fun pins s σ H Q I q => h.run pins s σ H Q I (k σ H Q q)⟩
theorem PEex {X : Cx} {e : Expr} {α : Type} {t : α → TE} (h : ∀ i, PE X e (t i)) : PE X e (fun σ H Q => ∃ i, t i σ H Q) := ⟨fun pins s σ H Q I ⟨i, q⟩ => (h i).run pins s σ H Q I q⟩
theorem PTimp {X : Cx} {e : Expr} {t t' : TT} (h : PT X e t) (k : ∀ σ H Q, t' σ H Q → t σ H Q) : PT X e t' := ⟨fun pins s σ H Q I q => h.run pins s σ H Q I (k σ H Q q)⟩
theorem PWimp {X : Cx} {e : Expr} {t t' : TT} (h : PW X e t) (k : ∀ σ H Q, t' σ H Q → t σ H Q) : PW X e t' := ⟨fun w pins s σ H Q I q => h.run w pins s σ H Q I (k σ H Q q)⟩
theorem PTex {X : Cx} {e : Expr} {α : Type} {t : α → TT} (h : ∀ i, PT X e (t i)) : PT X e (fun σ H Q => ∃ i, t i σ H Q) := ⟨fun pins s σ H Q I ⟨i, q⟩ => (h i).run pins s σ H Q I q⟩
theorem PTsex {X : Cx} {e : List Expr} {α : Type} {t : α → TT} (h : ∀ i, PTs X e (t i)) : PTs X e (fun σ H Q => ∃ i, t i σ H Q) := ⟨fun pins s σ H Q I ⟨i, q⟩ => (h i).run pins s σ H Q I q⟩
theorem PAimp {X : Cx} {e : List Expr} {t t' : TA} (h : PA X e t) (k : ∀ σ H Q, t' σ H Q → t σ H Q) : PA X e t' := ⟨fun p pins s σ H Q I q => h.run p pins s σ H Q I (k σ H Q q)⟩
theorem PSsimp {X : Cx} {e : List Stmt} {t t' : TS} (h : PSs X e t) (k : ∀ D σ H, t' D σ H → t D σ H) : PSs X e t' := ⟨fun pins s σ H D I q => h.run pins s σ H D I (k D σ H q)⟩
theorem PSimp {X : Cx} {e : Stmt} {t t' : TS} (h : PS X e t) (k : ∀ D σ H, t' D σ H → t D σ H) : PS X e t' := ⟨fun pins s σ H D I q => h.run pins s σ H D I (k D σ H q)⟩
theorem PSsex {X : Cx} {e : List Stmt} {α : Type} {t : α → TS} (h : ∀ i, PSs X e (t i)) : PSs X e (fun D σ H => ∃ i, t i D σ H) := ⟨fun pins s σ H D I ⟨i, q⟩ => (h i).run pins s σ H D I q⟩
theorem PIimp {X : Cx} {tg e : Expr} {t t' : TI} (h : PI X tg e t) (k : ∀ σ H Q, t' σ H Q → t σ H Q) : PI X tg e t' := ⟨fun pins s σ H Q I q => h.run pins s σ H Q I (k σ H Q q)⟩

/-- the reading of an expression that gives some d with P d -/
def tD (W : Res) (ρ : List (Option D)) (P : D → Prop) : TE := fun σ H Q => W.ok H ∧ Sl W.m H σ ρ ∧ ∀ d v H', Ext W.m H H' → W.ok H' → P d → Rp W.m H' v d → Q v H'
abbrev ED (X : Cx) (W : Res) (ρ : List (Option D)) (e : Expr) (P : D → Prop) : Prop := PE X e (tD W ρ P)
/-- just d -/
abbrev EE (X : Cx) (W : Res) (ρ : List (Option D)) (e : Expr) (d : D) : Prop := PE X e (tD W ρ (fun z => z = d))
def tDs (W : Res) (ρ : List (Option D)) (P : List D → Prop) : TA := fun σ H Q => W.ok H ∧ Sl W.m H σ ρ ∧ ∀ ds vs H', Ext W.m H H' → W.ok H' → P ds → RpL W.m H' vs ds → Q vs H'
abbrev AD (X : Cx) (W : Res) (ρ : List (Option D)) (es : List Expr) (P : List D → Prop) : Prop := PA X es (tDs W ρ P)
abbrev AE (X : Cx) (W : Res) (ρ : List (Option D)) (es : List Expr) (ds : List D) : Prop := PA X es (tDs W ρ (fun z => z = ds))
def tDt (W : Res) (ρ : List (Option D)) (P : Bool → Prop) : TT := fun σ H Q => W.ok H ∧ Sl W.m H σ ρ ∧ ∀ b H', Ext W.m H H' → W.ok H' → P b → Q b H'
abbrev TD (X : Cx) (W : Res) (ρ : List (Option D)) (e : Expr) (P : Bool → Prop) : Prop := PT X e (tDt W ρ P)
abbrev TB (X : Cx) (W : Res) (ρ : List (Option D)) (e : Expr) (b : Bool) : Prop := PT X e (tDt W ρ (fun z => z = b))

section
variable {X : Cx} {W : Res} {ρ : List (Option D)} {P P' : D → Prop} {e a b c : Expr} {x y d : D} {pos : Pos}
theorem ED.imp (h : ED X W ρ e P) (k : ∀ d, P d → P' d) : ED X W ρ e P' := PEimp h fun σ H Q ⟨ok, sl, q⟩ => ⟨ok, sl, fun d v H' e ok' p r => q d v H' e ok' (k d p) r⟩
theorem EE.is (h : EE X W ρ e x) (q : x = y) : EE X W ρ e y := q ▸ h
/-- a name -/
theorem ed_var (i : Nat) {n : Str} (h : ρ[i]? = some (some d) := by rfl) (hN : X.N[i]? = some n := by rfl) (hv : Vis X.env.scope n := by first | exact Or.inl rfl | exact Or.inr (Or.inl rfl) | exact Or.inr (Or.inr rfl))
    (hd : (n == ("__debug__" : Str)) = false := by decide) (hcd : (n == ("__classdict__" : Str)) = false := by decide) : EE X W ρ (.Name n pos) d :=
  PEimp (pe_var hN hv hd hcd) fun σ H Q ⟨ok, sl, q⟩ => let ⟨v, e, r⟩ := sl.at_ i d h; ⟨v, e, q d v H .refl ok rfl r⟩
theorem ed_cv {v : V} (h : PE X e (tC v)) (r : ∀ M H, Rp M H v d) : EE X W ρ e d := PEimp h fun σ H Q ⟨ok, sl, q⟩ => q d v H .refl ok rfl (r _ _)
theorem ed_int {i : Int} {j : Nat} : EE X W ρ (.Constant (.int i) j pos) (.int i) := ed_cv pe_int fun _ _ => .int i
theorem ed_bl {i : Bool} {j : Nat} : EE X W ρ (.Constant (.bool i) j pos) (.bl i) := ed_cv pe_bl fun _ _ => .bl i
theorem ed_non {j : Nat} : EE X W ρ (.Constant .none j pos) .non := ed_cv pe_non fun _ _ => .non
theorem ed_str {i : Str} {j : Nat} : EE X W ρ (.Constant (.str i) j pos) (.str i) := ed_cv pe_str fun _ _ => .str i
theorem ed_gint {n : Str} {i : Int} {t : Tok} (hm : X.mg n = some (.int i t)) (hg : Gl X n := by rfl) (hd : (n == ("__debug__" : Str)) = false := by decide) : EE X W ρ (.Name n pos) (.int i) := ed_cv (v := .int i) (pe_glob hg hm ⟨t, rfl⟩ hd) fun _ _ => .int i
theorem ed_gstr {n i : Str} {t : Tok} (hm : X.mg n = some (.str i t)) (hg : Gl X n := by rfl) (hd : (n == ("__debug__" : Str)) = false := by decide) : EE X W ρ (.Name n pos) (.str i) := ed_cv (v := .str i) (pe_glob hg hm ⟨t, rfl⟩ hd) fun _ _ => .str i

/-- what an operation on values gives -/
def RR (W : Res) (r : R2) (x y : D) (P : D → Prop) : Prop := ∀ v1 v2 H, W.ok H → Rp W.m H v1 x → Rp W.m H v2 y → ∀ Q : VK, (∀ d v H', Ext W.m H H' → W.ok H' → P d → Rp W.m H' v d → Q v H') → r v1 v2 H Q
theorem ed_opP {r : R2} {op : Operator} {P1 P2 : D → Prop} (ho : OpR X (binaryOp op) r) (ha : ED X W ρ a P1) (hb : ED X W ρ b P2) (hr : ∀ x y, P1 x → P2 y → RR W r x y P) : ED X W ρ (.BinOp a op b pos) P :=
  PEimp (pe_op ho ha hb) fun σ H Q ⟨ok, sl, q⟩ => ⟨ok, sl, fun x v1 H1 e1 ok1 p1 r1 => ⟨ok1, sl.ext e1, fun y v2 H2 e2 ok2 p2 r2 => hr x y p1 p2 v1 v2 H2 ok2 (r1.ext e2) r2 Q fun d v H3 e3 ok3 p r => q d v H3 ((e1.trans e2).trans e3) ok3 p r⟩⟩
theorem ed_op {r : R2} {op : Operator} (ho : OpR X (binaryOp op) r) (ha : EE X W ρ a x) (hb : EE X W ρ b y) (hr : RR W r x y P) : ED X W ρ (.BinOp a op b pos) P := ed_opP ho ha hb fun _ _ h1 h2 => by subst h1 h2; exact hr
theorem ed_cmpP {r : R2} {op : CmpOp} {P1 P2 : D → Prop} (ho : OpR X (compareOp op) r) (hm : behindInMarks op b = false) (ha : ED X W ρ a P1) (hb : ED X W ρ b P2) (hr : ∀ x y, P1 x → P2 y → RR W r x y P) : ED X W ρ (.Compare a [op] [b] pos) P :=
  PEimp (pe_cmpR ho ha hb hm) fun σ H Q ⟨ok, sl, q⟩ => ⟨ok, sl, fun x v1 H1 e1 ok1 p1 r1 => ⟨ok1, sl.ext e1, fun y v2 H2 e2 ok2 p2 r2 => hr x y p1 p2 v1 v2 H2 ok2 (r1.ext e2) r2 Q fun d v H3 e3 ok3 p r => q d v H3 ((e1.trans e2).trans e3) ok3 p r⟩⟩
theorem ed_cmp {r : R2} {op : CmpOp} (ho : OpR X (compareOp op) r) (hm : behindInMarks op b = false) (ha : EE X W ρ a x) (hb : EE X W ρ b y) (hr : RR W r x y P) : ED X W ρ (.Compare a [op] [b] pos) P := ed_cmpP ho hm ha hb fun _ _ h1 h2 => by subst h1 h2; exact hr
theorem ed_ixP {r : R2} {P1 P2 : D → Prop} (ho : IxR X r) (hs : PlainIx b) (ha : ED X W ρ a P1) (hb : ED X W ρ b P2) (hr : ∀ x y, P1 x → P2 y → RR W r x y P) : ED X W ρ (.Subscript a b pos) P :=
  PEimp (pe_ix ho ha hb hs) fun σ H Q ⟨ok, sl, q⟩ => ⟨ok, sl, fun x v1 H1 e1 ok1 p1 r1 => ⟨ok1, sl.ext e1, fun y v2 H2 e2 ok2 p2 r2 => hr x y p1 p2 v1 v2 H2 ok2 (r1.ext e2) r2 Q fun d v H3 e3 ok3 p r => q d v H3 ((e1.trans e2).trans e3) ok3 p r⟩⟩
/-- arguments -/
theorem ad_nil : AE X W ρ [] [] := PAimp pa_nil fun σ H Q ⟨ok, sl, q⟩ => q [] [] H .refl ok rfl .nil
theorem ad_consP {es : List Expr} {P1 : D → Prop} {P2 : List D → Prop} (ha : ED X W ρ a P1) (hb : AD X W ρ es P2) (hs : starEach (a :: es) X.env = (false, eval a X.env) :: starEach es X.env := by rfl) : AD X W ρ (a :: es) (fun z => ∃ d ds, z = d :: ds ∧ P1 d ∧ P2 ds) :=
  PAimp (pa_cons ha hb hs) fun σ H Q ⟨ok, sl, q⟩ => ⟨ok, sl, fun x v1 H1 e1 ok1 p1 r1 => ⟨ok1, sl.ext e1, fun y v2 H2 e2 ok2 p2 r2 => q (x :: y) (v1 :: v2) H2 (e1.trans e2) ok2 ⟨x, y, rfl, p1, p2⟩ (.cons (r1.ext e2) r2)⟩⟩
theorem AD.imp {es : List Expr} {P P' : List D → Prop} (h : AD X W ρ es P) (k : ∀ d, P d → P' d) : AD X W ρ es P' := PAimp h fun σ H Q ⟨ok, sl, q⟩ => ⟨ok, sl, fun d v H' e ok' p r => q d v H' e ok' (k d p) r⟩
theorem ad_cons {es : List Expr} {ds : List D} (ha : EE X W ρ a x) (hb : AE X W ρ es ds) (hs : starEach (a :: es) X.env = (false, eval a X.env) :: starEach es X.env := by rfl) : AE X W ρ (a :: es) (x :: ds) :=
  AD.imp (ad_consP ha hb hs) fun z ⟨_, _, h, h1, h2⟩ => by rw [h, h1, h2]
theorem sz_of {n : Nat} (h : n ≤ 100000) : n ≤ sizeLine := Nat.le_trans h (by decide)
theorem sz_lt {n : Nat} (h : n < 100000) : n < sizeLine := Nat.lt_of_lt_of_le h (by decide)
theorem RpL.length {M : Ms} {H : Hp} : ∀ {vs : List V} {ds : List D}, RpL M H vs ds → vs.length = ds.length
  | _, _, .nil => rfl
  | _, _, .cons _ l => by rw [List.length_cons, List.length_cons, RpL.length l]
/-- displays -/
theorem ed_tupP {es : List Expr} {k : Nat} {P : List D → Prop} (h : AD X W ρ es P) (hl : ∀ ds, P ds → ds.length ≤ 100000) : ED X W ρ (.Tuple es k pos) (fun z => ∃ ds, z = .tup ds ∧ P ds) :=
  PEimp (pe_tup h) fun σ H Q ⟨ok, sl, q⟩ => ⟨ok, sl, fun ds vs H1 e1 ok1 p1 r1 => ⟨by rw [r1.length]; exact sz_of (hl ds p1), fun p hp =>
    q (.tup ds) (.ref p) _ (e1.trans (.new hp)) (W.new ok1 hp) ⟨ds, rfl, p1⟩ (.tup (W.fresh ok1 hp) upd_same (r1.ext (.new hp)))⟩⟩
theorem ed_tup {es : List Expr} {k : Nat} {ds : List D} (h : AE X W ρ es ds) (hl : ds.length ≤ 100000 := by decide) : EE X W ρ (.Tuple es k pos) (.tup ds) :=
  ED.imp (ed_tupP h fun z e => by rw [e]; exact hl) fun z ⟨ds', e, e'⟩ => by rw [e, e']
theorem ed_lstP {es : List Expr} {P : List D → Prop} (h : AD X W ρ es P) (hl : ∀ ds, P ds → ds.length ≤ 100000) : ED X W ρ (.List es pos) (fun z => ∃ ds, z = .lst ds ∧ P ds) :=
  PEimp (pe_lst h) fun σ H Q ⟨ok, sl, q⟩ => ⟨ok, sl, fun ds vs H1 e1 ok1 p1 r1 => ⟨by rw [r1.length]; exact sz_of (hl ds p1), fun p hp =>
    q (.lst ds) (.ref p) _ (e1.trans (.new hp)) (W.new ok1 hp) ⟨ds, rfl, p1⟩ (.lst (W.fresh ok1 hp) upd_same (r1.ext (.new hp)))⟩⟩
theorem ed_lst {es : List Expr} {ds : List D} (h : AE X W ρ es ds) (hl : ds.length ≤ 100000 := by decide) : EE X W ρ (.List es pos) (.lst ds) :=
  ED.imp (ed_lstP h fun z e => by rw [e]; exact hl) fun z ⟨ds', e, e'⟩ => by rw [e, e']
end
end K14

set_option Elab.async false
set_option linter.all false
set_option maxRecDepth 100000
set_option maxHeartbeats 4000000
namespace K14
open PySem L2

/-! ### inversions -/
section
variable {M : Ms} {H : Hp} {v : V}
theorem Rp.tupI {ds : List D} (h : Rp M H v (.tup ds)) : ∃ a xs, v = .ref a ∧ ¬ M a ∧ H a = some (.tup xs) ∧ RpL M H xs ds := by cases h with | tup n e l => exact ⟨_, _, rfl, n, e, l⟩
theorem Rp.lstI {ds : List D} (h : Rp M H v (.lst ds)) : ∃ a xs, v = .ref a ∧ ¬ M a ∧ H a = some (.lst xs) ∧ RpL M H xs ds := by cases h with | lst n e l => exact ⟨_, _, rfl, n, e, l⟩
theorem Rp.dicI {es : List (List Int × D)} (h : Rp M H v (.dic es)) : ∃ a kvs, v = .ref a ∧ ¬ M a ∧ H a = some (.dT kvs) ∧ RpK M H kvs es := by cases h with | dic n e l => exact ⟨_, _, rfl, n, e, l⟩
theorem Rp.diiI {es : List (Int × D)} (h : Rp M H v (.dii es)) : ∃ a kvs, v = .ref a ∧ ¬ M a ∧ H a = some (.dK kvs) ∧ RpI M H kvs es := by cases h with | dii n e l => exact ⟨_, _, rfl, n, e, l⟩
theorem Rp.insI {C : Addr} {gs : List (Str × D)} (h : Rp M H v (.ins C gs)) : ∃ a dx fs, v = .ref a ∧ ¬ M a ∧ H a = some (.ins C dx fs) ∧ RpF M H fs gs := by cases h with | ins n e l => exact ⟨_, _, _, rfl, n, e, l⟩
theorem RpL.get : ∀ {xs : List V} {ds : List D}, RpL M H xs ds → ∀ {i : Nat} {d : D}, ds[i]? = some d → ∃ v, xs[i]? = some v ∧ Rp M H v d
  | _, _, .nil, _, _, h => by simp at h
  | _, _, .cons r l, 0, _, h => by simp at h; subst h; exact ⟨_, rfl, r⟩
  | _, _, .cons r l, i + 1, _, h => by
    obtain ⟨v, e, q⟩ := RpL.get l (i := i) (by simpa using h)
    exact ⟨v, by simpa using e, q⟩
theorem RpL.got : ∀ {xs : List V} {ds : List D}, RpL M H xs ds → ∀ {i : Nat} {v : V}, xs[i]? = some v → ∃ d, ds[i]? = some d ∧ Rp M H v d
  | _, _, .nil, _, _, h => by simp at h
  | _, _, .cons r l, 0, _, h => by simp at h; subst h; exact ⟨_, rfl, r⟩
  | _, _, .cons r l, i + 1, _, h => by
    obtain ⟨v, e, q⟩ := RpL.got l (i := i) (by simpa using h)
    exact ⟨v, by simpa using e, q⟩
theorem RpL.append : ∀ {xs ys : List V} {ds es : List D}, RpL M H xs ds → RpL M H ys es → RpL M H (xs ++ ys) (ds ++ es)
  | _, _, _, _, .nil, l => l
  | _, _, _, _, .cons r l, l2 => .cons r (RpL.append l l2)
theorem RpL.take : ∀ {xs : List V} {ds : List D} (n : Nat), RpL M H xs ds → RpL M H (xs.take n) (ds.take n)
  | _, _, 0, _ => .nil
  | _, _, _ + 1, .nil => .nil
  | _, _, n + 1, .cons r l => .cons r (RpL.take n l)
theorem RpL.drop : ∀ {xs : List V} {ds : List D} (n : Nat), RpL M H xs ds → RpL M H (xs.drop n) (ds.drop n)
  | _, _, 0, l => l
  | _, _, _ + 1, .nil => .nil
  | _, _, n + 1, .cons r l => RpL.drop n l
theorem RpL.ints : ∀ {xs : List V} {ns : List Int}, RpL M H xs (ns.map D.int) → xs = ns.map V.int
  | _, [], .nil => rfl
  | _, n :: ns, .cons r l => by
    cases r
    rw [RpL.ints l]; rfl
theorem RpL.of_ints : ∀ {ns : List Int}, RpL M H (ns.map V.int) (ns.map D.int)
  | [] => .nil
  | n :: ns => .cons (.int n) RpL.of_ints
theorem RpL.bls : ∀ {xs : List V} {ns : List Bool}, RpL M H xs (ns.map D.bl) → xs = ns.map V.bl
  | _, [], .nil => rfl
  | _, n :: ns, .cons r l => by
    cases r
    rw [RpL.bls l]; rfl
theorem RpL.of_bls : ∀ {ns : List Bool}, RpL M H (ns.map V.bl) (ns.map D.bl)
  | [] => .nil
  | n :: ns => .cons (.bl n) RpL.of_bls
theorem RpL.strs : ∀ {xs : List V} {ns : List Str}, RpL M H xs (ns.map D.str) → xs = ns.map V.str
  | _, [], .nil => rfl
  | _, n :: ns, .cons r l => by
    cases r
    rw [RpL.strs l]; rfl
theorem RpL.of_strs : ∀ {ns : List Str}, RpL M H (ns.map V.str) (ns.map D.str)
  | [] => .nil
  | n :: ns => .cons (.str n) RpL.of_strs
theorem RpF.get : ∀ {fs : List (Str × V)} {gs : List (Str × D)}, RpF M H fs gs → ∀ {f : Str} {d : D}, gs.lookup f = some d → ∃ v, fs.lookup f = some v ∧ Rp M H v d
  | _, _, .nil, _, _, h => by cases h
  | _, _, .cons (k := k) r l, f, d, h => by
    rw [List.lookup_cons] at h ⊢
    cases e : f == k with
    | true => rw [e] at h; cases h; exact ⟨_, rfl, r⟩
    | false => rw [e] at h; exact RpF.get l h
theorem RpF.none : ∀ {fs : List (Str × V)} {gs : List (Str × D)}, RpF M H fs gs → ∀ {f : Str}, gs.lookup f = none → fs.lookup f = none
  | _, _, .nil, _, _ => rfl
  | _, _, .cons (k := k) r l, f, h => by
    rw [List.lookup_cons] at h ⊢
    cases e : f == k with
    | true => rw [e] at h; cases h
    | false => rw [e] at h; exact RpF.none l h
theorem RpK.length : ∀ {kvs : List (List Key × V)} {es : List (List Int × D)}, RpK M H kvs es → kvs.length = es.length
  | _, _, .nil => rfl
  | _, _, .cons _ l => by rw [List.length_cons, List.length_cons, RpK.length l]
theorem inl_inj : ∀ {a b : List Int}, a.map (Sum.inl : Int → Key) = b.map Sum.inl → a = b
  | [], [], _ => rfl
  | [], _ :: _, h => by cases h
  | _ :: _, [], h => by cases h
  | x :: a, y :: b, h => by
    rw [List.map_cons, List.map_cons] at h
    injection h with h1 h2
    injection h1 with h1
    rw [h1, inl_inj h2]
theorem RpK.look : ∀ {kvs : List (List Key × V)} {es : List (List Int × D)}, RpK M H kvs es → ∀ {k : List Int} {d : D}, es.lookup k = some d → ∃ v, valV kvs (k.map Sum.inl) = some v ∧ Rp M H v d
  | _, _, .nil, _, _, h => by cases h
  | _, _, .cons (k := j) r l, k, d, h => by
    rw [List.lookup_cons] at h
    by_cases e : k = j
    · subst e
      rw [beq_self_eq_true] at h
      cases h
      exact ⟨_, valV_pos rfl, r⟩
    · rw [beq_eq_false_iff_ne.mpr e] at h
      rw [valV_neg (show ¬ j.map (Sum.inl : Int → Key) = k.map Sum.inl from fun z => e (inl_inj z).symm)]
      exact RpK.look l h
theorem RpK.lookN : ∀ {kvs : List (List Key × V)} {es : List (List Int × D)}, RpK M H kvs es → ∀ {k : List Int}, es.lookup k = none → valV kvs (k.map Sum.inl) = none
  | _, _, .nil, _, _ => valV_nil
  | _, _, .cons (k := j) r l, k, h => by
    rw [List.lookup_cons] at h
    by_cases e : k = j
    · subst e
      rw [beq_self_eq_true] at h
      cases h
    · rw [beq_eq_false_iff_ne.mpr e] at h
      rw [valV_neg (show ¬ j.map (Sum.inl : Int → Key) = k.map Sum.inl from fun z => e (inl_inj z).symm)]
      exact RpK.lookN l h
theorem kV_inl (k : List Int) : (k.map (Sum.inl : Int → Key)).map kV = k.map V.int := by rw [List.map_map]; rfl
end

/-! ### what operations give -/
section
variable {X : Cx} {W : Res} {P : D → Prop}
theorem rr_int {g : Int → Int → Int} {i j : Int} : RR W (rI0 fun i j => .int (g i j)) (.int i) (.int j) (fun z => z = .int (g i j)) := by
  intro v1 v2 H ok r1 r2 Q q
  cases r1; cases r2
  exact ⟨i, j, rfl, rfl, q _ _ H .refl ok rfl (.int _)⟩
theorem rr_cmp {g : Int → Int → Bool} {i j : Int} : RR W (rI0 fun i j => .bl (g i j)) (.int i) (.int j) (fun z => z = .bl (g i j)) := by
  intro v1 v2 H ok r1 r2 Q q
  cases r1; cases r2
  exact ⟨i, j, rfl, rfl, q _ _ H .refl ok rfl (.bl _)⟩
theorem rr_intC {C : Int → Int → Prop} {g : Int → Int → Int} {i j : Int} (hc : C i j) : RR W (rI C fun i j => .int (g i j)) (.int i) (.int j) (fun z => z = .int (g i j)) := by
  intro v1 v2 H ok r1 r2 Q q
  cases r1; cases r2
  exact ⟨i, j, rfl, rfl, hc, q _ _ H .refl ok rfl (.int _)⟩
/-- data that == asks at once -/
def Dsc : D → Option V
  | .non => some .non
  | .bl b => some (.bl b)
  | .int i => some (.int i)
  | .str x => some (.str x)
  | _ => none
theorem Dsc_rp {M : Ms} {H : Hp} {v w : V} {d : D} (h : Dsc d = some w) (r : Rp M H v d) : v = w := by
  cases r <;> simp [Dsc] at h <;> exact h
theorem rr_eq {x y : D} {v w : V} (hx : Dsc x = some v) (hy : Dsc y = some w) (hs : scal v w = true) : RR W rEq x y (fun z => z = .bl (decide (v = w))) := by
  intro v1 v2 H ok r1 r2 Q q
  obtain rfl := Dsc_rp hx r1
  obtain rfl := Dsc_rp hy r2
  exact ⟨hs, q _ _ H .refl ok rfl (.bl _)⟩
theorem rr_ne {x y : D} {v w : V} (hx : Dsc x = some v) (hy : Dsc y = some w) (hs : scal v w = true) : RR W rNe x y (fun z => z = .bl (!decide (v = w))) := by
  intro v1 v2 H ok r1 r2 Q q
  obtain rfl := Dsc_rp hx r1
  obtain rfl := Dsc_rp hy r2
  exact ⟨hs, q _ _ H .refl ok rfl (.bl _)⟩
theorem rr_ltS {x y : Str} : RR W (fun x y H Q => ∃ i j, x = .str i ∧ y = .str j ∧ Q (.bl (decide (i.cps.toList < j.cps.toList))) H) (.str x) (.str y) (fun z => z = .bl (decide (x.cps.toList < y.cps.toList))) := by
  intro v1 v2 H ok r1 r2 Q q
  cases r1; cases r2
  exact ⟨x, y, rfl, rfl, q _ _ H .refl ok rfl (.bl _)⟩
theorem rr_addS {x y : Str} (hl : x.length + y.length ≤ 100000) : RR W (fun x y H Q => ∃ i j, x = .str i ∧ y = .str j ∧ i.length + j.length ≤ sizeLine ∧ Q (.str (i ++ j)) H) (.str x) (.str y) (fun z => z = .str (x ++ y)) := by
  intro v1 v2 H ok r1 r2 Q q
  cases r1; cases r2
  exact ⟨x, y, rfl, rfl, sz_of hl, q _ _ H .refl ok rfl (.str _)⟩
theorem rr_ixT {K : PySem.W.Frag} {ds : List D} {i : Int} {d : D} (h0 : 0 ≤ i) (h : ds[i.toNat]? = some d) : RR W (rIxT K) (.tup ds) (.int i) (fun z => z = d) := by
  intro v1 v2 H ok r1 r2 Q q
  obtain ⟨a, xs, rfl, n, e, l⟩ := r1.tupI
  cases r2
  obtain ⟨v, ev, rv⟩ := l.get h
  exact ⟨a, xs, i, v, rfl, rfl, Or.inl (Or.inl e), by rw [show i = ((i.toNat : Nat) : Int) by omega]; exact atI_nat ev, q _ _ H .refl ok rfl rv⟩
theorem rr_ixL {K : PySem.W.Frag} {ds : List D} {i : Int} {d : D} (h0 : 0 ≤ i) (h : ds[i.toNat]? = some d) : RR W (rIxL K) (.lst ds) (.int i) (fun z => z = d) := by
  intro v1 v2 H ok r1 r2 Q q
  obtain ⟨a, xs, rfl, n, e, l⟩ := r1.lstI
  cases r2
  obtain ⟨v, ev, rv⟩ := l.get h
  exact ⟨a, xs, i, v, rfl, rfl, Or.inl (Or.inl e), by rw [show i = ((i.toNat : Nat) : Int) by omega]; exact atI_nat ev, q _ _ H .refl ok rfl rv⟩
theorem rr_ixS {z : Str} {i : Int} {c : Nat} (h0 : 0 ≤ i) (hl : z.length ≤ 100000) (h : z.cps.toList[i.toNat]? = some c) : RR W rIxS (.str z) (.int i) (fun d => d = .str ⟨#[c]⟩) := by
  intro v1 v2 H ok r1 r2 Q q
  cases r1; cases r2
  exact ⟨z, i, c, rfl, rfl, sz_of hl, by rw [show i = ((i.toNat : Nat) : Int) by omega]; exact atI_nat h, q _ _ H .refl ok rfl (.str _)⟩
theorem rr_cat {xs ys : List D} (hl : xs.length + ys.length ≤ 100000) : RR W rCat (.lst xs) (.lst ys) (fun z => z = .lst (xs ++ ys)) := by
  intro v1 v2 H ok r1 r2 Q q
  obtain ⟨a, us, rfl, n, e, l⟩ := r1.lstI
  obtain ⟨b, ws, rfl, n2, e2, l2⟩ := r2.lstI
  exact ⟨a, b, us, ws, rfl, rfl, e, e2, by rw [l.length, l2.length]; exact sz_of hl, fun p hp => q _ _ _ (.new hp) (W.new ok hp) rfl (.lst (W.fresh ok hp) upd_same ((l.ext (.new hp)).append (l2.ext (.new hp))))⟩
theorem RpL.nil_iff {M : Ms} {H : Hp} {xs : List V} {ds : List D} (l : RpL M H xs ds) : xs = [] ↔ ds = [] := by cases l <;> simp
theorem rr_catT {K : PySem.W.Frag} {xs ys : List D} (hl : xs.length + ys.length ≤ 100000) : RR W (rCatA K) (.tup xs) (.tup ys) (fun z => z = .tup (xs ++ ys)) := by
  intro v1 v2 H ok r1 r2 Q q
  obtain ⟨a, us, rfl, n, e, l⟩ := id r1.tupI
  obtain ⟨b, ws, rfl, n2, e2, l2⟩ := id r2.tupI
  refine ⟨a, b, us, ws, rfl, rfl, Or.inl (Or.inl e), Or.inl (Or.inl e2), by rw [l.length, l2.length]; exact sz_of hl, fun z => ?_, fun _ z => ?_, fun _ _ p hp => ?_⟩
  · rw [l.nil_iff] at z
    subst z
    exact q _ _ H .refl ok rfl r2
  · rw [l2.nil_iff] at z
    subst z
    exact q _ _ H .refl ok (by rw [List.append_nil]) r1
  · exact q _ _ _ (.new hp) (W.new ok hp) rfl (.tup (W.fresh ok hp) upd_same ((l.ext (.new hp)).append (l2.ext (.new hp))))
/-- flat data -/
theorem rr_in {K : PySem.W.Frag} {neg : Bool} {x : D} {ds : List D} {v : V} {xs : List V} (hx : Dsc x = some v) (hf : flatV v = true) (hds : ∀ M H us, RpL M H us ds → us = xs) (hall : xs.all flatV = true) :
    RR W (rIn K neg) x (.tup ds) (fun z => z = .bl (if neg then !inV v xs else inV v xs)) := by
  intro v1 v2 H ok r1 r2 Q q
  obtain rfl := Dsc_rp hx r1
  obtain ⟨b, ws, rfl, n2, e2, l2⟩ := r2.tupI
  obtain rfl := hds _ _ _ l2
  exact ⟨b, ws, rfl, Or.inr (Or.inl (Or.inl e2)), hf, hall, q _ _ H .refl ok rfl (.bl _)⟩
theorem rr_inLst {K : PySem.W.Frag} {neg : Bool} {x : D} {ds : List D} {v : V} {xs : List V} (hx : Dsc x = some v) (hf : flatV v = true) (hds : ∀ M H us, RpL M H us ds → us = xs) (hall : xs.all flatV = true) :
    RR W (rIn K neg) x (.lst ds) (fun z => z = .bl (if neg then !inV v xs else inV v xs)) := by
  intro v1 v2 H ok r1 r2 Q q
  obtain rfl := Dsc_rp hx r1
  obtain ⟨b, ws, rfl, n2, e2, l2⟩ := r2.lstI
  obtain rfl := hds _ _ _ l2
  exact ⟨b, ws, rfl, Or.inl (Or.inl (Or.inl e2)), hf, hall, q _ _ H .refl ok rfl (.bl _)⟩
theorem all_int (ns : List Int) : (ns.map V.int).all flatV = true := by
  rw [List.all_eq_true]; intro v hv
  obtain ⟨n, _, rfl⟩ := List.mem_map.mp hv; rfl
theorem inV_int (i : Int) (ns : List Int) : inV (.int i) (ns.map V.int) = decide (i ∈ ns) := by
  unfold inV
  induction ns with
  | nil => simp
  | cons n ns ih =>
    rw [List.map_cons, List.any_cons, ih]
    by_cases h : n = i
    · subst h; simp [eqV]
    · have h' : ¬ i = n := fun z => h z.symm
      simp [eqV, h, h']
theorem all_str (ns : List Str) : (ns.map V.str).all flatV = true := by
  rw [List.all_eq_true]; intro v hv
  obtain ⟨n, _, rfl⟩ := List.mem_map.mp hv; rfl
theorem inV_str (i : Str) (ns : List Str) : inV (.str i) (ns.map V.str) = decide (i ∈ ns) := by
  unfold inV
  induction ns with
  | nil => simp
  | cons n ns ih =>
    rw [List.map_cons, List.any_cons, ih]
    by_cases h : n = i
    · subst h; simp [eqV]
    · have h' : ¬ i = n := fun z => h z.symm
      simp [eqV, h, h']
end
end K14

set_option Elab.async false
set_option linter.all false
set_option maxRecDepth 100000
set_option maxHeartbeats 4000000
namespace K14
open PySem L2
section
variable {X : Cx} {W : Res} {ρ : List (Option D)} {P P' : D → Prop} {e a b c : Expr} {x y d : D} {pos : Pos}
theorem PEnever {e : Expr} : PE X e (fun _ _ _ => False) := ⟨fun _ _ _ _ _ _ h => h.elim⟩
theorem PTnever {e : Expr} : PT X e (fun _ _ _ => False) := ⟨fun _ _ _ _ _ _ h => h.elim⟩
theorem PWnever {e : Expr} : PW X e (fun _ _ _ => False) := ⟨fun _ _ _ _ _ _ _ h => h.elim⟩

/-! ### numbers -/
theorem ed_add {i j : Int} (ha : EE X W ρ a (.int i)) (hb : EE X W ρ b (.int j)) : EE X W ρ (.BinOp a .Add b pos) (.int (i + j)) := ed_op op_add ha hb rr_int
theorem ed_sub {i j : Int} (ha : EE X W ρ a (.int i)) (hb : EE X W ρ b (.int j)) : EE X W ρ (.BinOp a .Sub b pos) (.int (i - j)) := ed_op op_sub ha hb rr_int
theorem ed_mul {i j : Int} (ha : EE X W ρ a (.int i)) (hb : EE X W ρ b (.int j)) (hc : (-(2 ^ 64) < i ∧ i < 2 ^ 64) ∨ (-(2 ^ 64) < j ∧ j < 2 ^ 64)) : EE X W ρ (.BinOp a .Mult b pos) (.int (i * j)) := ed_op op_mul ha hb (rr_intC hc)
theorem ed_fdiv {i j : Int} (ha : EE X W ρ a (.int i)) (hb : EE X W ρ b (.int j)) (hc : 0 < j ∧ j < 1073741824) : EE X W ρ (.BinOp a .FloorDiv b pos) (.int (i.fdiv j)) := ed_op op_fdivN ha hb (rr_intC ⟨by omega, by omega⟩)
theorem ed_mod {i j : Int} (ha : EE X W ρ a (.int i)) (hb : EE X W ρ b (.int j)) (hc : 0 < j) : EE X W ρ (.BinOp a .Mod b pos) (.int (i % j)) := ed_op op_mod ha hb (rr_intC hc)
theorem ed_pow {i j : Int} (ha : EE X W ρ a (.int i)) (hb : EE X W ρ b (.int j)) (hc : 0 ≤ j ∧ j ≤ 1000000 ∧ i.natAbs < 2 ^ 64) : EE X W ρ (.BinOp a .Pow b pos) (.int (i ^ j.toNat)) := ed_op op_pow ha hb (rr_intC hc)
theorem ed_neg {i : Int} (ha : EE X W ρ a (.int i)) : EE X W ρ (.UnaryOp .USub a pos) (.int (-i)) :=
  PEimp (pe_un un_neg ha) fun σ H Q ⟨ok, sl, q⟩ => ⟨ok, sl, fun z v H' e ok' hz r => by subst hz; cases r; exact ⟨i, rfl, q _ _ H' e ok' rfl (.int _)⟩⟩
/-! ### texts -/
theorem ed_addS {x y : Str} (ha : EE X W ρ a (.str x)) (hb : EE X W ρ b (.str y)) (hl : x.length + y.length ≤ 100000) : EE X W ρ (.BinOp a .Add b pos) (.str (x ++ y)) := ed_op op_add_str ha hb (rr_addS hl)
/-! ### lists and tuples -/
theorem ed_cat {xs ys : List D} (ha : EE X W ρ a (.lst xs)) (hb : EE X W ρ b (.lst ys)) (hl : xs.length + ys.length ≤ 100000) : EE X W ρ (.BinOp a .Add b pos) (.lst (xs ++ ys)) := ed_op op_cat ha hb (rr_cat hl)
theorem ed_catT {xs ys : List D} (ha : EE X W ρ a (.tup xs)) (hb : EE X W ρ b (.tup ys)) (hl : xs.length + ys.length ≤ 100000) : EE X W ρ (.BinOp a .Add b pos) (.tup (xs ++ ys)) := ed_op op_catA ha hb (rr_catT hl)
theorem ed_ixT {ds : List D} {i : Int} (ha : EE X W ρ a (.tup ds)) (hb : EE X W ρ b (.int i)) (h0 : 0 ≤ i) (h : ds[i.toNat]? = some d) (hs : PlainIx b := by exact fun _ _ => rfl) : EE X W ρ (.Subscript a b pos) d :=
  ed_ixP ix_tup hs ha hb fun _ _ h1 h2 => by subst h1 h2; exact rr_ixT h0 h
theorem ed_ixL {ds : List D} {i : Int} (ha : EE X W ρ a (.lst ds)) (hb : EE X W ρ b (.int i)) (h0 : 0 ≤ i) (h : ds[i.toNat]? = some d) (hs : PlainIx b := by exact fun _ _ => rfl) : EE X W ρ (.Subscript a b pos) d :=
  ed_ixP ix_list hs ha hb fun _ _ h1 h2 => by subst h1 h2; exact rr_ixL h0 h
theorem ed_ixLP {ds : List D} {P2 : D → Prop} (ha : EE X W ρ a (.lst ds)) (hb : ED X W ρ b P2) (h : ∀ z, P2 z → ∃ i d, z = .int i ∧ 0 ≤ i ∧ ds[i.toNat]? = some d ∧ P d) (hs : PlainIx b := by exact fun _ _ => rfl) : ED X W ρ (.Subscript a b pos) P :=
  ed_ixP ix_list hs ha hb fun _ z h1 h2 => by
    subst h1
    obtain ⟨i, d, rfl, h0, hd, p⟩ := h z h2
    intro v1 v2 H ok r1 r2 Q q
    exact rr_ixL h0 hd v1 v2 H ok r1 r2 Q fun z v H' e ok' hz r => q z v H' e ok' (by rw [hz]; exact p) r
theorem ed_ixS {z : Str} {i : Int} {k : Nat} (ha : EE X W ρ a (.str z)) (hb : EE X W ρ b (.int i)) (h0 : 0 ≤ i) (hl : z.length ≤ 100000) (h : z.cps.toList[i.toNat]? = some k) (hs : PlainIx b := by exact fun _ _ => rfl) : EE X W ρ (.Subscript a b pos) (.str ⟨#[k]⟩) :=
  ed_ixP ix_str hs ha hb fun _ _ h1 h2 => by subst h1 h2; exact rr_ixS h0 hl h
/-- a slice of a tuple -/
def tDo (W : Res) (ρ : List (Option D)) (i : Option Int) : TO := fun σ H Q => W.ok H ∧ Sl W.m H σ ρ ∧ ∀ H', Ext W.m H H' → W.ok H' → Q i H'
theorem POimp {e : Option Expr} {t t' : TO} (h : PO X e t) (k : ∀ σ H Q, t' σ H Q → t σ H Q) : PO X e t' := ⟨fun pins s σ H Q I q => h.run pins s σ H Q I (k σ H Q q)⟩
theorem od_none : PO X none (tDo W ρ none) := POimp po_none fun σ H Q ⟨ok, sl, q⟩ => q H .refl ok
theorem od_some {i : Int} (ha : EE X W ρ a (.int i)) : PO X (some a) (tDo W ρ (some i)) := POimp (po_some ha) fun σ H Q ⟨ok, sl, q⟩ => ⟨ok, sl, fun z v H' e ok' hz r => by subst hz; cases r; exact ⟨i, rfl, q H' e ok'⟩⟩
def cutD (xs : List D) (lo hi : Option Int) : List D := (xs.drop (HT.sIx xs.length 0 lo)).take (HT.sIx xs.length xs.length hi - HT.sIx xs.length 0 lo)
theorem RpL.cut {M : Ms} {H : Hp} {xs : List V} {ds : List D} (l : RpL M H xs ds) (lo hi : Option Int) : RpL M H (cutV xs lo hi) (cutD ds lo hi) := by
  unfold cutV cutD
  rw [l.length]
  exact (l.drop _).take _
theorem cutD_all {xs : List D} {lo hi : Option Int} (h : HT.sIx xs.length 0 lo = 0 ∧ HT.sIx xs.length xs.length hi = xs.length) : cutD xs lo hi = xs := by
  unfold cutD
  rw [h.1, h.2]; simp
theorem ed_sliceT {lo hi : Option Expr} {i j : Option Int} {p2 : Pos} {ds : List D} (ha : EE X W ρ a (.tup ds)) (hl : PO X lo (tDo W ρ i)) (hh : PO X hi (tDo W ρ j)) : EE X W ρ (.Subscript a (.Slice lo hi none p2) pos) (.tup (cutD ds i j)) :=
  PEimp (pe_slice sl_tupA ha hl hh) fun σ H Q ⟨ok, sl, q⟩ => ⟨ok, sl, fun z v H1 e1 ok1 hz r1 => ⟨ok1, sl.ext e1, fun H2 e2 ok2 => ⟨ok2, (sl.ext e1).ext e2, fun H3 e3 ok3 => by
    subst hz
    obtain ⟨p, us, rfl, n, he, l⟩ := id ((r1.ext e2).ext e3).tupI
    refine ⟨p, us, rfl, Or.inl (Or.inl he), fun h => ?_, fun _ p' hp => ?_⟩
    · rw [l.length] at h
      exact q _ _ H3 ((e1.trans e2).trans e3) ok3 (by rw [cutD_all h]) ((r1.ext e2).ext e3)
    · exact q _ _ _ (((e1.trans e2).trans e3).trans (.new hp)) (W.new ok3 hp) rfl (.tup (W.fresh ok3 hp) upd_same ((l.ext (.new hp)).cut i j))⟩⟩⟩
/-! ### attributes of an object that does not change -/
theorem ed_fld {C : Addr} {gs : List (Str × D)} {f : Str} (ha : EE X W ρ a (.ins C gs)) (hC : Cls X.K C) (hn : NoAttr X.K C f) (hl : gs.lookup f = some d) (hb : attributeBase a f X.env (eval a X.env) = eval a X.env := by rfl) : EE X W ρ (.Attribute a f pos) d :=
  PEimp (pe_fld ha hb) fun σ H Q ⟨ok, sl, q⟩ => ⟨ok, sl, fun z v H' e ok' hz r => by
    subst hz
    obtain ⟨p, dx, fs, rfl, n, he, l⟩ := id r.insI
    obtain ⟨u, hu, ru⟩ := l.get hl
    exact ⟨p, C, dx, fs, u, rfl, he, hC, hn, hu, q _ _ H' e ok' rfl ru⟩⟩
/-! ### comparisons -/
theorem ed_lt {i j : Int} (ha : EE X W ρ a (.int i)) (hb : EE X W ρ b (.int j)) : EE X W ρ (.Compare a [.Lt] [b] pos) (.bl (decide (i < j))) := ed_cmp op_lt (nomark b) ha hb rr_cmp
theorem ed_le {i j : Int} (ha : EE X W ρ a (.int i)) (hb : EE X W ρ b (.int j)) : EE X W ρ (.Compare a [.LtE] [b] pos) (.bl (decide (i ≤ j))) := ed_cmp op_le (nomark b) ha hb rr_cmp
theorem ed_gt {i j : Int} (ha : EE X W ρ a (.int i)) (hb : EE X W ρ b (.int j)) : EE X W ρ (.Compare a [.Gt] [b] pos) (.bl (decide (j < i))) := ed_cmp op_gt (nomark b) ha hb rr_cmp
theorem ed_ge {i j : Int} (ha : EE X W ρ a (.int i)) (hb : EE X W ρ b (.int j)) : EE X W ρ (.Compare a [.GtE] [b] pos) (.bl (decide (j ≤ i))) := ed_cmp op_ge (nomark b) ha hb rr_cmp
theorem dec_vint {i j : Int} : decide (V.int i = V.int j) = decide (i = j) := by by_cases h : i = j <;> simp [h]
theorem dec_vstr {i j : Str} : decide (V.str i = V.str j) = decide (i = j) := by by_cases h : i = j <;> simp [h]
theorem ed_eqI {i j : Int} (ha : EE X W ρ a (.int i)) (hb : EE X W ρ b (.int j)) : EE X W ρ (.Compare a [.Eq] [b] pos) (.bl (decide (i = j))) := by
  rw [← dec_vint]; exact ed_cmp op_eq (nomark b) ha hb (rr_eq rfl rfl rfl)
theorem ed_neI {i j : Int} (ha : EE X W ρ a (.int i)) (hb : EE X W ρ b (.int j)) : EE X W ρ (.Compare a [.NotEq] [b] pos) (.bl (!decide (i = j))) := by
  rw [← dec_vint]; exact ed_cmp op_ne (nomark b) ha hb (rr_ne rfl rfl rfl)
theorem ed_neS {i j : Str} (ha : EE X W ρ a (.str i)) (hb : EE X W ρ b (.str j)) : EE X W ρ (.Compare a [.NotEq] [b] pos) (.bl (!decide (i = j))) := by
  rw [← dec_vstr]; exact ed_cmp op_ne (nomark b) ha hb (rr_ne rfl rfl rfl)
theorem ed_eqS {i j : Str} (ha : EE X W ρ a (.str i)) (hb : EE X W ρ b (.str j)) : EE X W ρ (.Compare a [.Eq] [b] pos) (.bl (decide (i = j))) := by
  rw [← dec_vstr]; exact ed_cmp op_eq (nomark b) ha hb (rr_eq rfl rfl rfl)
theorem ed_ltS {i j : Str} (ha : EE X W ρ a (.str i)) (hb : EE X W ρ b (.str j)) : EE X W ρ (.Compare a [.Lt] [b] pos) (.bl (decide (i.cps.toList < j.cps.toList))) := ed_cmp op_lt_str (nomark b) ha hb rr_ltS
/-- None or not -/
def isNon : D → Bool
  | .non => true
  | _ => false
theorem isNon_rp {M : Ms} {H : Hp} {v : V} {d : D} (r : Rp M H v d) : decide (v = .non) = isNon d := by cases r <;> simp [isNon]
theorem ed_isN (ha : EE X W ρ a x) {j : Nat} {p2 : Pos} : EE X W ρ (.Compare a [.Is] [.Constant .none j p2] pos) (.bl (isNon x)) :=
  PEimp (pe_cmp (pc_isN ha) rfl) fun σ H Q ⟨ok, sl, q⟩ => ⟨ok, sl, fun z v H' e ok' hz r => by subst hz; rw [isNon_rp r]; exact q _ _ H' e ok' rfl (.bl _)⟩
theorem ed_notN (ha : EE X W ρ a x) {j : Nat} {p2 : Pos} : EE X W ρ (.Compare a [.IsNot] [.Constant .none j p2] pos) (.bl (!isNon x)) :=
  PEimp (pe_cmp (pc_notN ha) rfl) fun σ H Q ⟨ok, sl, q⟩ => ⟨ok, sl, fun z v H' e ok' hz r => by subst hz; rw [isNon_rp r]; exact q _ _ H' e ok' rfl (.bl _)⟩
/-- a comer in an order -/
theorem ed_inI {neg : Bool} {i : Int} {ns : List Int} (ha : EE X W ρ a (.int i)) (hb : EE X W ρ b (.tup (ns.map .int))) (hm : behindInMarks .In b = false := by rfl) : EE X W ρ (.Compare a [.In] [b] pos) (.bl (decide (i ∈ ns))) := by
  have h := ed_cmp (pos := pos) op_in_seq hm ha hb (rr_in (K := X.K) (neg := false) (v := .int i) (xs := ns.map V.int) rfl rfl (fun _ _ _ l => l.ints) (all_int ns))
  rw [if_neg Bool.false_ne_true, inV_int] at h
  exact h
theorem ed_notInI {i : Int} {ns : List Int} (ha : EE X W ρ a (.int i)) (hb : EE X W ρ b (.tup (ns.map .int))) (hm : behindInMarks .NotIn b = false := by rfl) : EE X W ρ (.Compare a [.NotIn] [b] pos) (.bl (!decide (i ∈ ns))) := by
  have h := ed_cmp (pos := pos) op_notIn_seq hm ha hb (rr_in (K := X.K) (neg := true) (v := .int i) (xs := ns.map V.int) rfl rfl (fun _ _ _ l => l.ints) (all_int ns))
  rw [if_pos rfl, inV_int] at h
  exact h
theorem ed_inS {i : Str} {ns : List Str} (ha : EE X W ρ a (.str i)) (hb : EE X W ρ b (.tup (ns.map .str))) (hm : behindInMarks .In b = false := by rfl) : EE X W ρ (.Compare a [.In] [b] pos) (.bl (decide (i ∈ ns))) := by
  have h := ed_cmp (pos := pos) op_in_seq hm ha hb (rr_in (K := X.K) (neg := false) (v := .str i) (xs := ns.map V.str) rfl rfl (fun _ _ _ l => l.strs) (all_str ns))
  rw [if_neg Bool.false_ne_true, inV_str] at h
  exact h
/-- one sign in a text -/
theorem ed_inSign {k : Nat} {z : Str} (ha : EE X W ρ a (.str ⟨#[k]⟩)) (hb : EE X W ρ b (.str z)) (hm : behindInMarks .In b = false := by rfl) : EE X W ρ (.Compare a [.In] [b] pos) (.bl (decide (k ∈ z.cps.toList))) :=
  ed_cmp op_in_sign hm ha hb (by
    intro v1 v2 H ok r1 r2 Q q
    cases r1; cases r2
    exact ⟨k, z, rfl, rfl, q _ _ H .refl ok rfl (.bl _)⟩)
/-! ### dicts by tuples of numbers -/
theorem dic_get {M : Ms} {H : Hp} {v u : V} {es : List (List Int × D)} {k : List Int} (r : Rp M H v (.dic es)) (rk : Rp M H u (.tup (k.map .int))) : ∃ p kvs, v = .ref p ∧ DGet H p u (valV kvs (k.map Sum.inl)) ∧ RpK M H kvs es := by
  obtain ⟨p, kvs, rfl, n, e, l⟩ := r.dicI
  obtain ⟨b, xs, rfl, n2, e2, l2⟩ := rk.tupI
  rw [l2.ints] at e2
  exact ⟨p, kvs, rfl, .inr ⟨kvs, k.map Sum.inl, b, .inl e, rfl, by rw [kV_inl]; exact e2, rfl⟩, l⟩
theorem ed_dget {es : List (List Int × D)} {k : List Int} (hu : X.A.units + 1 < cLine) (ha : EE X W ρ a (.dic es)) (hb : EE X W ρ b (.tup (k.map .int))) (h : es.lookup k = some d) (hs : NoSl b := by exact fun _ _ => rfl) : EE X W ρ (.Subscript a b pos) d :=
  PEimp (pe_dget hu ha hb hs) fun σ H Q ⟨ok, sl, q⟩ => ⟨ok, sl, fun z v H1 e1 ok1 hz r1 => ⟨ok1, sl.ext e1, fun z2 v2 H2 e2 ok2 hz2 r2 => by
    subst hz hz2
    obtain ⟨p, kvs, rfl, g, l⟩ := dic_get (r1.ext e2) r2
    obtain ⟨u, hu, ru⟩ := l.look h
    rw [hu] at g
    exact ⟨p, u, rfl, g, q _ _ H2 (e1.trans e2) ok2 rfl ru⟩⟩⟩
theorem ed_din {es : List (List Int × D)} {k : List Int} (hu : X.A.units + 1 < cLine) (ha : EE X W ρ a (.tup (k.map .int))) (hb : EE X W ρ b (.dic es)) (hm : behindInMarks .In b = false := by rfl) : EE X W ρ (.Compare a [.In] [b] pos) (.bl (es.lookup k).isSome) :=
  PEimp (pe_cmp (pc_din hu ha hb) hm) fun σ H Q ⟨ok, sl, q⟩ => ⟨ok, sl, fun z v H1 e1 ok1 hz r1 => ⟨ok1, sl.ext e1, fun z2 v2 H2 e2 ok2 hz2 r2 => by
    subst hz hz2
    obtain ⟨p, kvs, rfl, g, l⟩ := dic_get r2 (r1.ext e2)
    refine ⟨p, _, rfl, g, ?_⟩
    have e : (valV kvs (k.map Sum.inl)).isSome = (es.lookup k).isSome := by
      cases h : es.lookup k with
      | some d => obtain ⟨u, hu, _⟩ := l.look h; rw [hu]; rfl
      | none => rw [l.lookN h]; rfl
    rw [e]
    exact q _ _ H2 (e1.trans e2) ok2 rfl (.bl _)⟩⟩
/-! ### and, or, not; if -/
theorem ed_not {b : Bool} (ha : EE X W ρ a (.bl b)) : EE X W ρ (.UnaryOp .Not a pos) (.bl (!b)) :=
  PEimp (pe_not ha) fun σ H Q ⟨ok, sl, q⟩ => ⟨ok, sl, fun z v H' e ok' hz r => by subst hz; cases r; exact ⟨b, rfl, q _ _ H' e ok' rfl (.bl _)⟩⟩
theorem ed_one {op} (ha : ED X W ρ a P) : ED X W ρ (.BoolOp op [a] pos) P := pe_one ha
theorem ed_and {u w : Bool} {rest : List Expr} (ha : EE X W ρ a (.bl u)) (hb : u = true → EE X W ρ (.BoolOp .And (b :: rest) pos) (.bl w)) : EE X W ρ (.BoolOp .And (a :: b :: rest) pos) (.bl (u && w)) := by
  cases u with
  | true => exact PEimp (pe_and ha (hb rfl)) fun σ H Q ⟨ok, sl, q⟩ => ⟨ok, sl, fun z v H' e ok' hz r => by subst hz; cases r; exact ⟨true, rfl, iteT ⟨ok', sl.ext e, fun z v H2 e2 ok2 hz r => q z v H2 (e.trans e2) ok2 hz r⟩⟩⟩
  | false => exact PEimp (pe_and ha PEnever) fun σ H Q ⟨ok, sl, q⟩ => ⟨ok, sl, fun z v H' e ok' hz r => by subst hz; cases r; exact ⟨false, rfl, iteF (q _ _ H' e ok' rfl (.bl _))⟩⟩
theorem ed_or {u w : Bool} {rest : List Expr} (ha : EE X W ρ a (.bl u)) (hb : u = false → EE X W ρ (.BoolOp .Or (b :: rest) pos) (.bl w)) : EE X W ρ (.BoolOp .Or (a :: b :: rest) pos) (.bl (u || w)) := by
  cases u with
  | false => exact PEimp (pe_or ha (hb rfl)) fun σ H Q ⟨ok, sl, q⟩ => ⟨ok, sl, fun z v H' e ok' hz r => by subst hz; cases r; exact ⟨false, rfl, iteF ⟨ok', sl.ext e, fun z v H2 e2 ok2 hz r => q z v H2 (e.trans e2) ok2 hz r⟩⟩⟩
  | true => exact PEimp (pe_or ha PEnever) fun σ H Q ⟨ok, sl, q⟩ => ⟨ok, sl, fun z v H' e ok' hz r => by subst hz; cases r; exact ⟨true, rfl, iteT (q _ _ H' e ok' rfl (.bl _))⟩⟩
theorem ed_and0 {u : Bool} {rest : List Expr} (ha : EE X W ρ a (.bl u)) (hu : u = false := by rfl) : EE X W ρ (.BoolOp .And (a :: b :: rest) pos) (.bl false) := by
  subst hu; exact ed_and (w := false) ha fun h => by cases h
theorem ed_or0 {u : Bool} {rest : List Expr} (ha : EE X W ρ a (.bl u)) (hu : u = true := by rfl) : EE X W ρ (.BoolOp .Or (a :: b :: rest) pos) (.bl true) := by
  subst hu; exact ed_or (w := false) ha fun h => by cases h
/-- l <= x <= m -/
theorem ed_chain {u w : Bool} {op op' : CmpOp} {r r' : R2} {x y z : D} (ho : OpR X (compareOp op) r) (ho' : OpR X (compareOp op') r') (ha : EE X W ρ a x) (hb : EE X W ρ b y) (hc : EE X W ρ c z) (hr : RR W r x y (fun d => d = .bl u)) (hr' : RR W r' y z (fun d => d = .bl w)) (hm : lastMarks [op, op'] [b, c] = false) :
    EE X W ρ (.Compare a [op, op'] [b, c] pos) (.bl (u && w)) :=
  PEimp (pe_chain ho ho' ha hb hc hm) fun σ H Q ⟨ok, sl, q⟩ => ⟨ok, sl, fun d1 v1 H1 e1 ok1 h1 r1 => ⟨ok1, sl.ext e1, fun d2 v2 H2 e2 ok2 h2 r2 => by
    subst h1 h2
    refine hr v1 v2 H2 ok2 (r1.ext e2) r2 _ fun d v H3 e3 ok3 hd rd => ?_
    subst hd
    cases rd
    refine ⟨u, rfl, ?_⟩
    cases u with
    | true => exact iteT ⟨ok3, ((sl.ext e1).ext e2).ext e3, fun d4 v4 H4 e4 ok4 h4 r4 => by
        subst h4
        exact hr' v2 v4 H4 ok4 ((r2.ext e3).ext e4) r4 _ fun d v H5 e5 ok5 hd rd => q d v H5 ((((e1.trans e2).trans e3).trans e4).trans e5) ok5 (by rw [hd, Bool.true_and]) rd⟩
    | false => exact iteF (q _ _ H3 ((e1.trans e2).trans e3) ok3 rfl (.bl _))⟩⟩
theorem ed_leLe {i j k : Int} (ha : EE X W ρ a (.int i)) (hb : EE X W ρ b (.int j)) (hc : EE X W ρ c (.int k)) (hm : lastMarks [.LtE, .LtE] [b, c] = false := by rfl) : EE X W ρ (.Compare a [.LtE, .LtE] [b, c] pos) (.bl (decide (i ≤ j) && decide (j ≤ k))) := ed_chain op_le op_le ha hb hc rr_cmp rr_cmp hm
theorem ed_ltLt {i j k : Int} (ha : EE X W ρ a (.int i)) (hb : EE X W ρ b (.int j)) (hc : EE X W ρ c (.int k)) (hm : lastMarks [.Lt, .Lt] [b, c] = false := by rfl) : EE X W ρ (.Compare a [.Lt, .Lt] [b, c] pos) (.bl (decide (i < j) && decide (j < k))) := ed_chain op_lt op_lt ha hb hc rr_cmp rr_cmp hm

/-! ### tests -/
theorem td_val {Pt : Bool → Prop} (h : ED X W ρ e P) (k : ∀ d, P d → ∃ b, d = .bl b ∧ Pt b) (he : ∀ whole, isTrue e X.env whole = (do let v ← whole; standAt e.pos; holding [v] (truthy v)) := by intro _; rfl) : TD X W ρ e Pt :=
  PTimp (pt_val h he) fun σ H Q ⟨ok, sl, q⟩ => ⟨ok, sl, fun z v H' e ok' p r => by
    obtain ⟨b, rfl, pb⟩ := k z p
    cases r
    exact ⟨b, rfl, q b H' e ok' pb⟩⟩
theorem tb_val {b : Bool} (h : EE X W ρ e (.bl b)) (he : ∀ whole, isTrue e X.env whole = (do let v ← whole; standAt e.pos; holding [v] (truthy v)) := by intro _; rfl) : TB X W ρ e b := td_val h (fun d p => ⟨b, p, rfl⟩) he
/-- a comparison -/
theorem td_cmpP {r : R2} {op : CmpOp} {P1 P2 : D → Prop} {Pt : Bool → Prop} (ho : OpR X (compareOp op) r) (hm : behindInMarks op b = false) (ha : ED X W ρ a P1) (hb : ED X W ρ b P2) (hr : ∀ x y, P1 x → P2 y → RR W r x y (fun d => ∃ b, d = .bl b ∧ Pt b)) : TD X W ρ (.Compare a [op] [b] pos) Pt :=
  PTimp (pt_cmpR ho ha hb hm) fun σ H Q ⟨ok, sl, q⟩ => ⟨ok, sl, fun x v1 H1 e1 ok1 p1 r1 => ⟨ok1, sl.ext e1, fun y v2 H2 e2 ok2 p2 r2 => hr x y p1 p2 v1 v2 H2 ok2 (r1.ext e2) r2 _ fun d v H3 e3 ok3 p r => by
    obtain ⟨b, rfl, pb⟩ := p
    cases r
    exact ⟨b, rfl, q b H3 ((e1.trans e2).trans e3) ok3 pb⟩⟩⟩
theorem RR.toB {r : R2} {b : Bool} (h : RR W r x y (fun d => d = .bl b)) : RR W r x y (fun d => ∃ c, d = .bl c ∧ c = b) := fun v1 v2 H ok r1 r2 Q q => h v1 v2 H ok r1 r2 Q fun d v H' e ok' hd r => q d v H' e ok' ⟨b, hd, rfl⟩ r
theorem tb_cmp {r : R2} {op : CmpOp} {k : Bool} (ho : OpR X (compareOp op) r) (hm : behindInMarks op b = false) (ha : EE X W ρ a x) (hb : EE X W ρ b y) (hr : RR W r x y (fun d => d = .bl k)) : TB X W ρ (.Compare a [op] [b] pos) k := td_cmpP ho hm ha hb fun _ _ h1 h2 => by subst h1 h2; exact hr.toB
theorem tb_lt {i j : Int} (ha : EE X W ρ a (.int i)) (hb : EE X W ρ b (.int j)) : TB X W ρ (.Compare a [.Lt] [b] pos) (decide (i < j)) := tb_cmp op_lt (nomark b) ha hb rr_cmp
theorem tb_gt {i j : Int} (ha : EE X W ρ a (.int i)) (hb : EE X W ρ b (.int j)) : TB X W ρ (.Compare a [.Gt] [b] pos) (decide (j < i)) := tb_cmp op_gt (nomark b) ha hb rr_cmp
theorem tb_ge {i j : Int} (ha : EE X W ρ a (.int i)) (hb : EE X W ρ b (.int j)) : TB X W ρ (.Compare a [.GtE] [b] pos) (decide (j ≤ i)) := tb_cmp op_ge (nomark b) ha hb rr_cmp
theorem tb_eqI {i j : Int} (ha : EE X W ρ a (.int i)) (hb : EE X W ρ b (.int j)) : TB X W ρ (.Compare a [.Eq] [b] pos) (decide (i = j)) := by
  rw [← dec_vint]; exact tb_cmp op_eq (nomark b) ha hb (rr_eq rfl rfl rfl)
theorem tb_neI {i j : Int} (ha : EE X W ρ a (.int i)) (hb : EE X W ρ b (.int j)) : TB X W ρ (.Compare a [.NotEq] [b] pos) (!decide (i = j)) := by
  rw [← dec_vint]; exact tb_cmp op_ne (nomark b) ha hb (rr_ne rfl rfl rfl)
theorem tb_eqS {i j : Str} (ha : EE X W ρ a (.str i)) (hb : EE X W ρ b (.str j)) : TB X W ρ (.Compare a [.Eq] [b] pos) (decide (i = j)) := by
  rw [← dec_vstr]; exact tb_cmp op_eq (nomark b) ha hb (rr_eq rfl rfl rfl)
theorem tb_neS {i j : Str} (ha : EE X W ρ a (.str i)) (hb : EE X W ρ b (.str j)) : TB X W ρ (.Compare a [.NotEq] [b] pos) (!decide (i = j)) := by
  rw [← dec_vstr]; exact tb_cmp op_ne (nomark b) ha hb (rr_ne rfl rfl rfl)
theorem tb_isN (ha : EE X W ρ a x) {j : Nat} {p2 : Pos} : TB X W ρ (.Compare a [.Is] [.Constant .none j p2] pos) (isNon x) :=
  PTimp (pt_cmp (pc_isN ha) rfl) fun σ H Q ⟨ok, sl, q⟩ => ⟨ok, sl, fun z v H' e ok' hz r => by subst hz; exact ⟨_, by rw [isNon_rp r], q _ H' e ok' rfl⟩⟩
theorem tb_notN (ha : EE X W ρ a x) {j : Nat} {p2 : Pos} : TB X W ρ (.Compare a [.IsNot] [.Constant .none j p2] pos) (!isNon x) :=
  PTimp (pt_cmp (pc_notN ha) rfl) fun σ H Q ⟨ok, sl, q⟩ => ⟨ok, sl, fun z v H' e ok' hz r => by subst hz; exact ⟨_, by rw [isNon_rp r], q _ H' e ok' rfl⟩⟩
theorem tb_not {u : Bool} (ha : TB X W ρ a u) : TB X W ρ (.UnaryOp .Not a pos) (!u) := PTimp (pt_not ha) fun σ H Q ⟨ok, sl, q⟩ => ⟨ok, sl, fun b H' e ok' hb => q _ H' e ok' (by rw [hb])⟩
abbrev WB (X : Cx) (W : Res) (ρ : List (Option D)) (e : Expr) (b : Bool) : Prop := PW X e (tDt W ρ (fun z => z = b))
theorem WB.tb {u : Bool} (h : WB X W ρ a u) : TB X W ρ a u := PW.pt h
theorem wb_and1 {u : Bool} (h : TB X W ρ a u) : WB X W ρ (.BoolOp .And [a] pos) u := pw_and1 h
theorem wb_or1 {u : Bool} (h : TB X W ρ a u) : WB X W ρ (.BoolOp .Or [a] pos) u := pw_or1 h
theorem wb_and {u w : Bool} {rest : List Expr} (ha : TB X W ρ a u) (hb : u = true → WB X W ρ (.BoolOp .And (b :: rest) pos) w) : WB X W ρ (.BoolOp .And (a :: b :: rest) pos) (u && w) := by
  cases u with
  | true => exact PWimp (pw_and ha (hb rfl)) fun σ H Q ⟨ok, sl, q⟩ => ⟨ok, sl, fun z H' e ok' hz => by subst hz; exact iteT ⟨ok', sl.ext e, fun z H2 e2 ok2 hz => q z H2 (e.trans e2) ok2 hz⟩⟩
  | false => exact PWimp (pw_and ha PWnever) fun σ H Q ⟨ok, sl, q⟩ => ⟨ok, sl, fun z H' e ok' hz => by subst hz; exact iteF (q _ H' e ok' rfl)⟩
theorem wb_or {u w : Bool} {rest : List Expr} (ha : TB X W ρ a u) (hb : u = false → WB X W ρ (.BoolOp .Or (b :: rest) pos) w) : WB X W ρ (.BoolOp .Or (a :: b :: rest) pos) (u || w) := by
  cases u with
  | false => exact PWimp (pw_or ha (hb rfl)) fun σ H Q ⟨ok, sl, q⟩ => ⟨ok, sl, fun z H' e ok' hz => by subst hz; exact iteF ⟨ok', sl.ext e, fun z H2 e2 ok2 hz => q z H2 (e.trans e2) ok2 hz⟩⟩
  | true => exact PWimp (pw_or ha PWnever) fun σ H Q ⟨ok, sl, q⟩ => ⟨ok, sl, fun z H' e ok' hz => by subst hz; exact iteT (q _ H' e ok' rfl)⟩
theorem wb_and0 {u : Bool} {rest : List Expr} (ha : TB X W ρ a u) (hu : u = false := by rfl) : WB X W ρ (.BoolOp .And (a :: b :: rest) pos) false := by
  subst hu; exact wb_and (w := false) ha fun h => by cases h
theorem wb_or0 {u : Bool} {rest : List Expr} (ha : TB X W ρ a u) (hu : u = true := by rfl) : WB X W ρ (.BoolOp .Or (a :: b :: rest) pos) true := by
  subst hu; exact wb_or (w := false) ha fun h => by cases h
/-- x if t else y -/
theorem ed_if {u : Bool} (ht : TB X W ρ c u) (ha : u = true → ED X W ρ a P) (hb : u = false → ED X W ρ b P) : ED X W ρ (.IfExp c a b pos) P := by
  cases u with
  | true => exact PEimp (pe_ifExp ht (ha rfl) PEnever) fun σ H Q ⟨ok, sl, q⟩ => ⟨ok, sl, fun z H' e ok' hz => by subst hz; exact iteT ⟨ok', sl.ext e, fun z v H2 e2 ok2 hz r => q z v H2 (e.trans e2) ok2 hz r⟩⟩
  | false => exact PEimp (pe_ifExp ht PEnever (hb rfl)) fun σ H Q ⟨ok, sl, q⟩ => ⟨ok, sl, fun z H' e ok' hz => by subst hz; exact iteF ⟨ok', sl.ext e, fun z v H2 e2 ok2 hz r => q z v H2 (e.trans e2) ok2 hz r⟩⟩

/-! ### calls of what is built in -/
def RC (W : Res) (r : List V → Hp → VK → Prop) (ds : List D) (P : D → Prop) : Prop := ∀ vs H, W.ok H → RpL W.m H vs ds → ∀ Q : VK, (∀ d v H', Ext W.m H H' → W.ok H' → P d → Rp W.m H' v d → Q v H') → r vs H Q
theorem ed_callBP {n : Str} {id : String} {r : List V → Hp → VK → Prop} {es : List Expr} {P1 : List D → Prop} {p : Pos} (hc : CallR X (.builtin id) r) (hg : Gl X n) (hm : X.mg n = none) (hv : bootBuiltins n = some (.builtin id)) (ha : AD X W ρ (e :: es) P1) (hr : ∀ ds, P1 ds → RC W r ds P)
    (hn : n ≠ "__name__" := by decide) (hdb : (n == ("__debug__" : Str)) = false := by decide) (he : starEach (e :: es) X.env = (false, eval e X.env) :: starEach es X.env := by rfl) (hpl : (backTo pos (starEach es X.env)).any (·.1) = false := by rfl) : ED X W ρ (.Call (.Name n p) (e :: es) [] pos) P :=
  PEimp (pe_callB hc hg hm hv ha hn hdb he hpl) fun σ H Q ⟨ok, sl, q⟩ => ⟨ok, sl, fun ds vs H1 e1 ok1 p1 r1 => hr ds p1 vs H1 ok1 r1 Q fun d v H2 e2 ok2 p2 r2 => q d v H2 (e1.trans e2) ok2 p2 r2⟩
theorem ed_callTP {n : Str} {T : String} {r : List V → Hp → VK → Prop} {es : List Expr} {P1 : List D → Prop} {p : Pos} (hc : CallR X (.type T) r) (hg : Gl X n) (hm : X.mg n = none) (hv : bootBuiltins n = some (.type T)) (ha : AD X W ρ (e :: es) P1) (hr : ∀ ds, P1 ds → RC W r ds P)
    (hn : n ≠ "__name__" := by decide) (hdb : (n == ("__debug__" : Str)) = false := by decide) (he : starEach (e :: es) X.env = (false, eval e X.env) :: starEach es X.env := by rfl) (hpl : (backTo pos (starEach es X.env)).any (·.1) = false := by rfl) : ED X W ρ (.Call (.Name n p) (e :: es) [] pos) P :=
  PEimp (pe_callTy hc hg hm hv ha hn hdb he hpl) fun σ H Q ⟨ok, sl, q⟩ => ⟨ok, sl, fun ds vs H1 e1 ok1 p1 r1 => hr ds p1 vs H1 ok1 r1 Q fun d v H2 e2 ok2 p2 r2 => q d v H2 (e1.trans e2) ok2 p2 r2⟩
theorem ed_callB {n : Str} {id : String} {r : List V → Hp → VK → Prop} {es : List Expr} {ds : List D} {p : Pos} (hc : CallR X (.builtin id) r) (hg : Gl X n) (hm : X.mg n = none) (hv : bootBuiltins n = some (.builtin id)) (ha : AE X W ρ (e :: es) ds) (hr : RC W r ds P)
    (hn : n ≠ "__name__" := by decide) (hdb : (n == ("__debug__" : Str)) = false := by decide) (he : starEach (e :: es) X.env = (false, eval e X.env) :: starEach es X.env := by rfl) (hpl : (backTo pos (starEach es X.env)).any (·.1) = false := by rfl) : ED X W ρ (.Call (.Name n p) (e :: es) [] pos) P :=
  ed_callBP hc hg hm hv ha (fun ds h => by subst h; exact hr) hn hdb he hpl
theorem ed_callT {n : Str} {T : String} {r : List V → Hp → VK → Prop} {es : List Expr} {ds : List D} {p : Pos} (hc : CallR X (.type T) r) (hg : Gl X n) (hm : X.mg n = none) (hv : bootBuiltins n = some (.type T)) (ha : AE X W ρ (e :: es) ds) (hr : RC W r ds P)
    (hn : n ≠ "__name__" := by decide) (hdb : (n == ("__debug__" : Str)) = false := by decide) (he : starEach (e :: es) X.env = (false, eval e X.env) :: starEach es X.env := by rfl) (hpl : (backTo pos (starEach es X.env)).any (·.1) = false := by rfl) : ED X W ρ (.Call (.Name n p) (e :: es) [] pos) P :=
  ed_callTP hc hg hm hv ha (fun ds h => by subst h; exact hr) hn hdb he hpl
theorem RpL.one {M : Ms} {H : Hp} {vs : List V} {d : D} (l : RpL M H vs [d]) : ∃ v, vs = [v] ∧ Rp M H v d := by
  cases l with | cons r l => cases l; exact ⟨_, rfl, r⟩
theorem RpL.two {M : Ms} {H : Hp} {vs : List V} {d d2 : D} (l : RpL M H vs [d, d2]) : ∃ v v2, vs = [v, v2] ∧ Rp M H v d ∧ Rp M H v2 d2 := by
  cases l with | cons r l => cases l with | cons r2 l => cases l; exact ⟨_, _, rfl, r, r2⟩
theorem ed_lenT {ds : List D} {p : Pos} (hm : X.mg "len" = none) (ha : EE X W ρ a (.tup ds)) (hg : Gl X "len" := by rfl) (hs : starEach [a] X.env = (false, eval a X.env) :: starEach [] X.env := by rfl) : EE X W ρ (.Call (.Name "len" p) [a] [] pos) (.int ds.length) :=
  ed_callB call_len_seq hg hm boot_len (ad_cons ha ad_nil hs) (fun vs H ok l Q q => by
    obtain ⟨v, rfl, r⟩ := l.one
    obtain ⟨b, xs, rfl, n, e, l⟩ := r.tupI
    exact ⟨b, xs, rfl, .inr (.inl (.inl e)), by rw [l.length]; exact q _ _ H .refl ok rfl (.int _)⟩) (by decide) (by decide) hs
theorem ed_lenL {ds : List D} {p : Pos} (hm : X.mg "len" = none) (ha : EE X W ρ a (.lst ds)) (hg : Gl X "len" := by rfl) (hs : starEach [a] X.env = (false, eval a X.env) :: starEach [] X.env := by rfl) : EE X W ρ (.Call (.Name "len" p) [a] [] pos) (.int ds.length) :=
  ed_callB call_len_seq hg hm boot_len (ad_cons ha ad_nil hs) (fun vs H ok l Q q => by
    obtain ⟨v, rfl, r⟩ := l.one
    obtain ⟨b, xs, rfl, n, e, l⟩ := r.lstI
    exact ⟨b, xs, rfl, .inl (.inl (.inl e)), by rw [l.length]; exact q _ _ H .refl ok rfl (.int _)⟩) (by decide) (by decide) hs
theorem ed_lenS {z : Str} {p : Pos} (hm : X.mg "len" = none) (ha : EE X W ρ a (.str z)) (hl : z.length ≤ 100000) (hg : Gl X "len" := by rfl) (hs : starEach [a] X.env = (false, eval a X.env) :: starEach [] X.env := by rfl) : EE X W ρ (.Call (.Name "len" p) [a] [] pos) (.int z.length) :=
  ed_callB call_len_str hg hm boot_len (ad_cons ha ad_nil hs) (fun vs H ok l Q q => by
    obtain ⟨v, rfl, r⟩ := l.one
    cases r
    exact ⟨z, rfl, sz_of hl, q _ _ H .refl ok rfl (.int _)⟩) (by decide) (by decide) hs
theorem ed_any {bs : List Bool} {p : Pos} (hcalm : X.calm = true) (hm : X.mg "any" = none) (ha : EE X W ρ a (.lst (bs.map .bl))) (hg : Gl X "any" := by rfl) (hs : starEach [a] X.env = (false, eval a X.env) :: starEach [] X.env := by rfl) : EE X W ρ (.Call (.Name "any" p) [a] [] pos) (.bl (bs.any id)) :=
  ed_callB (cr_any hcalm) hg hm (by decide +kernel) (ad_cons ha ad_nil hs) (fun vs H ok l Q q => by
    obtain ⟨v, rfl, r⟩ := l.one
    obtain ⟨b, xs, rfl, n, e, l⟩ := r.lstI
    rw [l.bls] at e
    exact ⟨b, bs, rfl, .inl (.inl e), q _ _ H .refl ok rfl (.bl _)⟩) (by decide) (by decide) hs
theorem ed_all {bs : List Bool} {p : Pos} (hcalm : X.calm = true) (hm : X.mg "all" = none) (ha : EE X W ρ a (.lst (bs.map .bl))) (hg : Gl X "all" := by rfl) (hs : starEach [a] X.env = (false, eval a X.env) :: starEach [] X.env := by rfl) : EE X W ρ (.Call (.Name "all" p) [a] [] pos) (.bl (bs.all id)) :=
  ed_callB (cr_all hcalm) hg hm (by decide +kernel) (ad_cons ha ad_nil hs) (fun vs H ok l Q q => by
    obtain ⟨v, rfl, r⟩ := l.one
    obtain ⟨b, xs, rfl, n, e, l⟩ := r.lstI
    rw [l.bls] at e
    exact ⟨b, bs, rfl, .inl (.inl e), q _ _ H .refl ok rfl (.bl _)⟩) (by decide) (by decide) hs
theorem ed_tupleL {P : List D → Prop} {p : Pos} (hm : X.mg "tuple" = none) (ha : ED X W ρ a (fun z => ∃ ds, z = .lst ds ∧ P ds)) (hg : Gl X "tuple" := by rfl) (hs : starEach [a] X.env = (false, eval a X.env) :: starEach [] X.env := by rfl) : ED X W ρ (.Call (.Name "tuple" p) [a] [] pos) (fun z => ∃ ds, z = .tup ds ∧ P ds) :=
  ed_callTP call_tuple_of hg hm (by decide +kernel) (ad_consP ha ad_nil hs) (fun ds h vs H ok l Q q => by
    obtain ⟨_, _, rfl, ⟨ds, rfl, pd⟩, rfl⟩ := h
    obtain ⟨v, rfl, r⟩ := l.one
    obtain ⟨b, xs, rfl, n, e, l⟩ := r.lstI
    exact ⟨b, xs, rfl, .inl ⟨.inl (.inl e), fun l' hl => q _ _ _ (.new hl) (W.new ok hl) ⟨ds, rfl, pd⟩ (.tup (W.fresh ok hl) upd_same (l.ext (.new hl)))⟩⟩) (by decide) (by decide) hs
theorem ed_tuple {ds : List D} {p : Pos} (hm : X.mg "tuple" = none) (ha : EE X W ρ a (.lst ds)) (hg : Gl X "tuple" := by rfl) (hs : starEach [a] X.env = (false, eval a X.env) :: starEach [] X.env := by rfl) : EE X W ρ (.Call (.Name "tuple" p) [a] [] pos) (.tup ds) :=
  ED.imp (ed_tupleL (P := fun z => z = ds) hm (ED.imp ha fun z h => ⟨ds, h, rfl⟩) hg hs) fun z ⟨ds', h, h'⟩ => by rw [h, h']
theorem ed_listT {ds : List D} {p : Pos} (hm : X.mg "list" = none) (ha : EE X W ρ a (.tup ds)) (hg : Gl X "list" := by rfl) (hs : starEach [a] X.env = (false, eval a X.env) :: starEach [] X.env := by rfl) : EE X W ρ (.Call (.Name "list" p) [a] [] pos) (.lst ds) :=
  ed_callT call_list_of hg hm (by decide +kernel) (ad_cons ha ad_nil hs) (fun vs H ok l Q q => by
    obtain ⟨v, rfl, r⟩ := l.one
    obtain ⟨b, xs, rfl, n, e, l⟩ := r.tupI
    exact ⟨b, xs, rfl, .inr (.inl (.inl e)), fun l' hl => q _ _ _ (.new hl) (W.new ok hl) rfl (.lst (W.fresh ok hl) upd_same (l.ext (.new hl)))⟩) (by decide) (by decide) hs
theorem ed_max {i j : Int} {p : Pos} (hcalm : X.calm = true) (hm : X.mg "max" = none) (ha : EE X W ρ a (.int i)) (hb : EE X W ρ b (.int j)) (hg : Gl X "max" := by rfl) (hs : starEach [a, b] X.env = (false, eval a X.env) :: starEach [b] X.env := by rfl) (hs2 : starEach [b] X.env = (false, eval b X.env) :: starEach [] X.env := by rfl) (hp : (backTo pos (starEach [b] X.env)).any (·.1) = false := by rfl) :
    EE X W ρ (.Call (.Name "max" p) [a, b] [] pos) (.int (max i j)) :=
  ed_callB (call_max2 hcalm) hg hm (by decide +kernel) (ad_cons ha (ad_cons hb ad_nil hs2) hs) (fun vs H ok l Q q => by
    obtain ⟨v, v2, rfl, r, r2⟩ := l.two
    cases r; cases r2
    have e : max i j = (if j > i then j else i) := by split <;> omega
    rw [e] at q
    exact ⟨i, j, rfl, q _ _ H .refl ok rfl (.int _)⟩) (by decide) (by decide) hs hp
theorem ed_min {i j : Int} {p : Pos} (hcalm : X.calm = true) (hm : X.mg "min" = none) (ha : EE X W ρ a (.int i)) (hb : EE X W ρ b (.int j)) (hg : Gl X "min" := by rfl) (hs : starEach [a, b] X.env = (false, eval a X.env) :: starEach [b] X.env := by rfl) (hs2 : starEach [b] X.env = (false, eval b X.env) :: starEach [] X.env := by rfl) (hp : (backTo pos (starEach [b] X.env)).any (·.1) = false := by rfl) :
    EE X W ρ (.Call (.Name "min" p) [a, b] [] pos) (.int (min i j)) :=
  ed_callB (call_min2 hcalm) hg hm (by decide +kernel) (ad_cons ha (ad_cons hb ad_nil hs2) hs) (fun vs H ok l Q q => by
    obtain ⟨v, v2, rfl, r, r2⟩ := l.two
    cases r; cases r2
    have e : min i j = (if j < i then j else i) := by split <;> omega
    rw [e] at q
    exact ⟨i, j, rfl, q _ _ H .refl ok rfl (.int _)⟩) (by decide) (by decide) hs hp
theorem ed_intI {i : Int} {p : Pos} (hm : X.mg "int" = none) (ha : EE X W ρ a (.int i)) (hg : Gl X "int" := by rfl) (hs : starEach [a] X.env = (false, eval a X.env) :: starEach [] X.env := by rfl) : EE X W ρ (.Call (.Name "int" p) [a] [] pos) (.int i) :=
  ed_callT call_int1 hg hm (by decide +kernel) (ad_cons ha ad_nil hs) (fun vs H ok l Q q => by
    obtain ⟨v, rfl, r⟩ := l.one
    cases r
    exact .inl ⟨i, rfl, q _ _ H .refl ok rfl (.int _)⟩) (by decide) (by decide) hs
theorem ed_intB {Pb : Bool → Prop} {p : Pos} (hm : X.mg "int" = none) (ha : ED X W ρ a (fun z => ∃ b, z = .bl b ∧ Pb b)) (hg : Gl X "int" := by rfl) (hs : starEach [a] X.env = (false, eval a X.env) :: starEach [] X.env := by rfl) : ED X W ρ (.Call (.Name "int" p) [a] [] pos) (fun z => ∃ b, z = .int (if b then 1 else 0) ∧ Pb b) :=
  ed_callTP call_int1 hg hm (by decide +kernel) (ad_consP ha ad_nil hs) (fun ds h vs H ok l Q q => by
    obtain ⟨_, _, rfl, ⟨b, rfl, pd⟩, rfl⟩ := h
    obtain ⟨v, rfl, r⟩ := l.one
    cases r
    exact .inr ⟨b, rfl, q _ _ H .refl ok ⟨b, rfl, pd⟩ (.int _)⟩) (by decide) (by decide) hs
/-! ### isinstance -/
def tyD : D → Option String
  | .non => some "NoneType"
  | .bl _ => some "bool"
  | .int _ => some "int"
  | .str _ => some "str"
  | .tup _ => some "tuple"
  | .lst _ => some "list"
  | .dic _ => some "dict"
  | .dii _ => some "dict"
  | .ins _ _ => none
  | .obj _ => none
  | .ord _ => none
  | .dnk _ => none
theorem tyD_rp {K : PySem.W.Frag} {M : Ms} {H : Hp} {v : V} {d : D} {t : String} (h : tyD d = some t) (r : Rp M H v d) : TyX K H v (.type t) := by
  cases r with
  | non => cases h; exact .base .non
  | bl b => cases h; exact .base (.bl b)
  | int i => cases h; exact .base (.int i)
  | str x => cases h; exact .base (.str x)
  | obj a => cases h
  | tup n e l => cases h; exact .base (.tup e)
  | lst n e l => cases h; exact .base (.lst e)
  | dic n e l => cases h; exact .base (.dT e)
  | dii n e l => cases h; exact .base (.dK e)
  | ins n e l => cases h
  | ord n e l => cases h
  | dnk n e l => cases h
theorem ed_isi {T t : String} {n : Str} {u : Bool} {p p2 : Pos} (hm : X.mg "isinstance" = none) (hm2 : X.mg n = none) (ht : tyD x = some t) (hk : kitB t T = some u) (ha : EE X W ρ a x) (hv : bootBuiltins n = some (.type T)) (hg : Gl X "isinstance" := by rfl) (hg2 : Gl X n := by rfl)
    (hn : n ≠ "__name__" := by decide) (hdb : (n == ("__debug__" : Str)) = false := by decide) (hs : starEach [a, .Name n p2] X.env = (false, eval a X.env) :: starEach [.Name n p2] X.env := by rfl) (hs2 : starEach [.Name n p2] X.env = (false, eval (.Name n p2) X.env) :: starEach [] X.env := by rfl) (hp : (backTo pos (starEach [.Name n p2] X.env)).any (·.1) = false := by rfl) :
    EE X W ρ (.Call (.Name "isinstance" p) [a, .Name n p2] [] pos) (.bl u) := by
  have hT : PE X (.Name n p2) (tC (.ty T)) := pe_bltn hg2 hm2 hv rfl hn hdb
  refine PEimp (pe_callB call_isi hg hm (by decide +kernel) (pa_cons ha (pa_cons hT pa_nil hs2) hs) (by decide) (by decide) hs hp) fun σ H Q ⟨ok, sl, q⟩ => ⟨ok, sl, fun z v H' e ok' hz r => ?_⟩
  subst hz
  exact ⟨v, .ty T, .type t, .type T, u, rfl, .ty T, tyD_rp ht r, kit_ty hk, q _ _ H' e ok' rfl (.bl _)⟩
/-- what is known of its kind -/
def kn : D → Bool
  | .ins _ _ => false
  | .obj _ => false
  | .ord _ => false
  | .dnk _ => false
  | _ => true
def isInt : D → Bool
  | .int _ => true
  | .bl _ => true
  | _ => false
def isBl : D → Bool
  | .bl _ => true
  | _ => false
def isStr : D → Bool
  | .str _ => true
  | _ => false
def isTup : D → Bool
  | .tup _ => true
  | _ => false
theorem kitI_non : kitB "NoneType" "int" = some false := by decide +kernel
theorem kitI_bl : kitB "bool" "int" = some true := by decide +kernel
theorem kitI_int : kitB "int" "int" = some true := by decide +kernel
theorem kitI_str : kitB "str" "int" = some false := by decide +kernel
theorem kitI_tup : kitB "tuple" "int" = some false := by decide +kernel
theorem kitI_lst : kitB "list" "int" = some false := by decide +kernel
theorem kitI_dic : kitB "dict" "int" = some false := by decide +kernel
theorem kitB_non : kitB "NoneType" "bool" = some false := by decide +kernel
theorem kitB_bl : kitB "bool" "bool" = some true := by decide +kernel
theorem kitB_int : kitB "int" "bool" = some false := by decide +kernel
theorem kitB_str : kitB "str" "bool" = some false := by decide +kernel
theorem kitB_tup : kitB "tuple" "bool" = some false := by decide +kernel
theorem kitB_lst : kitB "list" "bool" = some false := by decide +kernel
theorem kitB_dic : kitB "dict" "bool" = some false := by decide +kernel
theorem kitS_non : kitB "NoneType" "str" = some false := by decide +kernel
theorem kitS_bl : kitB "bool" "str" = some false := by decide +kernel
theorem kitS_int : kitB "int" "str" = some false := by decide +kernel
theorem kitS_str : kitB "str" "str" = some true := by decide +kernel
theorem kitS_tup : kitB "tuple" "str" = some false := by decide +kernel
theorem kitS_lst : kitB "list" "str" = some false := by decide +kernel
theorem kitS_dic : kitB "dict" "str" = some false := by decide +kernel
theorem kitT_non : kitB "NoneType" "tuple" = some false := by decide +kernel
theorem kitT_bl : kitB "bool" "tuple" = some false := by decide +kernel
theorem kitT_int : kitB "int" "tuple" = some false := by decide +kernel
theorem kitT_str : kitB "str" "tuple" = some false := by decide +kernel
theorem kitT_tup : kitB "tuple" "tuple" = some true := by decide +kernel
theorem kitT_lst : kitB "list" "tuple" = some false := by decide +kernel
theorem kitT_dic : kitB "dict" "tuple" = some false := by decide +kernel
theorem boot_int' : bootBuiltins "int" = some (.type "int") := by decide +kernel
theorem boot_bool' : bootBuiltins "bool" = some (.type "bool") := by decide +kernel
theorem boot_str' : bootBuiltins "str" = some (.type "str") := by decide +kernel
theorem boot_tuple' : bootBuiltins "tuple" = some (.type "tuple") := by decide +kernel
section
variable {p p2 : Pos} (hm : X.mg "isinstance" = none) (ha : EE X W ρ a x) (hk : kn x = true) (hg : Gl X "isinstance" := by rfl)
theorem ed_isInt (hm : X.mg "isinstance" = none) (hm2 : X.mg "int" = none) (ha : EE X W ρ a x) (hk : kn x = true) (hg : Gl X "isinstance" := by rfl) (hg2 : Gl X "int" := by rfl) (hs : starEach [a, .Name "int" p2] X.env = (false, eval a X.env) :: starEach [.Name "int" p2] X.env := by rfl)
    (hs2 : starEach [.Name "int" p2] X.env = (false, eval (.Name "int" p2) X.env) :: starEach [] X.env := by rfl) (hp : (backTo pos (starEach [.Name "int" p2] X.env)).any (·.1) = false := by rfl) : EE X W ρ (.Call (.Name "isinstance" p) [a, .Name "int" p2] [] pos) (.bl (isInt x)) := by
  have G : ∀ t u, tyD x = some t → kitB t "int" = some u → EE X W ρ (.Call (.Name "isinstance" p) [a, .Name "int" p2] [] pos) (.bl u) := fun t u ht hk => ed_isi hm hm2 ht hk ha boot_int' hg hg2 (by decide) (by decide) hs hs2 hp
  cases x with
  | non => exact G _ _ rfl kitI_non
  | bl b => exact G _ _ rfl kitI_bl
  | int i => exact G _ _ rfl kitI_int
  | str s => exact G _ _ rfl kitI_str
  | tup l => exact G _ _ rfl kitI_tup
  | lst l => exact G _ _ rfl kitI_lst
  | dic l => exact G _ _ rfl kitI_dic
  | dii l => exact G _ _ rfl kitI_dic
  | ins _ _ => cases hk
  | obj _ => cases hk
  | ord _ => cases hk
  | dnk _ => cases hk
theorem ed_isBl (hm : X.mg "isinstance" = none) (hm2 : X.mg "bool" = none) (ha : EE X W ρ a x) (hk : kn x = true) (hg : Gl X "isinstance" := by rfl) (hg2 : Gl X "bool" := by rfl) (hs : starEach [a, .Name "bool" p2] X.env = (false, eval a X.env) :: starEach [.Name "bool" p2] X.env := by rfl)
    (hs2 : starEach [.Name "bool" p2] X.env = (false, eval (.Name "bool" p2) X.env) :: starEach [] X.env := by rfl) (hp : (backTo pos (starEach [.Name "bool" p2] X.env)).any (·.1) = false := by rfl) : EE X W ρ (.Call (.Name "isinstance" p) [a, .Name "bool" p2] [] pos) (.bl (isBl x)) := by
  have G : ∀ t u, tyD x = some t → kitB t "bool" = some u → EE X W ρ (.Call (.Name "isinstance" p) [a, .Name "bool" p2] [] pos) (.bl u) := fun t u ht hk => ed_isi hm hm2 ht hk ha boot_bool' hg hg2 (by decide) (by decide) hs hs2 hp
  cases x with
  | non => exact G _ _ rfl kitB_non
  | bl b => exact G _ _ rfl kitB_bl
  | int i => exact G _ _ rfl kitB_int
  | str s => exact G _ _ rfl kitB_str
  | tup l => exact G _ _ rfl kitB_tup
  | lst l => exact G _ _ rfl kitB_lst
  | dic l => exact G _ _ rfl kitB_dic
  | dii l => exact G _ _ rfl kitB_dic
  | ins _ _ => cases hk
  | obj _ => cases hk
  | ord _ => cases hk
  | dnk _ => cases hk
theorem ed_isStr (hm : X.mg "isinstance" = none) (hm2 : X.mg "str" = none) (ha : EE X W ρ a x) (hk : kn x = true) (hg : Gl X "isinstance" := by rfl) (hg2 : Gl X "str" := by rfl) (hs : starEach [a, .Name "str" p2] X.env = (false, eval a X.env) :: starEach [.Name "str" p2] X.env := by rfl)
    (hs2 : starEach [.Name "str" p2] X.env = (false, eval (.Name "str" p2) X.env) :: starEach [] X.env := by rfl) (hp : (backTo pos (starEach [.Name "str" p2] X.env)).any (·.1) = false := by rfl) : EE X W ρ (.Call (.Name "isinstance" p) [a, .Name "str" p2] [] pos) (.bl (isStr x)) := by
  have G : ∀ t u, tyD x = some t → kitB t "str" = some u → EE X W ρ (.Call (.Name "isinstance" p) [a, .Name "str" p2] [] pos) (.bl u) := fun t u ht hk => ed_isi hm hm2 ht hk ha boot_str' hg hg2 (by decide) (by decide) hs hs2 hp
  cases x with
  | non => exact G _ _ rfl kitS_non
  | bl b => exact G _ _ rfl kitS_bl
  | int i => exact G _ _ rfl kitS_int
  | str s => exact G _ _ rfl kitS_str
  | tup l => exact G _ _ rfl kitS_tup
  | lst l => exact G _ _ rfl kitS_lst
  | dic l => exact G _ _ rfl kitS_dic
  | dii l => exact G _ _ rfl kitS_dic
  | ins _ _ => cases hk
  | obj _ => cases hk
  | ord _ => cases hk
  | dnk _ => cases hk
theorem ed_isTup (hm : X.mg "isinstance" = none) (hm2 : X.mg "tuple" = none) (ha : EE X W ρ a x) (hk : kn x = true) (hg : Gl X "isinstance" := by rfl) (hg2 : Gl X "tuple" := by rfl) (hs : starEach [a, .Name "tuple" p2] X.env = (false, eval a X.env) :: starEach [.Name "tuple" p2] X.env := by rfl)
    (hs2 : starEach [.Name "tuple" p2] X.env = (false, eval (.Name "tuple" p2) X.env) :: starEach [] X.env := by rfl) (hp : (backTo pos (starEach [.Name "tuple" p2] X.env)).any (·.1) = false := by rfl) : EE X W ρ (.Call (.Name "isinstance" p) [a, .Name "tuple" p2] [] pos) (.bl (isTup x)) := by
  have G : ∀ t u, tyD x = some t → kitB t "tuple" = some u → EE X W ρ (.Call (.Name "isinstance" p) [a, .Name "tuple" p2] [] pos) (.bl u) := fun t u ht hk => ed_isi hm hm2 ht hk ha boot_tuple' hg hg2 (by decide) (by decide) hs hs2 hp
  cases x with
  | non => exact G _ _ rfl kitT_non
  | bl b => exact G _ _ rfl kitT_bl
  | int i => exact G _ _ rfl kitT_int
  | str s => exact G _ _ rfl kitT_str
  | tup l => exact G _ _ rfl kitT_tup
  | lst l => exact G _ _ rfl kitT_lst
  | dic l => exact G _ _ rfl kitT_dic
  | dii l => exact G _ _ rfl kitT_dic
  | ins _ _ => cases hk
  | obj _ => cases hk
  | ord _ => cases hk
  | dnk _ => cases hk
end
end
end K14

set_option Elab.async false
set_option linter.all false
set_option maxRecDepth 100000
set_option maxHeartbeats 4000000
namespace K14
open PySem L2
/-- where one began: what may change there, the heap -/
structure Bs where
  M : Ms
  H : Hp
/-- where one stands -/
structure At (B : Bs) (W : Res) (Γ : List (V × D)) (ρ : List (Option D)) (σ : St) (H : Hp) : Prop where
  ext : Ext B.M B.H H
  ok : W.ok H
  sl : Sl W.m H σ ρ
  gh : ∀ p ∈ Γ, Rp W.m H p.1 p.2
  own : ∀ a, W.m a → B.M a ∨ B.H a = none
theorem ext_own {B : Bs} {M : Ms} {H H' : Hp} (o : ∀ a, M a → B.M a ∨ B.H a = none) (e0 : Ext B.M B.H H) (e : Ext M H H') : Ext B.M B.H H' :=
  ⟨fun a u n h => e.keep a u (fun m => (o a m).elim n fun z => by rw [z] at h; cases h) (e0.keep a u n h), fun a h => e0.dom a (e.dom a h)⟩
section
variable {B : Bs} {W : Res} {Γ : List (V × D)} {ρ ρ' : List (Option D)} {σ σ' : St} {H H' : Hp}
theorem At.go (a : At B W Γ ρ σ H) (e : Ext W.m H H') (ok : W.ok H') : At B W Γ ρ σ H' := ⟨ext_own a.own a.ext e, ok, a.sl.ext e, fun p hp => (a.gh p hp).ext e, a.own⟩
theorem At.set (a : At B W Γ ρ σ H) (i : Nat) {v : V} {d : D} (r : Rp W.m H v d) : At B W Γ (ρ.set i (some d)) (σ.set i (some v)) H := ⟨a.ext, a.ok, a.sl.set i r, a.gh, a.own⟩
theorem At.slots (a : At B W Γ ρ σ H) (s : Sl W.m H σ' ρ') : At B W Γ ρ' σ' H := ⟨a.ext, a.ok, s, a.gh, a.own⟩
theorem At.ghost (a : At B W Γ ρ σ H) {v : V} {d : D} (r : Rp W.m H v d) : At B W ((v, d) :: Γ) ρ σ H := ⟨a.ext, a.ok, a.sl, fun p hp => by
  rcases List.mem_cons.mp hp with rfl | h
  · exact r
  · exact a.gh p h, a.own⟩
theorem At.ghosts (a : At B W Γ ρ σ H) {Δ : List (V × D)} (r : ∀ p ∈ Δ, Rp W.m H p.1 p.2) : At B W (Δ ++ Γ) ρ σ H := ⟨a.ext, a.ok, a.sl, fun p hp => by
  rcases List.mem_append.mp hp with h | h
  · exact r p h
  · exact a.gh p h, a.own⟩
theorem At.unghost {Δ : List (V × D)} (a : At B W (Δ ++ Γ) ρ σ H) : At B W Γ ρ σ H := ⟨a.ext, a.ok, a.sl, fun p hp => a.gh p (List.mem_append_right _ hp), a.own⟩
/-- slots forgotten -/
inductive Wk : List (Option D) → List (Option D) → Prop
  | nil : Wk [] []
  | keep {x : Option D} {a b : List (Option D)} : Wk a b → Wk (x :: a) (x :: b)
  | drop {x : Option D} {a b : List (Option D)} : Wk a b → Wk (none :: a) (x :: b)
theorem Wk.at_ : ∀ {a b : List (Option D)}, Wk a b → a.length = b.length ∧ ∀ (i : Nat) (d : D), a[i]? = some (some d) → b[i]? = some (some d)
  | _, _, .nil => ⟨rfl, fun _ _ h => h⟩
  | _, _, .keep w => ⟨by rw [List.length_cons, List.length_cons, (Wk.at_ w).1], fun i d h => by
    cases i with
    | zero => simpa using h
    | succ i => exact (Wk.at_ w).2 i d (by simpa using h)⟩
  | _, _, .drop w => ⟨by rw [List.length_cons, List.length_cons, (Wk.at_ w).1], fun i d h => by
    cases i with
    | zero => simp at h
    | succ i => exact (Wk.at_ w).2 i d (by simpa using h)⟩
theorem At.forget (a : At B W Γ ρ σ H) (w : Wk ρ' ρ) : At B W Γ ρ' σ H := ⟨a.ext, a.ok, ⟨by rw [a.sl.len, w.at_.1], fun i d h => a.sl.at_ i d (w.at_.2 i d h)⟩, a.gh, a.own⟩
end

/-! ### statements -/
def Le (E D : Ends) : Prop := (∀ σ H, E.nx σ H → D.nx σ H) ∧ (∀ v H, E.rt v H → D.rt v H) ∧ (∀ σ H, E.bk σ H → D.bk σ H) ∧ (∀ σ H, E.ct σ H → D.ct σ H)
theorem Le.refl (E : Ends) : Le E E := ⟨fun _ _ h => h, fun _ _ h => h, fun _ _ h => h, fun _ _ h => h⟩
def tS (Φ : St → Hp → Prop) (E : Ends) : TS := fun D σ H => Φ σ H ∧ Le E D
abbrev SS (X : Cx) (Φ : St → Hp → Prop) (sts : List Stmt) (E : Ends) : Prop := PSs X sts (tS Φ E)
section
variable {X : Cx} {B : Bs} {W W' : Res} {Γ : List (V × D)} {ρ : List (Option D)} {P : D → Prop} {e a b c : Expr} {x y d : D} {pos : Pos} {rest : List Stmt} {E : Ends} {Φ Ψ : St → Hp → Prop} {st : Stmt}
theorem SS.pre {sts : List Stmt} (h : SS X Ψ sts E) (k : ∀ σ H, Φ σ H → Ψ σ H) : SS X Φ sts E := PSsimp h fun D σ H ⟨q, l⟩ => ⟨k σ H q, l⟩
theorem SS.ex {α : Type} {Φ : α → St → Hp → Prop} {sts : List Stmt} (h : ∀ i, SS X (Φ i) sts E) : SS X (fun σ H => ∃ i, Φ i σ H) sts E := PSsimp (PSsex h) fun D σ H ⟨⟨i, q⟩, l⟩ => ⟨i, q, l⟩
theorem SS.exP {α : Type} {p : α → Prop} {Φ : α → St → Hp → Prop} {sts : List Stmt} (h : ∀ i, p i → SS X (Φ i) sts E) : SS X (fun σ H => ∃ i, p i ∧ Φ i σ H) sts E := by
  refine SS.ex fun i => ?_
  by_cases q : p i
  · exact (h i q).pre fun σ H z => z.2
  · exact PSsimp (t := fun _ _ _ => False) ⟨fun _ _ _ _ _ _ z => z.elim⟩ fun D σ H ⟨⟨z, _⟩, _⟩ => q z
theorem SS.never {sts : List Stmt} (h : ∀ σ H, ¬ Φ σ H) : SS X Φ sts E := PSsimp (t := fun _ _ _ => False) ⟨fun _ _ _ _ _ _ z => z.elim⟩ fun D σ H ⟨z, _⟩ => h σ H z
theorem ss_nil (k : ∀ σ H, Φ σ H → E.nx σ H) : SS X Φ [] E := PSsimp pss_nil fun D σ H ⟨q, l⟩ => l.1 σ H (k σ H q)
/-- a statement by its reading, then the rest -/
theorem ss_cons {t : TS} (h : PS X st t) (k : ∀ D σ H, Φ σ H → (∀ σ' H', Ψ σ' H' → D.nx σ' H') → (∀ v H, E.rt v H → D.rt v H) → (∀ σ H, E.bk σ H → D.bk σ H) → (∀ σ H, E.ct σ H → D.ct σ H) → t D σ H) (h2 : SS X Ψ rest E) : SS X Φ (st :: rest) E :=
  PSsimp (pss_cons h h2) fun D σ H ⟨q, l⟩ => k { D with nx := tS Ψ E D } σ H q (fun σ' H' z => ⟨z, l⟩) l.2.1 l.2.2.1 l.2.2.2
/-- name = e -/
theorem ss_setP (i : Nat) {n : Str} {p : Pos} (ha : ED X W ρ e P) (h2 : ∀ d, P d → SS X (At B W Γ (ρ.set i (some d))) rest E) (hN : X.N.Nodup := by assumption) (hi : X.N[i]? = some n := by rfl) (hl : Loc X.env.scope n := by first | exact Or.inl rfl | exact Or.inr rfl)
    (hf : X.fn n = true ∨ X.env.scope.names.lookup n = some .local := by first | exact .inl rfl | exact .inr rfl) (hs : swapsWith e (some (.Name n p)) pos.line X.env = pure false := by rfl) : SS X (At B W Γ ρ) (.Assign [.Name n p] e pos :: rest) E :=
  ss_cons (Ψ := fun σ H => ∃ d, P d ∧ At B W Γ (ρ.set i (some d)) σ H) (ps_asg ha (pg_name hN hi hl hf) hs)
    (fun D σ H at_ kn _ _ _ => ⟨at_.ok, at_.sl, fun d v H' e1 ok' p r => kn _ _ ⟨d, p, (at_.go e1 ok').set i r⟩⟩) (SS.exP h2)
theorem ss_set (i : Nat) {n : Str} {p : Pos} (ha : EE X W ρ e d) (h2 : SS X (At B W Γ (ρ.set i (some d))) rest E) (hN : X.N.Nodup := by assumption) (hi : X.N[i]? = some n := by rfl) (hl : Loc X.env.scope n := by first | exact Or.inl rfl | exact Or.inr rfl)
    (hf : X.fn n = true ∨ X.env.scope.names.lookup n = some .local := by first | exact .inl rfl | exact .inr rfl) (hs : swapsWith e (some (.Name n p)) pos.line X.env = pure false := by rfl) : SS X (At B W Γ ρ) (.Assign [.Name n p] e pos :: rest) E :=
  ss_setP i ha (fun z h => by subst h; exact h2) hN hi hl hf hs
/-- return e -/
theorem ss_retP (ha : ED X W ρ e P) (h : ∀ d v σ H, P d → At B W Γ ρ σ H → Rp W.m H v d → E.rt v H) : SS X (At B W Γ ρ) (.Return (some e) pos :: rest) E :=
  ss_cons (Ψ := fun _ _ => False) (ps_ret ha) (fun D σ H at_ _ kr _ _ => ⟨at_.ok, at_.sl, fun d v H' e1 ok' p r => kr v H' (h d v σ H' p (at_.go e1 ok') r)⟩) (SS.never fun _ _ z => z)
/-- if c: body else: orelse, then the rest -/
theorem ss_if {Pt : Bool → Prop} {body orelse : List Stmt} (Ψ : St → Hp → Prop) (ht : TD X W ρ c Pt) (h1 : Pt true → SS X (At B W Γ ρ) body { E with nx := Ψ }) (h2 : Pt false → SS X (At B W Γ ρ) orelse { E with nx := Ψ }) (h3 : SS X Ψ rest E) :
    SS X (At B W Γ ρ) (.If c body orelse pos :: rest) E := by
  have g1 : SS X (fun σ H => Pt true ∧ At B W Γ ρ σ H) body { E with nx := Ψ } := by
    by_cases q : Pt true
    · exact (h1 q).pre fun _ _ z => z.2
    · exact SS.never fun _ _ z => q z.1
  have g2 : SS X (fun σ H => Pt false ∧ At B W Γ ρ σ H) orelse { E with nx := Ψ } := by
    by_cases q : Pt false
    · exact (h2 q).pre fun _ _ z => z.2
    · exact SS.never fun _ _ z => q z.1
  refine ss_cons (Ψ := Ψ) (ps_if ht g1 g2) (fun D σ H at_ kn kr kb kc => ⟨at_.ok, at_.sl, fun u H' e1 ok' p => ?_⟩) h3
  cases u with
  | true => exact iteT ⟨⟨p, at_.go e1 ok'⟩, kn, kr, kb, kc⟩
  | false => exact iteF ⟨⟨p, at_.go e1 ok'⟩, kn, kr, kb, kc⟩
/-- an if whose body does not go on -/
theorem ss_ifr {Pt : Bool → Prop} {body : List Stmt} (ht : TD X W ρ c Pt) (h1 : Pt true → SS X (At B W Γ ρ) body { E with nx := fun _ _ => False }) (h2 : Pt false → SS X (At B W Γ ρ) rest E) : SS X (At B W Γ ρ) (.If c body [] pos :: rest) E :=
  ss_if (fun σ H => Pt false ∧ At B W Γ ρ σ H) ht (fun q => PSsimp (h1 q) fun D σ H ⟨z, l⟩ => ⟨z, fun _ _ f => f.elim, l.2⟩) (fun q => ss_nil fun _ _ z => ⟨q, z⟩) (by
    by_cases q : Pt false
    · exact (h2 q).pre fun _ _ z => z.2
    · exact SS.never fun _ _ z => q z.1)
/-- e as a statement -/
theorem ss_drop (ha : ED X W ρ e P) (h2 : SS X (At B W Γ ρ) rest E) (hs : swapsWith e none pos.line X.env = pure false := by rfl) : SS X (At B W Γ ρ) (.Expr e pos :: rest) E :=
  ss_cons (ps_expr ha hs) (fun D σ H at_ kn _ _ _ => ⟨at_.ok, at_.sl, fun d v H' e1 ok' p r => kn _ _ (at_.go e1 ok')⟩) h2
end

/-! ### targets -/
def setsD (js : List Nat) (ds : List D) (ρ : List (Option D)) : List (Option D) := (js.zip ds).foldl (fun ρ p => ρ.set p.1 (some p.2)) ρ
def setsV (js : List Nat) (vs : List V) (σ : St) : St := (js.zip vs).foldl (fun σ p => σ.set p.1 (some p.2)) σ
/-- js: one name's slot; or the slots of names in a tuple -/
inductive Tgt where
  | one (j : Nat)
  | tup (js : List Nat)
def Tgt.slots : Tgt → List Nat
  | .one j => [j]
  | .tup js => js
def Tgt.put : Tgt → D → List (Option D) → Option (List (Option D))
  | .one j, d, ρ => some (ρ.set j (some d))
  | .tup js, .tup ds, ρ => if ds.length = js.length then some (setsD js ds ρ) else none
  | .tup _, _, _ => none
/-- what assigning to the target does -/
def GT (g : TG) (t : Tgt) : Prop := ∀ {M : Ms} {H : Hp} {v : V} {d : D} {σ : St} {ρ ρ' : List (Option D)}, Rp M H v d → Sl M H σ ρ → t.put d ρ = some ρ' → ∀ Q : St → Hp → Prop, (∀ σ', Sl M H σ' ρ' → (∃ vs, σ' = setsV t.slots vs σ) → Q σ' H) → g v σ H Q
structure GD (X : Cx) (tg : Expr) (g : TG) (t : Tgt) : Prop where
  pg : PG X tg g
  to : GT g t
theorem gt_name (j : Nat) : GT (gName j) (.one j) := fun {M H v d σ ρ ρ'} r s h Q q => by cases h; exact q _ (s.set j r) ⟨[v], rfl⟩
theorem gd_name {X : Cx} {n : Str} {pos : Pos} (j : Nat) (hN : X.N.Nodup) (hi : X.N[j]? = some n := by rfl) (hx : Loc X.env.scope n := by first | exact Or.inl rfl | exact Or.inr rfl)
    (hf : X.fn n = true ∨ X.env.scope.names.lookup n = some .local := by first | exact .inl rfl | exact .inr rfl) : GD X (.Name n pos) (gName j) (.one j) where
  pg := pg_name hN hi hx hf
  to := gt_name j
/-- names in a tuple -/
def gNames : List Nat → TGs
  | [] => gNil
  | j :: js => gCons (gName j) (gNames js)
theorem gns_cons {X : Cx} {n : Str} {pos : Pos} {es : List Expr} {js : List Nat} (j : Nat) (h : PGs X es (gNames js)) (hN : X.N.Nodup := by assumption) (hi : X.N[j]? = some n := by rfl) (hx : Loc X.env.scope n := by first | exact Or.inl rfl | exact Or.inr rfl)
    (hf : X.fn n = true ∨ X.env.scope.names.lookup n = some .local := by first | exact .inl rfl | exact .inr rfl)
    (hs : (assignEach (.Name n pos :: es) X.env).map (·.2) = assign (.Name n pos) X.env :: (assignEach es X.env).map (·.2) := by rfl) : PGs X (.Name n pos :: es) (gNames (j :: js)) := pgs_cons (pg_name hN hi hx hf) h hs
theorem gns_nil {X : Cx} : PGs X [] (gNames []) := pgs_nil
theorem gNames_to {M : Ms} {H : Hp} : ∀ {js : List Nat} {vs : List V} {ds : List D} {σ : St} {ρ : List (Option D)}, RpL M H vs ds → Sl M H σ ρ → ds.length = js.length →
    ∀ Q : St → Hp → Prop, (∀ σ', Sl M H σ' (setsD js ds ρ) → σ' = setsV js vs σ → Q σ' H) → gNames js vs σ H Q
  | [], _, _, _, _, .nil, s, _, Q, q => ⟨rfl, q _ s rfl⟩
  | [], _, _, _, _, .cons _ _, _, h, _, _ => by cases h
  | _ :: _, _, _, _, _, .nil, _, h, _, _ => by cases h
  | j :: js, _, _, σ, ρ, .cons (v := v) (d := d) (vs := vs) (ds := ds) r l, s, h, Q, q => ⟨v, vs, rfl, gNames_to l (s.set j r) (by simpa using h) Q fun σ' s' e => q σ' s' e⟩
theorem gt_tup {K : PySem.W.Frag} (js : List Nat) : GT (gTup K js.length (gNames js)) (.tup js) := fun {M H v d σ ρ ρ'} r s hp Q q => by
  cases d with
  | tup ds =>
    simp only [Tgt.put] at hp
    split at hp
    · rename_i hl
      cases hp
      obtain ⟨a, xs, rfl, n, e, l⟩ := r.tupI
      exact ⟨a, xs, rfl, .inl (.inl e), by rw [l.length, hl], gNames_to l s hl Q fun σ' s' e' => q σ' s' ⟨xs, e'⟩⟩
    · cases hp
  | _ => cases hp
theorem gd_tup {X : Cx} {es : List Expr} {k : Nat} {js : List Nat} {pos : Pos} (hc : X.calm = true) (h : PGs X es (gNames js)) (hn : (assignEach es X.env).length = js.length := by rfl) (hst : (assignEach es X.env).findIdx? (·.1) = none := by rfl) :
    GD X (.Tuple es k pos) (gTup X.K js.length (gNames js)) (.tup js) := ⟨pg_tup hc h hn hst, gt_tup js⟩
theorem ss_unpack {X : Cx} {B : Bs} {W : Res} {Γ : List (V × D)} {ρ : List (Option D)} {P : D → Prop} {e tg : Expr} {g : TG} {t : Tgt} {pos : Pos} {rest : List Stmt} {E : Ends} (G : GD X tg g t) (ha : ED X W ρ e P) (hp : ∀ d, P d → ∃ ρ', t.put d ρ = some ρ' ∧ SS X (At B W Γ ρ') rest E)
    (hs : swapsWith e (some tg) pos.line X.env = pure false := by rfl) (hw : swappedStores [tg] e X.env = pure none := by rfl) (h1 : (assignEach [tg] X.env).map (·.2) = [assign tg X.env] := by rfl) : SS X (At B W Γ ρ) (.Assign [tg] e pos :: rest) E :=
  ss_cons (Ψ := fun σ H => ∃ q : D × List (Option D), (P q.1 ∧ t.put q.1 ρ = some q.2) ∧ At B W Γ q.2 σ H) (ps_asg ha G.pg hs hw h1)
    (fun D σ H at_ kn _ _ _ => ⟨at_.ok, at_.sl, fun d v H' e1 ok' p r => by
      obtain ⟨ρ', h1, _⟩ := hp d p
      have a2 := at_.go e1 ok'
      exact G.to r a2.sl h1 _ fun σ' s' _ => kn _ _ ⟨(d, ρ'), ⟨p, h1⟩, a2.slots s'⟩⟩)
    (SS.exP fun q ⟨p, h1⟩ => by
      obtain ⟨ρ', h2, h3⟩ := hp q.1 p
      rw [h1] at h2
      cases h2
      exact h3)

/-! ### what is walked -/
structure WalkD (J : It) (Δ : List (V × D)) (xs : List D) : Prop where
  go : ∀ (M : Ms) (H : Hp) (i : Nat), (∀ p ∈ Δ, Rp M H p.1 p.2) → i < xs.length → J.go i H
  stop : ∀ (M : Ms) (H : Hp), (∀ p ∈ Δ, Rp M H p.1 p.2) → J.stop xs.length H
  yld : ∀ (M : Ms) (H : Hp) (i : Nat) (x : V) (H' : Hp), (∀ p ∈ Δ, Rp M H p.1 p.2) → i < xs.length → J.yld i H x H' → ∃ d, xs[i]? = some d ∧ (∀ a o, H a = some o → H' a = some o) ∧ (∀ a, H' a = none → H a = none) ∧ ((∀ a, M a → H a ≠ none) → Rp M H' x d)
def iD (W : Res) (ρ : List (Option D)) (P : List D → Prop) : TI := fun σ H R => W.ok H ∧ Sl W.m H σ ρ ∧ ∀ J H1 Δ xs, P xs → Ext W.m H H1 → W.ok H1 → (∀ p ∈ Δ, Rp W.m H1 p.1 p.2) → WalkD J Δ xs → R J H1
abbrev ID (X : Cx) (tg : Expr) (W : Res) (ρ : List (Option D)) (e : Expr) (P : List D → Prop) : Prop := PI X tg e (iD W ρ P)
theorem walk_l {K : PySem.W.Frag} {v : V} {ds : List D} {a : Addr} (hv : v = .ref a) : WalkD (Itl K a) [(v, .lst ds)] ds where
  go := fun M H i h hi => by
    obtain ⟨b, xs, e, n, e2, l⟩ := (h _ List.mem_cons_self).lstI
    rw [hv] at e; cases e
    have hx : i < xs.length := by rw [l.length]; exact hi
    exact ⟨xs, xs[i], .inl (.inl e2), by simp [hx]⟩
  stop := fun M H h => by
    obtain ⟨b, xs, e, n, e2, l⟩ := (h _ List.mem_cons_self).lstI
    rw [hv] at e; cases e
    exact ⟨xs, .inl (.inl e2), Nat.le_of_eq l.length⟩
  yld := fun M H i x H' h hi y => by
    obtain ⟨b, xs, e, n, e2, l⟩ := (h _ List.mem_cons_self).lstI
    rw [hv] at e; cases e
    obtain ⟨rfl, y⟩ := y
    obtain ⟨d, hd, r⟩ := l.got (y xs (.inl (.inl e2)))
    exact ⟨d, hd, fun _ _ z => z, fun _ z => z, fun _ => r⟩
theorem walk_t {K : PySem.W.Frag} {v : V} {ds : List D} {a : Addr} (hv : v = .ref a) : WalkD (Itt K a) [(v, .tup ds)] ds where
  go := fun M H i h hi => by
    obtain ⟨b, xs, e, n, e2, l⟩ := (h _ List.mem_cons_self).tupI
    rw [hv] at e; cases e
    have hx : i < xs.length := by rw [l.length]; exact hi
    exact ⟨xs, xs[i], .inl (.inl e2), by simp [hx]⟩
  stop := fun M H h => by
    obtain ⟨b, xs, e, n, e2, l⟩ := (h _ List.mem_cons_self).tupI
    rw [hv] at e; cases e
    exact ⟨xs, .inl (.inl e2), Nat.le_of_eq l.length⟩
  yld := fun M H i x H' h hi y => by
    obtain ⟨b, xs, e, n, e2, l⟩ := (h _ List.mem_cons_self).tupI
    rw [hv] at e; cases e
    obtain ⟨rfl, y⟩ := y
    obtain ⟨d, hd, r⟩ := l.got (y xs (.inl (.inl e2)))
    exact ⟨d, hd, fun _ _ z => z, fun _ z => z, fun _ => r⟩
def rngD (lo : Int) (n : Nat) : List D := (List.range n).map fun i => D.int (lo + (i : Nat))
theorem walk_r {lo : Int} {n : Nat} : WalkD (Itr lo n) [] (rngD lo n) where
  go := fun M H i _ hi => by unfold rngD at hi; show i < n; simpa using hi
  stop := fun M H _ => by unfold rngD; simp [Itr]
  yld := fun M H i x H' _ hi y => by
    obtain ⟨rfl, rfl⟩ := y
    unfold rngD at hi
    have hi' : i < n := by simpa using hi
    exact ⟨.int (lo + i), by unfold rngD; simp [hi'], fun _ _ z => z, fun _ z => z, fun _ => .int _⟩
def signs (z : Str) : List D := z.cps.toList.map fun c => D.str ⟨#[c]⟩
theorem walk_s {z : Str} : WalkD (Its z) [] (signs z) where
  go := fun M H i _ hi => by unfold signs at hi; simpa [Its] using hi
  stop := fun M H _ => by unfold signs; simp [Its]
  yld := fun M H i x H' _ hi y => by
    obtain ⟨rfl, c, hc, rfl⟩ := y
    exact ⟨.str ⟨#[c]⟩, by unfold signs; rw [List.getElem?_map, Array.getElem?_toList, hc]; rfl, fun _ _ z => z, fun _ z => z, fun _ => .str _⟩
section
variable {X : Cx} {tg : Expr} {W : Res} {ρ : List (Option D)} {e a b : Expr}
theorem id_lstP {P : List D → Prop} (ha : ED X W ρ e (fun z => ∃ ds, z = .lst ds ∧ P ds)) : ID X tg W ρ e P :=
  PIimp (pi_list ha) fun σ H R ⟨ok, sl, q⟩ => ⟨ok, sl, fun z v H' e1 ok' ⟨ds, hz, p⟩ r => by
    subst hz
    obtain ⟨b, xs, rfl, n, e2, l⟩ := id r.lstI
    exact ⟨b, rfl, ⟨xs, .inl (.inl e2)⟩, q _ H' [(.ref b, .lst ds)] ds p e1 ok' (fun p hp => by simp at hp; subst hp; exact r) (walk_l rfl)⟩⟩
theorem id_lst {ds : List D} (ha : EE X W ρ e (.lst ds)) : ID X tg W ρ e (fun z => z = ds) := id_lstP (ED.imp ha fun z h => ⟨ds, h, rfl⟩)
theorem id_tup {ds : List D} (ha : EE X W ρ e (.tup ds)) : ID X tg W ρ e (fun z => z = ds) :=
  PIimp (pi_tup ha) fun σ H R ⟨ok, sl, q⟩ => ⟨ok, sl, fun z v H' e1 ok' hz r => by
    subst hz
    obtain ⟨b, xs, rfl, n, e2, l⟩ := id r.tupI
    exact ⟨b, rfl, ⟨xs, .inl (.inl e2)⟩, q _ H' [(.ref b, .tup ds)] ds rfl e1 ok' (fun p hp => by simp at hp; subst hp; exact r) (walk_t rfl)⟩⟩
theorem id_str {z : Str} (ha : EE X W ρ e (.str z)) : ID X tg W ρ e (fun y => y = signs z) :=
  PIimp (pi_str ha) fun σ H R ⟨ok, sl, q⟩ => ⟨ok, sl, fun d v H' e1 ok' hz r => by
    subst hz
    cases r
    exact ⟨z, rfl, q _ H' [] _ rfl e1 ok' (fun p hp => by cases hp) walk_s⟩⟩
theorem id_range1P {P : Int → Prop} {p pos : Pos} (hm : X.mg "range" = none) (ha : ED X W ρ a (fun z => ∃ i, z = .int i ∧ P i)) (hb : ∀ i, P i → i ≤ 100000 ∧ -100000 ≤ i) (hg : Gl X "range" := by rfl) (hs : starEach [a] X.env = [(false, eval a X.env)] := by rfl) :
    ID X tg W ρ (.Call (.Name "range" p) [a] [] pos) (fun z => ∃ i, P i ∧ z = rngD 0 i.toNat) :=
  PIimp (pi_range1 hg hm (ad_consP ha ad_nil hs) hs) fun σ H R ⟨ok, sl, q⟩ => ⟨ok, sl, fun ds vs H' e1 ok' ⟨d, _, h1, ⟨i, h2, h3⟩, h4⟩ r => by
    subst h1 h2 h4
    obtain ⟨v, rfl, r1⟩ := r.one
    cases r1
    have := hb i h3
    exact ⟨i, rfl, by omega, by omega, q _ H' [] _ ⟨i, h3, rfl⟩ e1 ok' (fun p hp => by cases hp) walk_r⟩⟩
theorem id_range1 {i : Int} {p pos : Pos} (hm : X.mg "range" = none) (ha : EE X W ρ a (.int i)) (hb : i ≤ 100000 ∧ -100000 ≤ i) (hg : Gl X "range" := by rfl) (hs : starEach [a] X.env = [(false, eval a X.env)] := by rfl) :
    ID X tg W ρ (.Call (.Name "range" p) [a] [] pos) (fun z => z = rngD 0 i.toNat) :=
  PIimp (id_range1P (P := fun j => j = i) hm (ED.imp ha fun z h => ⟨i, h, rfl⟩) (fun j h => by subst h; exact hb) hg hs) fun σ H R ⟨ok, sl, q⟩ => ⟨ok, sl, fun J H1 Δ xs ⟨j, h1, h2⟩ => q J H1 Δ xs (by rw [h2, h1])⟩
theorem id_range2 {i j : Int} {p pos : Pos} (hm : X.mg "range" = none) (ha : EE X W ρ a (.int i)) (hb : EE X W ρ b (.int j)) (hi : -100000 ≤ i ∧ i ≤ 100000 ∧ -100000 ≤ j ∧ j ≤ 100000) (hg : Gl X "range" := by rfl) (hs : starEach [a, b] X.env = [(false, eval a X.env), (false, eval b X.env)] := by rfl) (hs2 : starEach [b] X.env = [(false, eval b X.env)] := by rfl) :
    ID X tg W ρ (.Call (.Name "range" p) [a, b] [] pos) (fun z => z = rngD i (j - i).toNat) :=
  PIimp (pi_range2 hg hm (ad_cons ha (ad_cons hb ad_nil hs2) (by rw [hs, hs2])) hs hs2) fun σ H R ⟨ok, sl, q⟩ => ⟨ok, sl, fun ds vs H' e1 ok' h1 r => by
    subst h1
    obtain ⟨v, v2, rfl, r, r2⟩ := r.two
    cases r; cases r2
    exact ⟨i, j, rfl, ⟨by omega, by omega, by omega, by omega⟩, q _ H' [] _ rfl e1 ok' (fun p hp => by cases hp) walk_r⟩⟩
end

/-! ### for -/
section
variable {X : Cx} {B : Bs} {W : Res} {Γ : List (V × D)} {ρ : List (Option D)} {P : D → Prop} {iter tg : Expr} {pos : Pos} {body rest : List Stmt} {E : Ends} {Φ Ψ : St → Hp → Prop}
/-- the state of a loop: one of a family -/
def Lp (B : Bs) {α : Type} (R : Nat → α → Prop) (Wf : α → Res) (ρf : α → List (Option D)) (Γ : List (V × D)) (i : Nat) : St → Hp → Prop := fun σ H => ∃ a, R i a ∧ At B (Wf a) Γ (ρf a) σ H
theorem ss_for {α : Type} {g : TG} {t : Tgt} {Px : List D → Prop} (R : List D → Nat → α → Prop) (Wf : α → Res) (ρf : α → List (Option D)) (a0 : α) (hW : Wf a0 = W) (hρ : ρf a0 = ρ) (Ψ : St → Hp → Prop) (hp : PassesOwn (model X.prog X.w) X.A X.env X.xe) (hc : X.calm = true)
    (hI : ID X tg W ρ iter Px) (G : GD X tg g t) (h0 : ∀ xs, Px xs → R xs 0 a0)
    (hdom : ∀ xs i a, R xs i a → i < xs.length → ∀ d, xs[i]? = some d → ∃ ρ', t.put d (ρf a) = some ρ')
    (hb : ∀ xs, Px xs → ∀ Γ' i x a ρ', xs[i]? = some x → R xs i a → t.put x (ρf a) = some ρ' → SS X (At B (Wf a) Γ' ρ') body { E with nx := Lp B (R xs) Wf ρf Γ' (i + 1), ct := Lp B (R xs) Wf ρf Γ' (i + 1), bk := fun σ H => ∃ Δ, Γ' = Δ ++ Γ ∧ Ψ σ H })
    (hΨ : ∀ xs, Px xs → ∀ a σ H, R xs xs.length a → At B (Wf a) Γ (ρf a) σ H → Ψ σ H)
    (h2 : SS X Ψ rest E) (hs : ∀ x, foldedSetIterable iter X.env x = pure x := by intro _; rfl) : SS X (At B W Γ ρ) (.For tg iter body [] pos :: rest) E := by
  subst hW hρ
  -- the body for every turn
  have hbody : PSs X body (fun Dn σ H => ∃ q : List D × List (V × D) × Nat × D × α × List (Option D), (Px q.1 ∧ q.1[q.2.2.1]? = some q.2.2.2.1 ∧ R q.1 q.2.2.1 q.2.2.2.2.1 ∧ q.2.2.2.1 = q.2.2.2.1 ∧ t.put q.2.2.2.1 (ρf q.2.2.2.2.1) = some q.2.2.2.2.2) ∧
      tS (At B (Wf q.2.2.2.2.1) q.2.1 q.2.2.2.2.2) { E with nx := Lp B (R q.1) Wf ρf q.2.1 (q.2.2.1 + 1), ct := Lp B (R q.1) Wf ρf q.2.1 (q.2.2.1 + 1), bk := fun σ H => ∃ Δ, q.2.1 = Δ ++ Γ ∧ Ψ σ H } Dn σ H) := by
    refine PSsex fun q => ?_
    by_cases c : Px q.1 ∧ q.1[q.2.2.1]? = some q.2.2.2.1 ∧ R q.1 q.2.2.1 q.2.2.2.2.1 ∧ q.2.2.2.1 = q.2.2.2.1 ∧ t.put q.2.2.2.1 (ρf q.2.2.2.2.1) = some q.2.2.2.2.2
    · exact PSsimp (hb q.1 c.1 q.2.1 q.2.2.1 q.2.2.2.1 q.2.2.2.2.1 q.2.2.2.2.2 c.2.1 c.2.2.1 c.2.2.2.2) fun D σ H z => z.2
    · exact PSsimp (t := fun _ _ _ => False) ⟨fun _ _ _ _ _ _ z => z.elim⟩ fun D σ H z => c z.1
  refine ss_cons (ps_for hp hc hI G.pg hbody hs) (fun D σ H at_ kn kr kb kc => ⟨at_.ok, at_.sl, fun J H1 Δ xs px e1 ok1 dr wk => ?_⟩) h2
  have at1 := (at_.go e1 ok1).ghosts dr
  refine ⟨fun i m σ H => i + m = xs.length ∧ Lp B (R xs) Wf ρf (Δ ++ Γ) i σ H, ⟨xs.length, by omega, a0, h0 xs px, at1⟩, ?_⟩
  rintro i m σ H ⟨him, a, ra, at2⟩
  have gh : ∀ p ∈ Δ, Rp (Wf a).m H p.1 p.2 := fun p hp => at2.gh p (List.mem_append_left _ hp)
  by_cases hi : i < xs.length
  · refine .inr ⟨wk.go _ H i gh hi, fun σ' H' => Lp B (R xs) Wf ρf (Δ ++ Γ) (i + 1) σ' H', fun σ' H' z => ⟨m - 1, by omega, by omega, z⟩, fun x H' y => ?_⟩
    obtain ⟨d, hd, keep, dm, rp⟩ := wk.yld _ H i x H' gh hi y
    have rx := rp fun b hb => (Wf a).dom at2.ok hb
    have at3 := at2.go (H' := H') ⟨fun b o _ z => keep b o z, dm⟩ ((Wf a).same at2.ok keep)
    obtain ⟨ρ', hρ'⟩ := hdom xs i a ra hi d hd
    refine G.to rx at3.sl hρ' _ fun σ' s' _ => ⟨(xs, Δ ++ Γ, i, d, a, ρ'), ⟨px, hd, ra, rfl, hρ'⟩, at3.slots s', fun _ _ z => z, kr, fun σ2 H2 ⟨_, _, z⟩ => kn σ2 H2 z, fun _ _ z => z⟩
  · have e : i = xs.length := by omega
    subst e
    exact .inl ⟨wk.stop _ H gh, kn σ H (hΨ xs px a σ H ra at2.unghost)⟩
end
end K14

set_option Elab.async false
set_option linter.all false
set_option maxRecDepth 100000
set_option maxHeartbeats 4000000
namespace K14
open PySem L2
/-! ### worlds -/
def RLe (W W' : Res) : Prop := (∀ a, W.m a → W'.m a) ∧ ∀ M H, W'.I M H → W.I M H
theorem RLe.refl {W : Res} : RLe W W := ⟨fun _ h => h, fun _ _ h => h⟩
theorem RLe.add {W W' : Res} (h : RLe W W') {l : Addr} {c : Cell} : RLe W (W'.add l c) := ⟨fun a m => .inl (h.1 a m), fun M H z => h.2 M H z.1⟩
theorem RLe.ok {W W' : Res} (h : RLe W W') {H : Hp} (z : W'.ok H) : W.ok H := W.shrink (h.2 _ _ z) h.1
theorem RLe.rp {W W' : Res} (h : RLe W W') {H : Hp} {v : V} {d : D} (r : Rp W'.m H v d) : Rp W.m H v d := r.mono (keeps_shrink h.1)
section
variable {B : Bs} {W W1 : Res} {Γ : List (V × D)} {ρ ρ' : List (Option D)} {σ σ' : St} {H H' : Hp} {l : Addr}
/-- a fresh object is taken into the world -/
theorem At.alloc (a : At B W Γ ρ σ H) (n : H l = none) {o : HO} {c : Cell} (hc : c.I (W.add l c).m (upd H l o) l) : At B (W.add l c) Γ ρ σ (upd H l o) := by
  have g : ∀ b, (W.add l c).m b → W.m b ∨ (H b = none) := fun b m => m.elim .inl fun z => .inr (by rw [z]; exact n)
  have k : Keeps W.m (W.add l c).m H (upd H l o) := fun b u nb hb => ⟨fun z => (g b z).elim nb (fun z => by rw [z] at hb; cases hb), by rw [upd_ne (ne_of_none hb n)]; exact hb⟩
  exact ⟨a.ext.trans (.new n), ⟨W.stab (W.grow a.ok g) (fun b m => upd_ne fun z => W.dom a.ok m (by rw [z]; exact n)) (fun b u _ hb => by rw [upd_ne (ne_of_none hb n)]; exact hb), hc⟩, a.sl.mono k, fun p hp => (a.gh p hp).mono k,
    fun b m => m.elim (a.own b) fun z => .inr (by rw [z]; exact a.ext.dom l n)⟩
/-- an owned object changes -/
theorem At.upd {c c' : Cell} (a : At B (W.add l c) Γ ρ σ H) (hl : ¬ W.m l) {o : HO} (hc : c'.I (W.add l c).m (upd H l o) l) : At B (W.add l c') Γ ρ σ (L2.upd H l o) := by
  obtain ⟨u, hu⟩ : ∃ u, H l = some u := Option.ne_none_iff_exists'.mp (c.dom a.ok.2)
  have e : Ext (W.add l c).m H (L2.upd H l o) := .mut (.inr rfl) hu
  exact ⟨ext_own a.own a.ext e, ⟨W.stab a.ok.1 (fun b m => upd_ne fun z => hl (z ▸ m)) (fun b u n hb => e.keep b u n hb), hc⟩, a.sl.ext e, fun p hp => (a.gh p hp).ext e, a.own⟩
theorem set_at {ρ : List (Option D)} {i : Nat} {d e : D} {j : Nat} (h : (ρ.set i (some d))[j]? = some (some e)) : (j = i ∧ e = d) ∨ ρ[j]? = some (some e) := by
  by_cases q : j = i
  · subst q
    have hl : j < ρ.length := by
      have := (List.getElem?_eq_some_iff.mp h).1
      rwa [List.length_set] at this
    rw [List.getElem?_set_self hl] at h
    cases h
    exact .inl ⟨rfl, rfl⟩
  · rw [List.getElem?_set_ne (Ne.symm q)] at h
    exact .inr h
/-- an owned list will change no more -/
theorem At.freeze {ds : List D} (a : At B (W.add l (ownL ds)) Γ ρ σ H) (hl : ¬ W.m l) {i : Nat} (hi : ρ[i]? = some (some (.obj l))) : At B W Γ (ρ.set i (some (.lst ds))) σ H := by
  have k : Keeps (W.add l (ownL ds)).m W.m H H := keeps_shrink fun b m => .inl m
  refine ⟨a.ext, W.shrink a.ok.1 fun b m => .inl m, ⟨by rw [List.length_set]; exact a.sl.len, fun j d h => ?_⟩, fun p hp => (a.gh p hp).mono k, fun b m => a.own b (.inl m)⟩
  rcases set_at h with ⟨rfl, rfl⟩ | h
  · obtain ⟨v, e, r⟩ := a.sl.at_ _ _ hi
    cases r
    obtain ⟨vs, e2, r2⟩ := a.ok.2
    exact ⟨.ref l, e, .lst hl e2 (r2.mono k)⟩
  · obtain ⟨v, e, r⟩ := a.sl.at_ _ _ h
    exact ⟨v, e, r.mono k⟩
theorem At.freezeT {ds : List (List Int × D)} (a : At B (W.add l (ownT ds)) Γ ρ σ H) (hl : ¬ W.m l) {i : Nat} (hi : ρ[i]? = some (some (.obj l))) : At B W Γ (ρ.set i (some (.dic ds))) σ H := by
  have k : Keeps (W.add l (ownT ds)).m W.m H H := keeps_shrink fun b m => .inl m
  refine ⟨a.ext, W.shrink a.ok.1 fun b m => .inl m, ⟨by rw [List.length_set]; exact a.sl.len, fun j d h => ?_⟩, fun p hp => (a.gh p hp).mono k, fun b m => a.own b (.inl m)⟩
  rcases set_at h with ⟨rfl, rfl⟩ | h
  · obtain ⟨v, e, r⟩ := a.sl.at_ _ _ hi
    cases r
    obtain ⟨vs, e2, r2⟩ := a.ok.2
    exact ⟨.ref l, e, .dic hl e2 (r2.mono k)⟩
  · obtain ⟨v, e, r⟩ := a.sl.at_ _ _ h
    exact ⟨v, e, r.mono k⟩
theorem Res.swap_m {W : Res} {l1 l2 : Addr} {c1 c2 : Cell} : ((W.add l1 c1).add l2 c2).m = ((W.add l2 c2).add l1 c1).m := by
  funext a
  exact propext ⟨fun h => h.elim (fun h => h.elim (fun z => .inl (.inl z)) .inr) fun z => .inl (.inr z), fun h => h.elim (fun h => h.elim (fun z => .inl (.inl z)) .inr) fun z => .inl (.inr z)⟩
theorem Res.swap {W : Res} {l1 l2 : Addr} {c1 c2 : Cell} : (W.add l1 c1).add l2 c2 = (W.add l2 c2).add l1 c1 := by
  have e1 := @Res.swap_m W l1 l2 c1 c2
  have e2 : ((W.add l1 c1).add l2 c2).I = ((W.add l2 c2).add l1 c1).I := by
    funext M H
    exact propext ⟨fun ⟨⟨a, b⟩, c⟩ => ⟨⟨a, c⟩, b⟩, fun ⟨⟨a, b⟩, c⟩ => ⟨⟨a, c⟩, b⟩⟩
  unfold Res.add at e1 e2 ⊢
  simp only [Res.mk.injEq]
  exact ⟨e1, e2⟩
end
section
variable {X : Cx} {B : Bs} {W : Res} {Γ : List (V × D)} {ρ : List (Option D)} {P : D → Prop} {e a b c : Expr} {x y d : D} {pos : Pos} {rest : List Stmt} {E : Ends} {l : Addr}
theorem ss_freeze (i : Nat) {ds : List D} (hl : ¬ W.m l) (h : SS X (At B W Γ (ρ.set i (some (.lst ds)))) rest E) (hi : ρ[i]? = some (some (.obj l)) := by rfl) : SS X (At B (W.add l (ownL ds)) Γ ρ) rest E := h.pre fun σ H a => a.freeze hl hi
theorem ss_freezeT (i : Nat) {ds : List (List Int × D)} (hl : ¬ W.m l) (h : SS X (At B W Γ (ρ.set i (some (.dic ds)))) rest E) (hi : ρ[i]? = some (some (.obj l)) := by rfl) : SS X (At B (W.add l (ownT ds)) Γ ρ) rest E := h.pre fun σ H a => a.freezeT hl hi
/-- name = [], to be filled -/
theorem ss_newL (i : Nat) {n : Str} {p p2 : Pos} (h2 : ∀ l, ¬ W.m l → SS X (At B (W.add l (ownL [])) Γ (ρ.set i (some (.obj l)))) rest E) (hN : X.N.Nodup := by assumption) (hi : X.N[i]? = some n := by rfl) (hl : Loc X.env.scope n := by first | exact Or.inl rfl | exact Or.inr rfl)
    (hf : X.fn n = true ∨ X.env.scope.names.lookup n = some .local := by first | exact .inl rfl | exact .inr rfl) (hs : swapsWith (.List [] p2) (some (.Name n p)) pos.line X.env = pure false := by rfl) : SS X (At B W Γ ρ) (.Assign [.Name n p] (.List [] p2) pos :: rest) E :=
  ss_cons (Ψ := fun σ H => ∃ l, ¬ W.m l ∧ At B (W.add l (ownL [])) Γ (ρ.set i (some (.obj l))) σ H) (ps_asg (pe_lst pa_nil) (pg_name hN hi hl hf) hs)
    (fun Dn σ H at_ kn _ _ _ => ⟨by show 0 ≤ sizeLine; decide, fun p hp => kn _ _ ⟨p, W.fresh at_.ok hp, (at_.alloc (c := ownL []) hp ⟨[], upd_same, .nil⟩).set i (.obj p)⟩⟩) (SS.exP h2)
theorem ty_lst {K : PySem.W.Frag} {H : Hp} {a : Addr} {xs : List V} (h : H a = some (.lst xs)) : tyV K "list" (.ref a) H := Or.inl ⟨rfl, _, Or.inl (Or.inl h)⟩
/-- xs.append(e), xs owned -/
theorem ss_append (i : Nat) {n : Str} {p apos cpos : Pos} {ds : List D} (hl : ¬ W.m l) (ha : ED X (W.add l (ownL ds)) ρ e P) (hz : ds.length < 100000) (h2 : ∀ d, P d → SS X (At B (W.add l (ownL (ds ++ [d]))) Γ ρ) rest E) (hi : ρ[i]? = some (some (.obj l)) := by rfl)
    (hN : X.N[i]? = some n := by rfl) (hv : Vis X.env.scope n := by first | exact Or.inl rfl | exact Or.inr (Or.inl rfl) | exact Or.inr (Or.inr rfl)) (hd : (n == ("__debug__" : Str)) = false := by decide) (hcd : (n == ("__classdict__" : Str)) = false := by decide)
    (hst : starEach [e] X.env = (false, eval e X.env) :: starEach [] X.env := by rfl) (hs : swapsWith (.Call (.Attribute (.Name n p) "append" apos) [e] [] cpos) none pos.line X.env = pure false := by rfl)
    (hbase : attributeBase (.Name n p) "append" X.env (eval (.Name n p) X.env) = eval (.Name n p) X.env := by rfl) (hline : (apos.endLine == cpos.line) = true := by rfl)
    (hfew : ((backTo cpos (starEach [e] X.env)).all (fun x => !x.1) && (backToKw cpos (keywordEach [] X.env)).all (fun x => x.1.isSome) && decide (([e] : List Expr).length + ([] : List Keyword).length + (if ([] : List Keyword).isEmpty then 0 else 1) < 30)) = true := by rfl) :
    SS X (At B (W.add l (ownL ds)) Γ ρ) (.Expr (.Call (.Attribute (.Name n p) "append" apos) [e] [] cpos) pos :: rest) E :=
  ss_cons (Ψ := fun σ H => ∃ d, P d ∧ At B (W.add l (ownL (ds ++ [d]))) Γ ρ σ H) (ps_expr (pe_bm PySem.F.plainAttrs_list PySem.F.slot_list_append PySem.F.type_list_append mt_append (pe_var hN hv hd hcd) (pa_cons ha pa_nil hst) hbase hfew hline hst) hs)
    (fun Dn σ H at_ kn _ _ _ => by
      obtain ⟨v, ev, rv⟩ := at_.sl.at_ _ _ hi
      cases rv
      obtain ⟨vs, e0, r0⟩ := at_.ok.2
      refine ⟨.ref l, ev, ty_lst e0, at_.ok, at_.sl, fun d v H' e1 ok' pd r => ?_⟩
      obtain ⟨us, e2, r2⟩ := id ok'.2
      refine ⟨l, us, v, rfl, rfl, e2, by rw [r2.length]; exact sz_lt hz, kn _ _ ⟨d, pd, ?_⟩⟩
      have a2 := at_.go e1 ok'
      have ex : Ext (W.add l (ownL ds)).m H' (upd H' l (.lst (us ++ [v]))) := .mut (.inr rfl) e2
      exact a2.upd (c' := ownL (ds ++ [d])) hl ⟨us ++ [v], upd_same, (r2.ext ex).append (.cons (r.ext ex) .nil)⟩) (SS.exP h2)
end

/-! ### what a def promises -/
def Rt (B : Bs) (W : Res) (P : D → Prop) : VK := fun v H => ∃ d, P d ∧ Ext B.M B.H H ∧ W.ok H ∧ Rp W.m H v d
def FE (B : Bs) (W : Res) (P : D → Prop) : Ends := { nx := fun _ H => Rt B W P .non H, rt := Rt B W P }
/-- data in, data out: ok ds P tells that from ds comes some d with P d -/
def spN (ok : List D → (D → Prop) → Prop) : Sp := fun vs H Q _ => ∃ (W : Res) (ds : List D) (P : D → Prop), W.ok H ∧ RpL W.m H vs ds ∧ ok ds P ∧ ∀ d v H', Ext W.m H H' → W.ok H' → P d → Rp W.m H' v d → Q v H'
section
variable {X : Cx} {B : Bs} {W W' : Res} {Γ : List (V × D)} {ρ : List (Option D)} {P P' : D → Prop} {e a b c : Expr} {pos : Pos} {rest : List Stmt} {E : Ends}
theorem ss_retP2 (ha : ED X W' ρ e P') (hP : ∀ d, P' d → P d) (hle : RLe W W') (hE : E.rt = Rt B W P := by rfl) : SS X (At B W' Γ ρ) (.Return (some e) pos :: rest) E :=
  ss_retP ha fun d v σ H p at_ r => by rw [hE]; exact ⟨d, hP d p, at_.ext, hle.ok at_.ok, hle.rp r⟩
/-- return e; e's value is just d -/
theorem ss_ret {d : D} (ha : EE X W ρ e d) (hE : E.rt = Rt B W P := by rfl) (hP : P d := by exact rfl) : SS X (At B W Γ ρ) (.Return (some e) pos :: rest) E := ss_retP2 ha (fun z h => by rw [h]; exact hP) .refl hE
theorem ss_skip {u : Bool} {body : List Stmt} (ht : TB X W ρ c u) (hu : u = false) (h2 : SS X (At B W Γ ρ) rest E) : SS X (At B W Γ ρ) (.If c body [] pos :: rest) E := ss_ifr ht (fun h => by rw [hu] at h; cases h) fun _ => h2
theorem ss_take {u : Bool} {body : List Stmt} (ht : TB X W ρ c u) (hu : u = true) (h1 : SS X (At B W Γ ρ) body { E with nx := fun _ _ => False }) : SS X (At B W Γ ρ) (.If c body [] pos :: rest) E := ss_ifr ht (fun _ => h1) fun h => by rw [hu] at h; cases h
theorem start_sl {M : Ms} {H : Hp} {N : List Str} {vs : List V} {ds : List D} (l : RpL M H vs ds) : Sl M H (L2.start N vs) (ds.map some ++ List.replicate (N.length - ds.length) none) := by
  refine ⟨by unfold L2.start; simp [l.length], fun i d h => ?_⟩
  have hi : i < ds.length := by
    by_cases q : i < ds.length
    · exact q
    · rw [List.getElem?_append_right (by simpa using q), List.getElem?_replicate] at h
      split at h <;> cases h
  rw [List.getElem?_append_left (by simpa using hi), List.getElem?_map] at h
  cases e : ds[i]? with
  | none => rw [e] at h; cases h
  | some d' =>
    rw [e] at h
    cases h
    obtain ⟨v, ev, r⟩ := l.get e
    refine ⟨v, ?_, r⟩
    unfold L2.start
    rw [List.getElem?_append_left (by simp [l.length]; exact hi), List.getElem?_map, ev]
    rfl
end
section
variable {P : Program} {w : World} {K : PySem.W.Frag} {mg : Str → Option Value} {base : Heap} {x qual : Str} {params : Arguments} {body : List Stmt} {scope : Scope} {f : Addr} {fd : FuncData}
/-- a def that raises nothing -/
theorem fn_data {N ps : List Str} {k : Nat} {ok : List D → (D → Prop) → Prop} (F : FunD K x qual params body scope [] [] f fd) (S : FnScope N ps scope) (hlen : ∀ ds Q, ok ds Q → ds.length = ps.length)
    (hb : ∀ (cdv : Value) (A : Around) (outer : List Env) (s : Shared) (H : Hp) (E : XK) (W : Res) (ds : List D) (Q : D → Prop) (B : Bs), Room k (A.deeper (PyProof.Rows.envOfC qual scope s.heap.objs.size f cdv)) → ok ds Q →
      SS (cxOf CX0 P w K mg base N qual scope f cdv A outer s H E).nox (At B W [] (ds.map some ++ List.replicate (N.length - ds.length) none)) body (FE B W Q)) : FnOk P w K mg base CX0 (k + 1) f fd ps (spN ok) := by
  refine F.ok S (fun vs H Q E h => ?_) (fun cdv A outer s H vs Q E hr h => ?_)
  · obtain ⟨W, ds, P, o, l, q, _⟩ := h
    rw [l.length]; exact hlen _ _ q
  · obtain ⟨W, ds, P, o, l, q, kq⟩ := h
    have z := hb cdv A outer s H E W ds P ⟨W.m, H⟩ hr q
    refine ⟨_, z.nox, ⟨.refl, o, start_sl l, fun p hp => (by cases hp), fun a m => .inl m⟩, fun σ H' h => ?_, fun v H' h => ?_, fun _ _ h => h, fun _ _ h => h⟩
    · obtain ⟨d, p, e, o', r⟩ := h
      exact kq d _ H' e o' p r
    · obtain ⟨d, p, e, o', r⟩ := h
      exact kq d _ H' e o' p r
end
section
variable {X : Cx} {W : Res} {ρ : List (Option D)} {P : D → Prop} {e : Expr} {es : List Expr} {pos p : Pos} {CX : CXT} {k : Nat} {f : Addr} {fd : FuncData} {ps : List Str} {ok : List D → (D → Prop) → Prop} {E : XK} {x : Str}
/-- f(e, ..) -/
theorem ed_call {ds : List D} (F : FnOk X.prog X.w X.K X.mg X.base CX k f fd ps (spN ok)) (hr : Room k X.A) (hm : X.mg x = some (.ref f)) (hk : PySem.W.keepIn X.K (.ref f) = true) (hb : Binds X.K fd ps []) (hx : Passes CX X E) (ha : AE X W ρ (e :: es) ds) (hok : ok ds P)
    (hg : Gl X x := by rfl) (hdb : (x == ("__debug__" : Str)) = false := by decide) (he : starEach (e :: es) X.env = (false, eval e X.env) :: starEach es X.env := by rfl) (hpl : (backTo pos (starEach es X.env)).any (·.1) = false := by rfl) : ED X W ρ (.Call (.Name x p) (e :: es) [] pos) P :=
  PEimp (pe_call F hr hg hm hk hb .nil hx ha hdb he hpl) fun σ H Q ⟨o, sl, q⟩ => ⟨o, sl, fun ds' vs H1 e1 ok1 hd r1 => by
    subst hd
    rw [List.append_nil]
    exact ⟨W, ds', P, ok1, r1, hok, fun d v H2 e2 ok2 p r => q d v H2 (e1.trans e2) ok2 p r⟩⟩
end
end K14

set_option Elab.async false
set_option linter.all false
set_option maxRecDepth 100000
set_option maxHeartbeats 4000000
namespace K14
open PySem L2
theorem setsV_wipe {js vs : List Nat} (h : ∀ j ∈ js, j ∈ vs) : ∀ (us : List V) (σ : St), wipe (setsV js us σ) vs = wipe σ vs := by
  have one : ∀ (vs : List Nat) (j : Nat) (u : Option V) (σ : St), j ∈ vs → wipe (σ.set j u) vs = wipe σ vs := by
    intro vs
    induction vs with
    | nil => intro j u σ h; cases h
    | cons v vs ih =>
      intro j u σ h
      show (wipe (σ.set j u) vs).set v none = (wipe σ vs).set v none
      by_cases q : j ∈ vs
      · rw [ih j u σ q]
      · have e : j = v := by
          rcases List.mem_cons.mp h with z | z
          · exact z
          · exact absurd z q
        subst e
        have com : ∀ (vs : List Nat) (σ : St), j ∉ vs → wipe (σ.set j u) vs = (wipe σ vs).set j u := by
          intro vs
          induction vs with
          | nil => intro σ _; rfl
          | cons w vs ih2 =>
            intro σ hn
            show (wipe (σ.set j u) vs).set w none = ((wipe σ vs).set w none).set j u
            rw [ih2 σ fun z => hn (List.mem_cons_of_mem _ z)]
            exact List.set_comm _ _ fun z => hn (z ▸ List.mem_cons_self)
        rw [com vs σ q, List.set_set]
  intro us σ
  unfold setsV
  induction js generalizing us σ with
  | nil => rfl
  | cons j js ih =>
    cases us with
    | nil => rfl
    | cons u us =>
      rw [List.zip_cons_cons, List.foldl_cons, ih (fun k hk => h k (List.mem_cons_of_mem _ hk)), one vs j _ σ (h j List.mem_cons_self)]
theorem setsV_many {js : List Nat} (us : List V) (σ : St) : ∃ us', setsV js us σ = setsV js us' σ := ⟨us, rfl⟩
section
variable {X : Cx} {W : Res} {ρ : List (Option D)} {P : D → Prop} {iter tg elt : Expr} {ifs : List Expr} {scope : Scope} {pos : Pos} {own : List (Str × Nat)}
/-- the slots that a comprehension's block sees at its turns -/
def wipeD (ρ : List (Option D)) (vs : List Nat) : List (Option D) := vs.foldr (fun v l => l.set v none) ρ
/-- [elt for tg in iter if ..]: inv speaks of the turn and of what is made so far -/
theorem ed_lcPG {g : TG} {t : Tgt} {Px : List D → Prop} (inv : List D → Nat → List D → Prop) (pt : List D → Nat → Bool → Prop) (pe : List D → Nat → D → Prop)
    (lc : ∀ {tt : TT} {te : TE}, (∀ (s : Shared) (H : Hp) (C : Addr) (cl : List (Str × Addr)) (fp : List Addr), PTs (X.blk s H scope (compEnvC scope cl C X.env) fp) ifs tt) → (∀ (s : Shared) (H : Hp) (C : Addr) (cl : List (Str × Addr)) (fp : List Addr), PE (X.blk s H scope (compEnvC scope cl C X.env) fp) elt te) → PE X (.ListComp elt [⟨tg, iter, ifs, 0⟩] scope pos) (tLc (iD W ρ Px) g tt te (own.map (·.2))))
    (hsub : ∀ j ∈ t.slots, j ∈ own.map (·.2)) (hT : GT g t) (hlen : ∀ xs, Px xs → xs.length ≤ 50000) (h0 : ∀ xs, Px xs → inv xs 0 [])
    (hd : ∀ xs, Px xs → ∀ (i : Nat) (d : D), xs[i]? = some d → ∃ ρ', t.put d (wipeD ρ (own.map (·.2))) = some ρ')
    (ht : ∀ xs, Px xs → ∀ (i : Nat) (x : D) (ys : List D) (L : Addr) (ρ' : List (Option D)), xs[i]? = some x → inv xs i ys → ¬ W.m L → t.put x (wipeD ρ (own.map (·.2))) = some ρ' → ∀ (s : Shared) (H : Hp) (C : Addr) (cl : List (Str × Addr)) (fp : List Addr), PTs (X.blk s H scope (compEnvC scope cl C X.env) fp) ifs (tDt (W.add L (ownL ys)) ρ' (pt xs i)))
    (he : ∀ xs, Px xs → ∀ (i : Nat) (x : D) (ys : List D) (L : Addr) (ρ' : List (Option D)), xs[i]? = some x → inv xs i ys → ¬ W.m L → t.put x (wipeD ρ (own.map (·.2))) = some ρ' → pt xs i true → ∀ (s : Shared) (H : Hp) (C : Addr) (cl : List (Str × Addr)) (fp : List Addr), ED (X.blk s H scope (compEnvC scope cl C X.env) fp) (W.add L (ownL ys)) ρ' elt (pe xs i))
    (h1 : ∀ xs, Px xs → ∀ i ys d, i < xs.length → inv xs i ys → pt xs i true → pe xs i d → inv xs (i + 1) (ys ++ [d])) (h2 : ∀ xs, Px xs → ∀ i ys, i < xs.length → inv xs i ys → pt xs i false → inv xs (i + 1) ys)
    (hl : ∀ xs i ys, Px xs → inv xs i ys → ys.length ≤ i) : ED X W ρ (.ListComp elt [⟨tg, iter, ifs, 0⟩] scope pos) (fun z => ∃ xs ys, Px xs ∧ z = .lst ys ∧ inv xs xs.length ys) := by
  have neverT : ∀ {Y : Cx} {ts : List Expr}, PTs Y ts (fun _ _ _ => False) := fun {Y ts} => ⟨fun _ _ _ _ _ _ z => z.elim⟩
  have tst : ∀ (s : Shared) (H : Hp) (C : Addr) (cl : List (Str × Addr)) (fp : List Addr), PTs (X.blk s H scope (compEnvC scope cl C X.env) fp) ifs (fun σ H Q => ∃ q : List D × Nat × D × List D × Addr × List (Option D),
      (Px q.1 ∧ q.1[q.2.1]? = some q.2.2.1 ∧ inv q.1 q.2.1 q.2.2.2.1 ∧ ¬ W.m q.2.2.2.2.1 ∧ t.put q.2.2.1 (wipeD ρ (own.map (·.2))) = some q.2.2.2.2.2) ∧ tDt (W.add q.2.2.2.2.1 (ownL q.2.2.2.1)) q.2.2.2.2.2 (pt q.1 q.2.1) σ H Q) := fun s H C cl fp => PTsex fun q => by
    by_cases c : Px q.1 ∧ q.1[q.2.1]? = some q.2.2.1 ∧ inv q.1 q.2.1 q.2.2.2.1 ∧ ¬ W.m q.2.2.2.2.1 ∧ t.put q.2.2.1 (wipeD ρ (own.map (·.2))) = some q.2.2.2.2.2
    · obtain ⟨c1, c2, c3, c4, c5⟩ := c
      have z := ht q.1 c1 q.2.1 q.2.2.1 q.2.2.2.1 q.2.2.2.2.1 q.2.2.2.2.2 c2 c3 c4 c5 s H C cl fp
      exact ⟨fun pins s σ H Q I w => z.run pins s σ H Q I w.2⟩
    · exact ⟨fun pins s σ H Q I w => (c w.1).elim⟩
  have elm : ∀ (s : Shared) (H : Hp) (C : Addr) (cl : List (Str × Addr)) (fp : List Addr), PE (X.blk s H scope (compEnvC scope cl C X.env) fp) elt (fun σ H Q => ∃ q : List D × Nat × D × List D × Addr × List (Option D),
      (Px q.1 ∧ q.1[q.2.1]? = some q.2.2.1 ∧ inv q.1 q.2.1 q.2.2.2.1 ∧ ¬ W.m q.2.2.2.2.1 ∧ t.put q.2.2.1 (wipeD ρ (own.map (·.2))) = some q.2.2.2.2.2 ∧ pt q.1 q.2.1 true) ∧ tD (W.add q.2.2.2.2.1 (ownL q.2.2.2.1)) q.2.2.2.2.2 (pe q.1 q.2.1) σ H Q) := fun s H C cl fp => PEex fun q => by
    by_cases c : Px q.1 ∧ q.1[q.2.1]? = some q.2.2.1 ∧ inv q.1 q.2.1 q.2.2.2.1 ∧ ¬ W.m q.2.2.2.2.1 ∧ t.put q.2.2.1 (wipeD ρ (own.map (·.2))) = some q.2.2.2.2.2 ∧ pt q.1 q.2.1 true
    · obtain ⟨c1, c2, c3, c4, c5, c6⟩ := c
      exact PEimp (he q.1 c1 q.2.1 q.2.2.1 q.2.2.2.1 q.2.2.2.2.1 q.2.2.2.2.2 c2 c3 c4 c5 c6 s H C cl fp) fun _ _ _ z => z.2
    · exact PEimp PEnever fun _ _ _ z => c z.1
  refine PEimp (lc tst elm) fun σ H Q ⟨o, sl, q⟩ => ⟨o, sl, fun J H1 Δ xs px e1 o1 dr wk L hL => ?_⟩
  have at0 : At ⟨W.m, H1⟩ W Δ (wipeD ρ (own.map (·.2))) (wipe σ (own.map (·.2))) H1 := ⟨.refl, o1, (sl.ext e1).wiped _, dr, fun a m => .inl m⟩
  have nL : ¬ W.m L := W.fresh o1 hL
  refine ⟨fun i m H => i + m = xs.length ∧ ∃ ys, inv xs i ys ∧ At ⟨W.m, H1⟩ (W.add L (ownL ys)) Δ (wipeD ρ (own.map (·.2))) (wipe σ (own.map (·.2))) H, ⟨xs.length, by omega, [], h0 xs px, at0.alloc (c := ownL []) hL ⟨[], upd_same, .nil⟩⟩, ?_⟩
  rintro i m H ⟨him, ys, iv, at1⟩
  by_cases hi : i < xs.length
  · refine .inr ⟨wk.go _ H i at1.gh hi, fun H' => ∃ ys, inv xs (i + 1) ys ∧ At ⟨W.m, H1⟩ (W.add L (ownL ys)) Δ (wipeD ρ (own.map (·.2))) (wipe σ (own.map (·.2))) H', fun H' z => ⟨m - 1, by omega, by omega, z⟩, fun x H' y => ?_⟩
    obtain ⟨d, hd', keep, dm, rp⟩ := wk.yld _ H i x H' at1.gh hi y
    have rx := rp fun b hb => (W.add L (ownL ys)).dom at1.ok hb
    have at2 := at1.go (H' := H') ⟨fun b u _ z => keep b u z, dm⟩ ((W.add L (ownL ys)).same at1.ok keep)
    obtain ⟨ρ', hρ'⟩ := hd xs px i d hd'
    refine hT rx at2.sl hρ' _ fun σ' s' hσ => ⟨?_, ⟨(xs, i, d, ys, L, ρ'), ⟨px, hd', iv, nL, hρ'⟩, at2.ok, s', fun b H3 e3 o3 pb => ?_⟩⟩
    · obtain ⟨us, rfl⟩ := hσ
      rw [setsV_wipe hsub]
      have ww : ∀ (vs ws : List Nat) (σ : St), (∀ v ∈ ws, v ∈ vs) → wipe (wipe σ ws) vs = wipe σ vs := by
        intro vs ws
        induction ws with
        | nil => intro σ _; rfl
        | cons w ws ih =>
          intro σ hw
          show wipe ((wipe σ ws).set w none) vs = wipe σ vs
          have one : ∀ (vs : List Nat) (σ : St), w ∈ vs → wipe (σ.set w none) vs = wipe σ vs := by
            intro vs
            induction vs with
            | nil => intro σ h; cases h
            | cons v vs ih2 =>
              intro σ h
              show (wipe (σ.set w none) vs).set v none = (wipe σ vs).set v none
              by_cases q : w ∈ vs
              · rw [ih2 σ q]
              · have e : w = v := by
                  rcases List.mem_cons.mp h with z | z
                  · exact z
                  · exact absurd z q
                subst e
                have com : ∀ (vs : List Nat) (σ : St), w ∉ vs → wipe (σ.set w none) vs = (wipe σ vs).set w none := by
                  intro vs
                  induction vs with
                  | nil => intro σ _; rfl
                  | cons y vs ih3 =>
                    intro σ hn
                    show (wipe (σ.set w none) vs).set y none = ((wipe σ vs).set y none).set w none
                    rw [ih3 σ fun z => hn (List.mem_cons_of_mem _ z)]
                    exact List.set_comm _ _ fun z => hn (z ▸ List.mem_cons_self)
                rw [com vs σ q, List.set_set]
          rw [one vs _ (hw w List.mem_cons_self), ih σ fun v hv => hw v (List.mem_cons_of_mem _ hv)]
      exact ww _ _ σ fun v hv => hv
    · have at3 := at2.go e3 o3
      cases b with
      | false => exact iteF ⟨ys, h2 xs px i ys hi iv pb, at3⟩
      | true =>
        refine iteT ⟨(xs, i, d, ys, L, ρ'), ⟨px, hd', iv, nL, hρ', pb⟩, o3, s'.ext e3, fun z v H4 e4 o4 pz rz => ?_⟩
        obtain ⟨acc, ea, ra⟩ := id o4.2
        have hacc := hl xs i ys px iv
        have hxs := hlen xs px
        have at4 := at3.go e4 o4
        have ex : Ext (W.add L (ownL ys)).m H4 (upd H4 L (.lst (acc ++ [v]))) := .mut (.inr rfl) ea
        exact ⟨acc, ea, by rw [ra.length]; exact sz_lt (show ys.length < 100000 by omega), ys ++ [z], h1 xs px i ys z hi iv pb pz, at4.upd (c' := ownL (ys ++ [z])) nL ⟨acc ++ [v], upd_same, (ra.ext ex).append (.cons (rz.ext ex) .nil)⟩⟩
  · have e : i = xs.length := by omega
    subst e
    obtain ⟨acc, ea, ra⟩ := at1.ok.2
    have k : Keeps (W.add L (ownL ys)).m W.m H H := keeps_shrink fun b m => .inl m
    exact .inl ⟨wk.stop _ H at1.gh, q _ _ H (e1.trans at1.ext) (W.shrink at1.ok.1 fun b m => .inl m) ⟨xs, ys, px, rfl, iv⟩ (.lst nL ea (ra.mono k))⟩
theorem ed_lcP {g : TG} {t : Tgt} {Px : List D → Prop} (inv : List D → Nat → List D → Prop) (pt : List D → Nat → Bool → Prop) (pe : List D → Nat → D → Prop) (hc : X.calm = true) (hN : X.N.Nodup) (hI : ID X tg W ρ iter Px) (ok : BlkOk X.N X.env.scope scope own)
    (hsub : ∀ j ∈ t.slots, j ∈ own.map (·.2)) (hT : GT g t) (hlen : ∀ xs, Px xs → xs.length ≤ 50000) (h0 : ∀ xs, Px xs → inv xs 0 [])
    (hd : ∀ xs, Px xs → ∀ (i : Nat) (d : D), xs[i]? = some d → ∃ ρ', t.put d (wipeD ρ (own.map (·.2))) = some ρ')
    (hG : ∀ (s : Shared) (H : Hp) (C : Addr) (cl : List (Str × Addr)) (fp : List Addr), PG (X.blk s H scope (compEnvC scope cl C X.env) fp) tg g)
    (ht : ∀ xs, Px xs → ∀ (i : Nat) (x : D) (ys : List D) (L : Addr) (ρ' : List (Option D)), xs[i]? = some x → inv xs i ys → ¬ W.m L → t.put x (wipeD ρ (own.map (·.2))) = some ρ' → ∀ (s : Shared) (H : Hp) (C : Addr) (cl : List (Str × Addr)) (fp : List Addr), PTs (X.blk s H scope (compEnvC scope cl C X.env) fp) ifs (tDt (W.add L (ownL ys)) ρ' (pt xs i)))
    (he : ∀ xs, Px xs → ∀ (i : Nat) (x : D) (ys : List D) (L : Addr) (ρ' : List (Option D)), xs[i]? = some x → inv xs i ys → ¬ W.m L → t.put x (wipeD ρ (own.map (·.2))) = some ρ' → pt xs i true → ∀ (s : Shared) (H : Hp) (C : Addr) (cl : List (Str × Addr)) (fp : List Addr), ED (X.blk s H scope (compEnvC scope cl C X.env) fp) (W.add L (ownL ys)) ρ' elt (pe xs i))
    (h1 : ∀ xs, Px xs → ∀ i ys d, i < xs.length → inv xs i ys → pt xs i true → pe xs i d → inv xs (i + 1) (ys ++ [d])) (h2 : ∀ xs, Px xs → ∀ i ys, i < xs.length → inv xs i ys → pt xs i false → inv xs (i + 1) ys)
    (hl : ∀ xs i ys, Px xs → inv xs i ys → ys.length ≤ i) (hs : ∀ x, foldedSetIterable iter X.env x = pure x := by intro _; rfl) : ED X W ρ (.ListComp elt [⟨tg, iter, ifs, 0⟩] scope pos) (fun z => ∃ xs ys, Px xs ∧ z = .lst ys ∧ inv xs xs.length ys) := 
  ed_lcPG inv pt pe (fun ht he => pe_lc hc hN hI ok hG ht he hs) hsub hT hlen h0 hd ht he h1 h2 hl
end
end K14
namespace K14
open PySem L2
section
variable {X : Cx} {W : Res} {ρ : List (Option D)} {P : D → Prop} {iter tg elt c : Expr} {scope : Scope} {pos np : Pos} {own : List (Str × Nat)} {n : Str}
theorem take_succ_get {α : Type} {xs : List α} {i : Nat} {x : α} (h : xs[i]? = some x) : xs.take (i + 1) = xs.take i ++ [x] := by
  rw [List.take_add_one, h]; rfl
/-- [f x for target in iter] -/
theorem ed_map {g : TG} {t : Tgt} {xs : List D} (f : D → D) (hc : X.calm = true) (hN : X.N.Nodup) (hI : ID X tg W ρ iter (fun z => z = xs)) (ok : BlkOk X.N X.env.scope scope own) (hsub : ∀ j ∈ t.slots, j ∈ own.map (·.2)) (hT : GT g t) (hlen : xs.length ≤ 50000)
    (hd : ∀ (i : Nat) (d : D), xs[i]? = some d → ∃ ρ', t.put d (wipeD ρ (own.map (·.2))) = some ρ')
    (hG : ∀ (s : Shared) (H : Hp) (C : Addr) (cl : List (Str × Addr)) (fp : List Addr), PG (X.blk s H scope (compEnvC scope cl C X.env) fp) tg g)
    (he : ∀ (i : Nat) (x : D) (ys : List D) (L : Addr) (ρ' : List (Option D)), xs[i]? = some x → ¬ W.m L → t.put x (wipeD ρ (own.map (·.2))) = some ρ' → ∀ (s : Shared) (H : Hp) (C : Addr) (cl : List (Str × Addr)) (fp : List Addr), EE (X.blk s H scope (compEnvC scope cl C X.env) fp) (W.add L (ownL ys)) ρ' elt (f x))
    (hs : ∀ x, foldedSetIterable iter X.env x = pure x := by intro _; rfl) : EE X W ρ (.ListComp elt [⟨tg, iter, [], 0⟩] scope pos) (.lst (xs.map f)) :=
  ED.imp (ed_lcP (Px := fun z => z = xs) (inv := fun zs i ys => ys = (zs.take i).map f) (pt := fun _ _ b => b = true) (pe := fun zs i d => ∀ x, zs[i]? = some x → d = f x) hc hN hI ok hsub hT (fun z h => by rw [h]; exact hlen) (fun _ _ => rfl) (fun z h => by rw [h]; exact hd) hG
      (fun z h i x ys L ρ' hx _ nL hp s H C cl fp => by
        exact ⟨fun pins s σ H Q I q => pts_nil.run pins s σ H Q I (q.2.2 true H .refl q.1 rfl)⟩)
      (fun z h i x ys L ρ' hx _ nL hp _ s H C cl fp => by
        subst h
        exact ED.imp (he i x ys L ρ' hx nL hp s H C cl fp) fun d hd x' hx' => by rw [hx] at hx'; cases hx'; exact hd)
      (fun z h i ys d hi hy _ hd => by
        obtain ⟨x, hx⟩ : ∃ x, z[i]? = some x := ⟨z[i], by simp [hi]⟩
        rw [take_succ_get hx, List.map_append, hy, hd x hx]; rfl)
      (fun z h i ys hi hy b => by cases b) (fun z i ys h hy => by rw [hy, List.length_map, List.length_take]; omega) hs)
    fun z ⟨xs', ys, h1, h2, h3⟩ => by rw [h2, h3, h1, List.take_length]
/-- [f x for target in iter if t x] -/
theorem ed_filter {g : TG} {tt : Tgt} {xs : List D} (t : D → Bool) (f : D → D) (hc : X.calm = true) (hN : X.N.Nodup) (hI : ID X tg W ρ iter (fun z => z = xs)) (ok : BlkOk X.N X.env.scope scope own) (hsub : ∀ j ∈ tt.slots, j ∈ own.map (·.2)) (hT : GT g tt) (hlen : xs.length ≤ 50000)
    (hd : ∀ (i : Nat) (d : D), xs[i]? = some d → ∃ ρ', tt.put d (wipeD ρ (own.map (·.2))) = some ρ')
    (hG : ∀ (s : Shared) (H : Hp) (C : Addr) (cl : List (Str × Addr)) (fp : List Addr), PG (X.blk s H scope (compEnvC scope cl C X.env) fp) tg g)
    (ht : ∀ (i : Nat) (x : D) (ys : List D) (L : Addr) (ρ' : List (Option D)), xs[i]? = some x → ¬ W.m L → tt.put x (wipeD ρ (own.map (·.2))) = some ρ' → ∀ (s : Shared) (H : Hp) (C : Addr) (cl : List (Str × Addr)) (fp : List Addr), TB (X.blk s H scope (compEnvC scope cl C X.env) fp) (W.add L (ownL ys)) ρ' c (t x))
    (he : ∀ (i : Nat) (x : D) (ys : List D) (L : Addr) (ρ' : List (Option D)), xs[i]? = some x → t x = true → ¬ W.m L → tt.put x (wipeD ρ (own.map (·.2))) = some ρ' → ∀ (s : Shared) (H : Hp) (C : Addr) (cl : List (Str × Addr)) (fp : List Addr), EE (X.blk s H scope (compEnvC scope cl C X.env) fp) (W.add L (ownL ys)) ρ' elt (f x))
    (hs : ∀ x, foldedSetIterable iter X.env x = pure x := by intro _; rfl) : EE X W ρ (.ListComp elt [⟨tg, iter, [c], 0⟩] scope pos) (.lst ((xs.filter t).map f)) :=
  ED.imp (ed_lcP (Px := fun z => z = xs) (inv := fun zs i ys => ys = ((zs.take i).filter t).map f) (pt := fun zs i b => ∀ x, zs[i]? = some x → b = t x) (pe := fun zs i d => ∀ x, zs[i]? = some x → d = f x) hc hN hI ok hsub hT (fun z h => by rw [h]; exact hlen) (fun _ _ => rfl) (fun z h => by rw [h]; exact hd) hG
      (fun z h i x ys L ρ' hx _ nL hp s H C cl fp => by
        subst h
        exact pts_one (PTimp (ht i x ys L ρ' hx nL hp s H C cl fp) fun σ H Q ⟨o, sl, q⟩ => ⟨o, sl, fun b H' e o' hb => q b H' e o' fun x' hx' => by rw [hx] at hx'; cases hx'; exact hb⟩))
      (fun z h i x ys L ρ' hx _ nL hp hb s H C cl fp => by
        subst h
        exact ED.imp (he i x ys L ρ' hx (hb x hx).symm nL hp s H C cl fp) fun d hd x' hx' => by rw [hx] at hx'; cases hx'; exact hd)
      (fun z h i ys d hi hy hb hd => by
        obtain ⟨x, hx⟩ : ∃ x, z[i]? = some x := ⟨z[i], by simp [hi]⟩
        rw [take_succ_get hx, List.filter_append, List.map_append, hy, hd x hx, List.filter_cons, if_pos (hb x hx).symm]; rfl)
      (fun z h i ys hi hy hb => by
        obtain ⟨x, hx⟩ : ∃ x, z[i]? = some x := ⟨z[i], by simp [hi]⟩
        rw [take_succ_get hx, List.filter_append, List.map_append, hy, List.filter_cons, if_neg (by rw [← hb x hx]; decide)]; simp)
      (fun z i ys h hy => by rw [hy, List.length_map]; exact Nat.le_trans (List.length_filter_le _ _) (by rw [List.length_take]; omega)) hs)
    fun z ⟨xs', ys, h1, h2, h3⟩ => by rw [h2, h3, h1, List.take_length]
/-- the target one name -/
theorem ed_map1 {xs : List D} (j : Nat) (f : D → D) (hc : X.calm = true) (hN : X.N.Nodup) (hI : ID X (.Name n np) W ρ iter (fun z => z = xs)) (ok : BlkOk X.N X.env.scope scope [(n, j)]) (hlen : xs.length ≤ 50000)
    (hG : ∀ (s : Shared) (H : Hp) (C : Addr) (cl : List (Str × Addr)) (fp : List Addr), PG (X.blk s H scope (compEnvC scope cl C X.env) fp) (.Name n np) (gName j))
    (he : ∀ (i : Nat) (x : D) (ys : List D) (L : Addr), xs[i]? = some x → ¬ W.m L → ∀ (s : Shared) (H : Hp) (C : Addr) (cl : List (Str × Addr)) (fp : List Addr), EE (X.blk s H scope (compEnvC scope cl C X.env) fp) (W.add L (ownL ys)) ((ρ.set j none).set j (some x)) elt (f x))
    (hs : ∀ x, foldedSetIterable iter X.env x = pure x := by intro _; rfl) : EE X W ρ (.ListComp elt [⟨.Name n np, iter, [], 0⟩] scope pos) (.lst (xs.map f)) :=
  ed_map (t := .one j) f hc hN hI ok (fun k hk => hk) (gt_name j) hlen (fun _ d _ => ⟨_, rfl⟩) hG (fun i x ys L ρ' hx nL hp s H C cl fp => by cases hp; exact he i x ys L hx nL s H C cl fp) hs
theorem ed_filter1 {xs : List D} (j : Nat) (t : D → Bool) (f : D → D) (hc : X.calm = true) (hN : X.N.Nodup) (hI : ID X (.Name n np) W ρ iter (fun z => z = xs)) (ok : BlkOk X.N X.env.scope scope [(n, j)]) (hlen : xs.length ≤ 50000)
    (hG : ∀ (s : Shared) (H : Hp) (C : Addr) (cl : List (Str × Addr)) (fp : List Addr), PG (X.blk s H scope (compEnvC scope cl C X.env) fp) (.Name n np) (gName j))
    (ht : ∀ (i : Nat) (x : D) (ys : List D) (L : Addr), xs[i]? = some x → ¬ W.m L → ∀ (s : Shared) (H : Hp) (C : Addr) (cl : List (Str × Addr)) (fp : List Addr), TB (X.blk s H scope (compEnvC scope cl C X.env) fp) (W.add L (ownL ys)) ((ρ.set j none).set j (some x)) c (t x))
    (he : ∀ (i : Nat) (x : D) (ys : List D) (L : Addr), xs[i]? = some x → t x = true → ¬ W.m L → ∀ (s : Shared) (H : Hp) (C : Addr) (cl : List (Str × Addr)) (fp : List Addr), EE (X.blk s H scope (compEnvC scope cl C X.env) fp) (W.add L (ownL ys)) ((ρ.set j none).set j (some x)) elt (f x))
    (hs : ∀ x, foldedSetIterable iter X.env x = pure x := by intro _; rfl) : EE X W ρ (.ListComp elt [⟨.Name n np, iter, [c], 0⟩] scope pos) (.lst ((xs.filter t).map f)) :=
  ed_filter (tt := .one j) t f hc hN hI ok (fun k hk => hk) (gt_name j) hlen (fun _ d _ => ⟨_, rfl⟩) hG (fun i x ys L ρ' hx nL hp s H C cl fp => by cases hp; exact ht i x ys L hx nL s H C cl fp)
    (fun i x ys L ρ' hx htx nL hp s H C cl fp => by cases hp; exact he i x ys L hx htx nL s H C cl fp) hs
end
end K14
namespace K14
open PySem L2
section
variable {X : Cx} {W : Res} {ρ : List (Option D)} {P : D → Prop} {iter tg elt c : Expr} {scope : Scope} {pos np : Pos} {own : List (Str × Nat)} {n : Str}
theorem map_pick {α : Type} (l : List α) (g f : α → D) : ∀ (P : Nat → D → D → Prop), (∀ i a, l[i]? = some a → P i (g a) (f a)) → ∀ i x, (l.map g)[i]? = some x → ∃ a, a ∈ l ∧ x = g a ∧ P i x (f a) := by
  intro P h i x hx
  rw [List.getElem?_map] at hx
  cases e : l[i]? with
  | none => rw [e] at hx; cases hx
  | some a => rw [e] at hx; cases hx; exact ⟨a, List.mem_of_getElem? e, rfl, h i a e⟩
/-- [f a for target in iter], iter's items g a, a in l -/
theorem ed_mapA {α : Type} {g : TG} {t : Tgt} (l : List α) (ga : α → D) (f : α → D) (hc : X.calm = true) (hN : X.N.Nodup) (hI : ID X tg W ρ iter (fun z => z = l.map ga)) (ok : BlkOk X.N X.env.scope scope own) (hsub : ∀ j ∈ t.slots, j ∈ own.map (·.2)) (hT : GT g t) (hlen : l.length ≤ 50000)
    (hd : ∀ a ∈ l, ∃ ρ', t.put (ga a) (wipeD ρ (own.map (·.2))) = some ρ')
    (hG : ∀ (s : Shared) (H : Hp) (C : Addr) (cl : List (Str × Addr)) (fp : List Addr), PG (X.blk s H scope (compEnvC scope cl C X.env) fp) tg g)
    (he : ∀ a ∈ l, ∀ (ys : List D) (L : Addr) (ρ' : List (Option D)), ¬ W.m L → t.put (ga a) (wipeD ρ (own.map (·.2))) = some ρ' → ∀ (s : Shared) (H : Hp) (C : Addr) (cl : List (Str × Addr)) (fp : List Addr), EE (X.blk s H scope (compEnvC scope cl C X.env) fp) (W.add L (ownL ys)) ρ' elt (f a))
    (hs : ∀ x, foldedSetIterable iter X.env x = pure x := by intro _; rfl) : EE X W ρ (.ListComp elt [⟨tg, iter, [], 0⟩] scope pos) (.lst (l.map f)) :=
  ED.imp (ed_lcP (Px := fun z => z = l.map ga) (inv := fun zs i ys => ys = (l.take i).map f) (pt := fun _ _ b => b = true) (pe := fun zs i d => ∀ a, l[i]? = some a → d = f a) hc hN hI ok hsub hT (fun z h => by rw [h, List.length_map]; exact hlen) (fun _ _ => rfl)
      (fun z h i d hd' => by
        subst h
        obtain ⟨a, ha, rfl, _⟩ := map_pick l ga f (fun _ _ _ => True) (fun _ _ _ => trivial) i d hd'
        exact hd a ha) hG
      (fun z h i x ys L ρ' hx _ nL hp s H C cl fp => ⟨fun pins s σ H Q I q => pts_nil.run pins s σ H Q I (q.2.2 true H .refl q.1 rfl)⟩)
      (fun z h i x ys L ρ' hx _ nL hp _ s H C cl fp => by
        subst h
        rw [List.getElem?_map] at hx
        cases e : l[i]? with
        | none => rw [e] at hx; cases hx
        | some a =>
          rw [e] at hx
          cases hx
          exact ED.imp (he a (List.mem_of_getElem? e) ys L ρ' nL hp s H C cl fp) fun d hd a' ha' => by cases ha'; exact hd)
      (fun z h i ys d hi hy _ hd => by
        subst h
        rw [List.length_map] at hi
        obtain ⟨x, hx⟩ : ∃ x, l[i]? = some x := ⟨l[i], by simp [hi]⟩
        rw [take_succ_get hx, List.map_append, hy, hd x hx]; rfl)
      (fun z h i ys hi hy b => by cases b) (fun z i ys h hy => by rw [hy, List.length_map, List.length_take]; omega) hs)
    fun z ⟨xs', ys, h1, h2, h3⟩ => by rw [h2, h3, h1, List.length_map, List.take_length]
theorem ed_filterA {α : Type} {g : TG} {tt : Tgt} (l : List α) (ga : α → D) (t : α → Bool) (f : α → D) (hc : X.calm = true) (hN : X.N.Nodup) (hI : ID X tg W ρ iter (fun z => z = l.map ga)) (ok : BlkOk X.N X.env.scope scope own) (hsub : ∀ j ∈ tt.slots, j ∈ own.map (·.2)) (hT : GT g tt) (hlen : l.length ≤ 50000)
    (hd : ∀ a ∈ l, ∃ ρ', tt.put (ga a) (wipeD ρ (own.map (·.2))) = some ρ')
    (hG : ∀ (s : Shared) (H : Hp) (C : Addr) (cl : List (Str × Addr)) (fp : List Addr), PG (X.blk s H scope (compEnvC scope cl C X.env) fp) tg g)
    (ht : ∀ a ∈ l, ∀ (ys : List D) (L : Addr) (ρ' : List (Option D)), ¬ W.m L → tt.put (ga a) (wipeD ρ (own.map (·.2))) = some ρ' → ∀ (s : Shared) (H : Hp) (C : Addr) (cl : List (Str × Addr)) (fp : List Addr), TB (X.blk s H scope (compEnvC scope cl C X.env) fp) (W.add L (ownL ys)) ρ' c (t a))
    (he : ∀ a ∈ l, t a = true → ∀ (ys : List D) (L : Addr) (ρ' : List (Option D)), ¬ W.m L → tt.put (ga a) (wipeD ρ (own.map (·.2))) = some ρ' → ∀ (s : Shared) (H : Hp) (C : Addr) (cl : List (Str × Addr)) (fp : List Addr), EE (X.blk s H scope (compEnvC scope cl C X.env) fp) (W.add L (ownL ys)) ρ' elt (f a))
    (hs : ∀ x, foldedSetIterable iter X.env x = pure x := by intro _; rfl) : EE X W ρ (.ListComp elt [⟨tg, iter, [c], 0⟩] scope pos) (.lst ((l.filter t).map f)) :=
  ED.imp (ed_lcP (Px := fun z => z = l.map ga) (inv := fun zs i ys => ys = ((l.take i).filter t).map f) (pt := fun zs i b => ∀ a, l[i]? = some a → b = t a) (pe := fun zs i d => ∀ a, l[i]? = some a → d = f a) hc hN hI ok hsub hT (fun z h => by rw [h, List.length_map]; exact hlen) (fun _ _ => rfl)
      (fun z h i d hd' => by
        subst h
        obtain ⟨a, ha, rfl, _⟩ := map_pick l ga f (fun _ _ _ => True) (fun _ _ _ => trivial) i d hd'
        exact hd a ha) hG
      (fun z h i x ys L ρ' hx _ nL hp s H C cl fp => by
        subst h
        rw [List.getElem?_map] at hx
        cases e : l[i]? with
        | none => rw [e] at hx; cases hx
        | some a =>
          rw [e] at hx
          cases hx
          exact pts_one (PTimp (ht a (List.mem_of_getElem? e) ys L ρ' nL hp s H C cl fp) fun σ H Q ⟨o, sl, q⟩ => ⟨o, sl, fun b H' e o' hb => q b H' e o' fun a' ha' => by cases ha'; exact hb⟩))
      (fun z h i x ys L ρ' hx _ nL hp hb s H C cl fp => by
        subst h
        rw [List.getElem?_map] at hx
        cases e : l[i]? with
        | none => rw [e] at hx; cases hx
        | some a =>
          rw [e] at hx
          cases hx
          exact ED.imp (he a (List.mem_of_getElem? e) (hb a e).symm ys L ρ' nL hp s H C cl fp) fun d hd a' ha' => by cases ha'; exact hd)
      (fun z h i ys d hi hy hb hd => by
        subst h
        rw [List.length_map] at hi
        obtain ⟨x, hx⟩ : ∃ x, l[i]? = some x := ⟨l[i], by simp [hi]⟩
        rw [take_succ_get hx, List.filter_append, List.map_append, hy, hd x hx, List.filter_cons, if_pos (hb x hx).symm]; rfl)
      (fun z h i ys hi hy hb => by
        subst h
        rw [List.length_map] at hi
        obtain ⟨x, hx⟩ : ∃ x, l[i]? = some x := ⟨l[i], by simp [hi]⟩
        rw [take_succ_get hx, List.filter_append, List.map_append, hy, List.filter_cons, if_neg (by rw [← hb x hx]; decide)]; simp)
      (fun z i ys h hy => by rw [hy, List.length_map]; exact Nat.le_trans (List.length_filter_le _ _) (by rw [List.length_take]; omega)) hs)
    fun z ⟨xs', ys, h1, h2, h3⟩ => by rw [h2, h3, h1, List.length_map, List.take_length]
/-- the target one name -/
theorem ed_map1A {α : Type} (j : Nat) (l : List α) (ga : α → D) (f : α → D) (hc : X.calm = true) (hN : X.N.Nodup) (hI : ID X (.Name n np) W ρ iter (fun z => z = l.map ga)) (ok : BlkOk X.N X.env.scope scope [(n, j)]) (hlen : l.length ≤ 50000)
    (hG : ∀ (s : Shared) (H : Hp) (C : Addr) (cl : List (Str × Addr)) (fp : List Addr), PG (X.blk s H scope (compEnvC scope cl C X.env) fp) (.Name n np) (gName j))
    (he : ∀ a ∈ l, ∀ (ys : List D) (L : Addr), ¬ W.m L → ∀ (s : Shared) (H : Hp) (C : Addr) (cl : List (Str × Addr)) (fp : List Addr), EE (X.blk s H scope (compEnvC scope cl C X.env) fp) (W.add L (ownL ys)) ((ρ.set j none).set j (some (ga a))) elt (f a))
    (hs : ∀ x, foldedSetIterable iter X.env x = pure x := by intro _; rfl) : EE X W ρ (.ListComp elt [⟨.Name n np, iter, [], 0⟩] scope pos) (.lst (l.map f)) :=
  ed_mapA (t := .one j) l ga f hc hN hI ok (fun k hk => hk) (gt_name j) hlen (fun d _ => ⟨_, rfl⟩) hG (fun a ha ys L ρ' nL hp s H C cl fp => by cases hp; exact he a ha ys L nL s H C cl fp) hs
theorem ed_filter1A {α : Type} (j : Nat) (l : List α) (ga : α → D) (t : α → Bool) (f : α → D) (hc : X.calm = true) (hN : X.N.Nodup) (hI : ID X (.Name n np) W ρ iter (fun z => z = l.map ga)) (ok : BlkOk X.N X.env.scope scope [(n, j)]) (hlen : l.length ≤ 50000)
    (hG : ∀ (s : Shared) (H : Hp) (C : Addr) (cl : List (Str × Addr)) (fp : List Addr), PG (X.blk s H scope (compEnvC scope cl C X.env) fp) (.Name n np) (gName j))
    (ht : ∀ a ∈ l, ∀ (ys : List D) (L : Addr), ¬ W.m L → ∀ (s : Shared) (H : Hp) (C : Addr) (cl : List (Str × Addr)) (fp : List Addr), TB (X.blk s H scope (compEnvC scope cl C X.env) fp) (W.add L (ownL ys)) ((ρ.set j none).set j (some (ga a))) c (t a))
    (he : ∀ a ∈ l, t a = true → ∀ (ys : List D) (L : Addr), ¬ W.m L → ∀ (s : Shared) (H : Hp) (C : Addr) (cl : List (Str × Addr)) (fp : List Addr), EE (X.blk s H scope (compEnvC scope cl C X.env) fp) (W.add L (ownL ys)) ((ρ.set j none).set j (some (ga a))) elt (f a))
    (hs : ∀ x, foldedSetIterable iter X.env x = pure x := by intro _; rfl) : EE X W ρ (.ListComp elt [⟨.Name n np, iter, [c], 0⟩] scope pos) (.lst ((l.filter t).map f)) :=
  ed_filterA (tt := .one j) l ga t f hc hN hI ok (fun k hk => hk) (gt_name j) hlen (fun d _ => ⟨_, rfl⟩) hG (fun a ha ys L ρ' nL hp s H C cl fp => by cases hp; exact ht a ha ys L nL s H C cl fp)
    (fun a ha hta ys L ρ' nL hp s H C cl fp => by cases hp; exact he a ha hta ys L nL s H C cl fp) hs
/-! ### defs by name -/
structure Cal (P : Program) (w : World) (K : PySem.W.Frag) (mg : Str → Option Value) (base : Heap) (CX : CXT) (k : Nat) (x : Str) (ps : List Str) (sp : Sp) : Prop where
  ex : ∃ f fd, FnOk P w K mg base CX k f fd ps sp ∧ mg x = some (.ref f) ∧ PySem.W.keepIn K (.ref f) = true ∧ Binds K fd ps []
theorem Cal.mono {P : Program} {w : World} {K : PySem.W.Frag} {mg : Str → Option Value} {base : Heap} {CX : CXT} {j k : Nat} {x : Str} {ps : List Str} {sp : Sp} (C : Cal P w K mg base CX j x ps sp) (h : j ≤ k) : Cal P w K mg base CX k x ps sp :=
  let ⟨f, fd, a, b⟩ := C.ex; ⟨f, fd, a.mono h, b⟩
theorem ed_cal {CX : CXT} {k : Nat} {ps : List Str} {ok : List D → (D → Prop) → Prop} {E : XK} {x : Str} {e : Expr} {es : List Expr} {p : Pos} {ds : List D} (C : Cal X.prog X.w X.K X.mg X.base CX k x ps (spN ok)) (hr : Room k X.A) (hx : Passes CX X E) (ha : AE X W ρ (e :: es) ds) (hok : ok ds P)
    (hg : Gl X x := by rfl) (hdb : (x == ("__debug__" : Str)) = false := by decide) (he : starEach (e :: es) X.env = (false, eval e X.env) :: starEach es X.env := by rfl) (hpl : (backTo pos (starEach es X.env)).any (·.1) = false := by rfl) : ED X W ρ (.Call (.Name x p) (e :: es) [] pos) P := by
  obtain ⟨f, fd, F, hm, hk, hb⟩ := C.ex
  exact ed_call F hr hm hk hb hx ha hok hg hdb he hpl
end
end K14

set_option Elab.async false
set_option linter.all false
set_option maxRecDepth 100000
set_option maxHeartbeats 4000000
namespace K14
open PySem L2
/-! ### the text by places -/
def top (i : Nat) : Stmt := PySem.Challenge.pw_narrowahead_k14_whole_questions_that_are.main.body.getD i (.Pass ⟨0, 0, 0, 0⟩)
abbrev FnP (K : PySem.W.Frag) (x : Str) (st : Stmt) (f : Addr) (fd : FuncData) : Prop := FunD K x x (defArgs st) (defBody st) (defScope st) [] [] f fd
/-- what the module's names stand for -/
structure Tx (mg : Str → Option Value) : Prop where
  len : mg "len" = none
  range : mg "range" = none
  isinst : mg "isinstance" = none
  int : mg "int" = none
  bool : mg "bool" = none
  str : mg "str" = none
  tuple : mg "tuple" = none
  list : mg "list" = none
  any : mg "any" = none
  all : mg "all" = none
  max : mg "max" = none
  min : mg "min" = none
  sorted : mg "sorted" = none
  zip : mg "zip" = none
  enumerate : mg "enumerate" = none
  repr : mg "repr" = none
  small : ∃ t, mg "SMALL" = some (.str "abcdefghijklmnopqrstuvwxyz" t)
  mMarks : ∃ t, mg "MOST_MARKS" = some (.int 5 t)
  mSeats : ∃ t, mg "MOST_SEATS" = some (.int 40 t)
  mComers : ∃ t, mg "MOST_COMERS" = some (.int 200 t)
  mAsked : ∃ t, mg "MOST_ASKED" = some (.int 5 t)
  mPairs : ∃ t, mg "MOST_PAIRS" = some (.int 200 t)
abbrev N5_0 : List Str := ["self", "most"]
abbrev A5_0 : List Str := ["self", "most"]
theorem sc5_0 : FnScope N5_0 A5_0 (defScope (inClass (top 5) 0)) := ⟨rfl, rfl, rfl, by decide +kernel, rfl, by decide +kernel, by decide +kernel⟩
abbrev N11 : List Str := ["thing"]
abbrev A11 : List Str := ["thing"]
theorem sc11 : FnScope N11 A11 (defScope (top 11)) := ⟨rfl, rfl, rfl, by decide +kernel, rfl, by decide +kernel, by decide +kernel⟩
abbrev N12 : List Str := ["thing", "least", "most"]
abbrev A12 : List Str := ["thing", "least", "most"]
theorem sc12 : FnScope N12 A12 (defScope (top 12)) := ⟨rfl, rfl, rfl, by decide +kernel, rfl, by decide +kernel, by decide +kernel⟩
abbrev N13 : List Str := ["thing"]
abbrev A13 : List Str := ["thing"]
theorem sc13 : FnScope N13 A13 (defScope (top 13)) := ⟨rfl, rfl, rfl, by decide +kernel, rfl, by decide +kernel, by decide +kernel⟩
abbrev N14 : List Str := ["items", "at"]
abbrev A14 : List Str := ["items"]
theorem sc14 : FnScope N14 A14 (defScope (top 14)) := ⟨rfl, rfl, rfl, by decide +kernel, rfl, by decide +kernel, by decide +kernel⟩
abbrev N15 : List Str := ["thing", "sign"]
abbrev A15 : List Str := ["thing"]
theorem sc15 : FnScope N15 A15 (defScope (top 15)) := ⟨rfl, rfl, rfl, by decide +kernel, rfl, by decide +kernel, by decide +kernel⟩
abbrev N16 : List Str := ["marks", "thing", "sign"]
abbrev A16 : List Str := ["marks", "thing"]
theorem sc16 : FnScope N16 A16 (defScope (top 16)) := ⟨rfl, rfl, rfl, by decide +kernel, rfl, by decide +kernel, by decide +kernel⟩
abbrev N17 : List Str := ["marks", "thing", "kind"]
abbrev A17 : List Str := ["marks", "thing"]
theorem sc17 : FnScope N17 A17 (defScope (top 17)) := ⟨rfl, rfl, rfl, by decide +kernel, rfl, by decide +kernel, by decide +kernel⟩
abbrev N18 : List Str := ["marks", "thing", "kind"]
abbrev A18 : List Str := ["marks", "thing"]
theorem sc18 : FnScope N18 A18 (defScope (top 18)) := ⟨rfl, rfl, rfl, by decide +kernel, rfl, by decide +kernel, by decide +kernel⟩
abbrev N19 : List Str := ["marks", "thing"]
abbrev A19 : List Str := ["marks", "thing"]
theorem sc19 : FnScope N19 A19 (defScope (top 19)) := ⟨rfl, rfl, rfl, by decide +kernel, rfl, by decide +kernel, by decide +kernel⟩
abbrev N21 : List Str := ["marks", "lots", "at", "lot"]
abbrev A21 : List Str := ["marks", "lots"]
theorem sc21 : FnScope N21 A21 (defScope (top 21)) := ⟨rfl, rfl, rfl, by decide +kernel, rfl, by decide +kernel, by decide +kernel⟩
abbrev N22_0 : List Str := ["self", "marks", "lots", "at"]
abbrev A22_0 : List Str := ["self", "marks", "lots"]
theorem sc22_0 : FnScope N22_0 A22_0 (defScope (inClass (top 22) 0)) := ⟨rfl, rfl, rfl, by decide +kernel, rfl, by decide +kernel, by decide +kernel⟩
abbrev N24 : List Str := ["lots", "free", "kind", "seat"]
abbrev A24 : List Str := ["lots", "free", "kind"]
theorem sc24 : FnScope N24 A24 (defScope (top 24)) := ⟨rfl, rfl, rfl, by decide +kernel, rfl, by decide +kernel, by decide +kernel⟩
abbrev N25 : List Str := ["lots", "row", "free", "found", "kind", "seat"]
abbrev A25 : List Str := ["lots", "row"]
theorem sc25 : FnScope N25 A25 (defScope (top 25)) := ⟨rfl, rfl, rfl, by decide +kernel, rfl, by decide +kernel, by decide +kernel⟩
abbrev N29 : List Str := ["many", "thing", "one", "other", "pair"]
abbrev A29 : List Str := ["many", "thing"]
theorem sc29 : FnScope N29 A29 (defScope (top 29)) := ⟨rfl, rfl, rfl, by decide +kernel, rfl, by decide +kernel, by decide +kernel⟩
abbrev N30 : List Str := ["many", "known", "found", "middle", "one", "other", "pair"]
abbrev A30 : List Str := ["many", "known"]
theorem sc30 : FnScope N30 A30 (defScope (top 30)) := ⟨rfl, rfl, rfl, by decide +kernel, rfl, by decide +kernel, by decide +kernel⟩
abbrev N31 : List Str := ["many", "thing", "pairs", "comer"]
abbrev A31 : List Str := ["many", "thing"]
theorem sc31 : FnScope N31 A31 (defScope (top 31)) := ⟨rfl, rfl, rfl, by decide +kernel, rfl, by decide +kernel, by decide +kernel⟩
abbrev N32 : List Str := ["many", "pairs", "found", "turn", "later", "order", "rest", "comer", "other"]
abbrev A32 : List Str := ["many", "pairs"]
theorem sc32 : FnScope N32 A32 (defScope (top 32)) := ⟨rfl, rfl, rfl, by decide +kernel, rfl, by decide +kernel, by decide +kernel⟩
abbrev N33 : List Str := ["lots", "row", "order", "told", "flags", "comer", "seat"]
abbrev A33 : List Str := ["lots", "row", "order"]
theorem sc33 : FnScope N33 A33 (defScope (top 33)) := ⟨rfl, rfl, rfl, by decide +kernel, rfl, by decide +kernel, by decide +kernel⟩
abbrev N34_0 : List Str := ["self", "lots", "row", "order"]
abbrev A34_0 : List Str := ["self", "lots", "row"]
theorem sc34_0 : FnScope N34_0 A34_0 (defScope (inClass (top 34) 0)) := ⟨rfl, rfl, rfl, by decide +kernel, rfl, by decide +kernel, by decide +kernel⟩
abbrev N34_1 : List Str := ["self", "orders", "first", "order"]
abbrev A34_1 : List Str := ["self", "orders"]
theorem sc34_1 : FnScope N34_1 A34_1 (defScope (inClass (top 34) 1)) := ⟨rfl, rfl, rfl, by decide +kernel, rfl, by decide +kernel, by decide +kernel⟩
abbrev N34_2 : List Str := ["self", "orders", "found", "one", "other", "first", "second", "order"]
abbrev A34_2 : List Str := ["self", "orders"]
theorem sc34_2 : FnScope N34_2 A34_2 (defScope (inClass (top 34) 2)) := ⟨rfl, rfl, rfl, by decide +kernel, rfl, by decide +kernel, by decide +kernel⟩
abbrev N34_3 : List Str := ["self", "orders", "found", "part", "depth"]
abbrev A34_3 : List Str := ["self", "orders"]
theorem sc34_3 : FnScope N34_3 A34_3 (defScope (inClass (top 34) 3)) := ⟨rfl, rfl, rfl, by decide +kernel, rfl, by decide +kernel, by decide +kernel⟩
abbrev N34_4 : List Str := ["self", "orders", "part"]
abbrev A34_4 : List Str := ["self", "orders"]
theorem sc34_4 : FnScope N34_4 A34_4 (defScope (inClass (top 34) 4)) := ⟨rfl, rfl, rfl, by decide +kernel, rfl, by decide +kernel, by decide +kernel⟩
abbrev N35 : List Str := ["seats", "row", "known", "pairs"]
abbrev A35 : List Str := ["seats", "row", "known"]
theorem sc35 : FnScope N35 A35 (defScope (top 35)) := ⟨rfl, rfl, rfl, by decide +kernel, rfl, by decide +kernel, by decide +kernel⟩
abbrev N36 : List Str := ["seats", "row", "known", "asking", "orders"]
abbrev A36 : List Str := ["seats", "row", "known"]
theorem sc36 : FnScope N36 A36 (defScope (top 36)) := ⟨rfl, rfl, rfl, by decide +kernel, rfl, by decide +kernel, by decide +kernel⟩
abbrev N37 : List Str := ["seats", "row", "known", "asking", "orders"]
abbrev A37 : List Str := ["seats", "row", "known"]
theorem sc37 : FnScope N37 A37 (defScope (top 37)) := ⟨rfl, rfl, rfl, by decide +kernel, rfl, by decide +kernel, by decide +kernel⟩
abbrev N38 : List Str := ["asking", "orders", "thing", "one", "other", "first", "second", "flag"]
abbrev A38 : List Str := ["asking", "orders", "thing"]
theorem sc38 : FnScope N38 A38 (defScope (top 38)) := ⟨rfl, rfl, rfl, by decide +kernel, rfl, by decide +kernel, by decide +kernel⟩
abbrev N39 : List Str := ["seats", "row", "known", "thing", "asking", "orders"]
abbrev A39 : List Str := ["seats", "row", "known", "thing"]
theorem sc39 : FnScope N39 A39 (defScope (top 39)) := ⟨rfl, rfl, rfl, by decide +kernel, rfl, by decide +kernel, by decide +kernel⟩
abbrev N41 : List Str := ["_law_told", "_law_due"]
abbrev A41 : List Str := ["_law_told", "_law_due"]
theorem sc41 : FnScope N41 A41 (defScope (top 41)) := ⟨rfl, rfl, rfl, by decide +kernel, rfl, by decide +kernel, by decide +kernel⟩
abbrev N42 : List Str := ["_law_script"]
abbrev A42 : List Str := ["_law_script"]
theorem sc42 : FnScope N42 A42 (defScope (top 42)) := ⟨rfl, rfl, rfl, by decide +kernel, rfl, by decide +kernel, by decide +kernel⟩
abbrev N43 : List Str := ["_law_tape_here", "_law_many", "_law_digit", "_law_cell", "_law_mixed"]
abbrev A43 : List Str := ["_law_tape_here", "_law_many"]
theorem sc43 : FnScope N43 A43 (defScope (top 43)) := ⟨rfl, rfl, rfl, by decide +kernel, rfl, by decide +kernel, by decide +kernel⟩
abbrev N44 : List Str := ["_law_marks_here", "_law_found", "_law_mark", "_law_kind"]
abbrev A44 : List Str := ["_law_marks_here"]
theorem sc44 : FnScope N44 A44 (defScope (top 44)) := ⟨rfl, rfl, rfl, by decide +kernel, rfl, by decide +kernel, by decide +kernel⟩
abbrev N46 : List Str := ["_law_tape_here", "_law_every", "_law_few", "_law_found", "_law_kind", "_law_k"]
abbrev A46 : List Str := ["_law_tape_here", "_law_every"]
theorem sc46 : FnScope N46 A46 (defScope (top 46)) := ⟨rfl, rfl, rfl, by decide +kernel, rfl, by decide +kernel, by decide +kernel⟩
abbrev N47 : List Str := ["_law_tape_here", "_law_every", "_law_most", "_law_found", "_law_k"]
abbrev A47 : List Str := ["_law_tape_here", "_law_every", "_law_most"]
theorem sc47 : FnScope N47 A47 (defScope (top 47)) := ⟨rfl, rfl, rfl, by decide +kernel, rfl, by decide +kernel, by decide +kernel⟩
abbrev N49 : List Str := ["_law_lots_here", "_law_row_here", "_law_used", "_law_found", "_law_kind", "_law_mine", "_law_seat"]
abbrev A49 : List Str := ["_law_lots_here", "_law_row_here"]
theorem sc49 : FnScope N49 A49 (defScope (top 49)) := ⟨rfl, rfl, rfl, by decide +kernel, rfl, by decide +kernel, by decide +kernel⟩
abbrev N50 : List Str := ["_law_tape_here", "_law_things"]
abbrev A50 : List Str := ["_law_tape_here"]
theorem sc50 : FnScope N50 A50 (defScope (top 50)) := ⟨rfl, rfl, rfl, by decide +kernel, rfl, by decide +kernel, by decide +kernel⟩
abbrev N51 : List Str := ["_law_thing", "_law_least_here", "_law_most"]
abbrev A51 : List Str := ["_law_thing", "_law_least_here", "_law_most"]
theorem sc51 : FnScope N51 A51 (defScope (top 51)) := ⟨rfl, rfl, rfl, by decide +kernel, rfl, by decide +kernel, by decide +kernel⟩
abbrev N57 : List Str := ["_law_many", "_law_pairs", "_law_found", "_law_comer", "_law_longer", "_law_order", "_law_right", "_law_at", "_law_pair"]
abbrev A57 : List Str := ["_law_many", "_law_pairs"]
theorem sc57 : FnScope N57 A57 (defScope (top 57)) := ⟨rfl, rfl, rfl, by decide +kernel, rfl, by decide +kernel, by decide +kernel⟩
abbrev N58 : List Str := ["_law_lots_here", "_law_row_here", "_law_order", "_law_told", "_law_comer"]
abbrev A58 : List Str := ["_law_lots_here", "_law_row_here", "_law_order"]
theorem sc58 : FnScope N58 A58 (defScope (top 58)) := ⟨rfl, rfl, rfl, by decide +kernel, rfl, by decide +kernel, by decide +kernel⟩
abbrev N59 : List Str := ["_law_orders_here", "_law_one", "_law_other", "_law_first", "_law_order"]
abbrev A59 : List Str := ["_law_orders_here", "_law_one", "_law_other"]
theorem sc59 : FnScope N59 A59 (defScope (top 59)) := ⟨rfl, rfl, rfl, by decide +kernel, rfl, by decide +kernel, by decide +kernel⟩
abbrev N60 : List Str := ["_law_many", "_law_flags_here", "_law_orders_here", "_law_known", "_law_key", "_law_told", "_law_best", "_law_one", "_law_other", "_law_first", "_law_second", "_law_deep", "_law_order"]
abbrev A60 : List Str := ["_law_many", "_law_flags_here", "_law_orders_here", "_law_known"]
theorem sc60 : FnScope N60 A60 (defScope (top 60)) := ⟨rfl, rfl, rfl, by decide +kernel, rfl, by decide +kernel, by decide +kernel⟩
abbrev N61 : List Str := ["_law_many", "_law_flags_here", "_law_orders_here", "_law_thing", "_law_first", "_law_second", "_law_one", "_law_other", "_law_order", "_law_flag_here"]
abbrev A61 : List Str := ["_law_many", "_law_flags_here", "_law_orders_here", "_law_thing"]
theorem sc61 : FnScope N61 A61 (defScope (top 61)) := ⟨rfl, rfl, rfl, by decide +kernel, rfl, by decide +kernel, by decide +kernel⟩
abbrev N62 : List Str := ["_law_tape_here", "_law_many", "_law_flags_here", "_law_orders_here", "_law_told", "_law_turn", "_law_one", "_law_other", "_law_first", "_law_second", "_law_order"]
abbrev A62 : List Str := ["_law_tape_here", "_law_many", "_law_flags_here", "_law_orders_here"]
theorem sc62 : FnScope N62 A62 (defScope (top 62)) := ⟨rfl, rfl, rfl, by decide +kernel, rfl, by decide +kernel, by decide +kernel⟩
abbrev N63 : List Str := ["_law_tape_here", "_law_thing", "_law_at"]
abbrev A63 : List Str := ["_law_tape_here", "_law_thing"]
theorem sc63 : FnScope N63 A63 (defScope (top 63)) := ⟨rfl, rfl, rfl, by decide +kernel, rfl, by decide +kernel, by decide +kernel⟩
abbrev N64 : List Str := ["_law_kind", "_law_seats", "_law_row_here", "_law_known", "_law_found", "e", "_law_flags_here", "_law_k"]
abbrev A64 : List Str := ["_law_kind", "_law_seats", "_law_row_here", "_law_known"]
theorem sc64 : FnScope N64 A64 (defScope (top 64)) := ⟨rfl, rfl, rfl, by decide +kernel, rfl, by decide +kernel, by decide +kernel⟩
abbrev N65 : List Str := ["_law_seats", "_law_row_here", "_law_every", "_law_known", "_law_long", "_law_kind", "_law_pairs"]
abbrev A65 : List Str := ["_law_seats", "_law_row_here", "_law_every", "_law_known"]
theorem sc65 : FnScope N65 A65 (defScope (top 65)) := ⟨rfl, rfl, rfl, by decide +kernel, rfl, by decide +kernel, by decide +kernel⟩
abbrev N66 : List Str := ["_law_script", "_law_tape_here", "_law_marks_here", "_law_every", "_law_lots_here", "_law_many", "_law_row_here", "_law_seats", "_law_order", "_law_known", "_law_k", "_law_at", "_law_orders_here", "_law_flags_here", "_law_one", "_law_least_here", "_law_told", "_law_own_here", "_law_thing", "_law_due"]
abbrev A66 : List Str := ["_law_script"]
theorem sc66 : FnScope N66 A66 (defScope (top 66)) := ⟨rfl, rfl, rfl, by decide +kernel, rfl, by decide +kernel, by decide +kernel⟩
end K14

set_option Elab.async false
set_option linter.all false
set_option maxRecDepth 100000
set_option maxHeartbeats 4000000
namespace K14
open PySem L2
/-! ### the head: what is looked at behind the top -/
def dd (x : Str) (i : Nat) : He.DefD := ⟨(x, none), x, x, defArgs (top i), defBody (top i), defScope (top i), [], []⟩
def dm (c x q : Str) (st : Stmt) : He.DefD := ⟨(c, some x), x, q, defArgs st, defBody st, defScope st, [], []⟩
def hfn1 : List He.DefD := [dd "is_integer" 11, dd "is_within" 12, dd "is_pair" 13, dd "is_ascending" 14, dd "is_marks" 15, dd "is_kind" 16, dd "is_lot" 17, dd "is_row" 18, dd "check_row" 19, dd "first_no_lot" 21, dd "first_seat" 24, dd "led" 25, dd "is_known" 29, dd "closed_pairs" 30, dd "check_known" 31, dd "orders_of" 32, dd "flags_of" 33, dd "asking_of" 35, dd "asked_least" 36, dd "tree" 37, dd "is_tree_for" 38, dd "is_tree" 39, dd "_law_flag" 41, dd "_law_tape" 42, dd "_law_pick" 43, dd "_law_kinds" 44, dd "_law_lot" 46, dd "_law_lots" 47, dd "_law_led" 49, dd "_law_odd" 50]
def hfn2 : List He.DefD := [dd "_law_is_int" 51, dd "_law_orders" 57, dd "_law_flags" 58, dd "_law_parted" 59, dd "_law_least" 60, dd "_law_depth" 61, dd "_law_own" 62, dd "_law_bent" 63, dd "_law_tried" 64, dd "_law_refuses" 65, dd "law" 66, dm "TooMany" "__init__" "TooMany.__init__" (inClass (top 5) 0), dm "Seats" "__init__" "Seats.__init__" (inClass (top 22) 0), dm "Asking" "__init__" "Asking.__init__" (inClass (top 34) 0), dm "Asking" "told" "Asking.told" (inClass (top 34) 1), dm "Asking" "parts" "Asking.parts" (inClass (top 34) 2), dm "Asking" "best" "Asking.best" (inClass (top 34) 3), dm "Asking" "tree" "Asking.tree" (inClass (top 34) 4)]
def hfn : List He.DefD := hfn1 ++ hfn2
def hfa1 : List He.Fa := [.free "len", .free "range", .free "isinstance", .free "int", .free "bool", .free "str", .free "tuple", .free "list", .free "any", .free "all", .free "max", .free "min", .free "sorted", .free "zip", .free "enumerate", .free "repr", .int "MOST_MARKS" 5, .int "MOST_SEATS" 40, .int "MOST_COMERS" 200, .int "MOST_ASKED" 5, .int "MOST_PAIRS" 200, .str "SMALL" "abcdefghijklmnopqrstuvwxyz", .glo "is_integer", .glo "is_within", .glo "is_pair", .glo "is_ascending", .glo "is_marks", .glo "is_kind", .glo "is_lot", .glo "is_row"]
def hfa2 : List He.Fa := [.glo "check_row", .glo "first_no_lot", .glo "first_seat", .glo "led", .glo "is_known", .glo "closed_pairs", .glo "check_known", .glo "orders_of", .glo "flags_of", .glo "asking_of", .glo "asked_least", .glo "tree", .glo "is_tree_for", .glo "is_tree", .glo "_law_flag", .glo "_law_tape", .glo "_law_pick", .glo "_law_kinds", .glo "_law_lot", .glo "_law_lots", .glo "_law_led", .glo "_law_odd", .glo "_law_is_int", .glo "_law_orders", .glo "_law_flags", .glo "_law_parted", .glo "_law_least", .glo "_law_depth", .glo "_law_own", .glo "_law_bent"]
def hfa3 : List He.Fa := [.glo "_law_tried", .glo "_law_refuses", .glo "law", .glo "SeatError", .glo "NoRow", .glo "NoKnown", .glo "TooMany", .glo "Seats", .glo "Asking", .cls "Seats", .noat "Seats" "marks", .noat "Seats" "lots", .mkr "Seats", .cls "Asking", .noat "Asking" "row", .noat "Asking" "flags", .noat "Asking" "least", .mkr "Asking", .meth "Asking" "told", .meth "Asking" "parts", .meth "Asking" "best", .meth "Asking" "tree", .exc "NoRow", .exc "NoKnown", .meth "TooMany" "__init__", .noat "TooMany" "most", .exm "NoRow" "SeatError" true, .exm "NoKnown" "SeatError" true, .exm "TooMany" "SeatError" true]
def hfa : List He.Fa := hfa1 ++ hfa2 ++ hfa3
/-- the class of an exception as the catching rules want it -/
def catB (K : PySem.W.Frag) (D : Addr) : Bool := He.eqO (PySem.W.findIn K (.ref D) "__getattribute__") (some (some (.builtin "BaseException.__getattribute__"))) && (He.eqO (PySem.W.findIn K (.ref D) "__getattr__") (some none) && (decide (PySem.W.subIn K (.ref D) (.type "BaseException") = some true) && (PySem.W.hasDictIn K D && (He.eqO (PySem.W.findIn K (.ref D) "__class__") (some (some (.builtin "object.__class__"))) &&
  (He.eqO (PySem.W.specialIn K (.builtin "object.__class__") "__get__") (some (some (.builtin "getset_descriptor.__get__"))) && (decide (PySem.W.takesIn K (.builtin "object.__class__") = some true) && decide (PySem.W.mroIn K D (.type "object") = some true)))))))
theorem catB_ok {K : PySem.W.Frag} {D : Addr} (h : catB K D = true) : ExcC K D := by
  obtain ⟨h1, h⟩ := He.ba h
  obtain ⟨h2, h⟩ := He.ba h
  obtain ⟨h3, h⟩ := He.ba h
  obtain ⟨h4, h⟩ := He.ba h
  obtain ⟨h5, h⟩ := He.ba h
  obtain ⟨h6, h⟩ := He.ba h
  obtain ⟨h7, h8⟩ := He.ba h
  exact ⟨He.eqO_ok h1, He.eqO_ok h2, of_decide_eq_true h3, h4, He.eqO_ok h5, He.eqO_ok h6, of_decide_eq_true h7, of_decide_eq_true h8⟩
/-- the class of an exception whose own __init__ stores a field -/
def shpB (K : PySem.W.Frag) (C : Addr) : Bool := match K.lookup C with
  | some ⟨.type t, _, .cls ⟨_, _, mro, _, _, hd, _, _, _, _, del⟩, ⟨[_, _, _, _, some (.builtin n), _]⟩⟩ => (match mro with
    | .ref D :: bm => decide (t = "type") && (decide (D = C) && (decide (n = "ValueError.__new__") && (hd && (!del && PySem.HandSPX.refsVE bm))))
    | _ => false)
  | _ => false
def oexB (K : PySem.W.Frag) (C : Addr) : Bool := shpB K C && (He.eqO (PySem.W.findIn K (.ref C) "__setattr__") (some (some (.builtin "object.__setattr__"))) && (decide (PySem.W.subIn K (.ref C) (.type "BaseException") = some true) && (decide (PySem.W.typeIn K (.ref C) = some (.type "type")) && PySem.W.keepIn K (.ref C))))
theorem oexB_ok {K : PySem.W.Frag} {C : Addr} (h : oexB K C = true) : OexC K C := by
  obtain ⟨h1, h⟩ := He.ba h
  obtain ⟨h2, h⟩ := He.ba h
  obtain ⟨h3, h⟩ := He.ba h
  obtain ⟨h4, h5⟩ := He.ba h
  refine ⟨?_, He.eqO_ok h2, of_decide_eq_true h3, of_decide_eq_true h4, h5⟩
  unfold shpB at h1
  split at h1
  · rename_i t dd nm bs mro ns qn hd sn sb ab col del k0 k1 k2 k3 n k5 ho
    split at h1
    · rename_i D bm
      obtain ⟨g1, g⟩ := He.ba h1
      obtain ⟨g2, g⟩ := He.ba g
      obtain ⟨g3, g⟩ := He.ba g
      obtain ⟨g4, g⟩ := He.ba g
      obtain ⟨g5, g6⟩ := He.ba g
      have e1 : t = "type" := of_decide_eq_true g1
      have e2 : D = C := of_decide_eq_true g2
      have e3 : n = "ValueError.__new__" := of_decide_eq_true g3
      have e5 : del = false := by
        cases del with
        | false => rfl
        | true => cases g5
      subst e1 e2 e3 g4 e5
      exact ⟨nm, qn, ns, bs, bm, sn, sb, ab, col, dd, k0, k1, k2, k3, k5, ho, g6⟩
    · cases h1
  · cases h1
def kitF (K : PySem.W.Frag) (x y : Str) (b : Bool) : Bool := decide (PySem.W.kitOne K (.ref (He.ga K x)) (.ref (He.ga K y)) = some b)
theorem kitF_ok {K : PySem.W.Frag} {x y : Str} {b : Bool} (h : kitF K x y b = true) : PySem.W.kitOne K (.ref (He.ga K x)) (.ref (He.ga K y)) = some b := of_decide_eq_true h
/-- what the facts by names do not say -/
def moreB (K : PySem.W.Frag) : List Bool := [catB K (He.ga K "NoRow"), catB K (He.ga K "NoKnown"), catB K (He.ga K "TooMany"), oexB K (He.ga K "TooMany"), xfB K (He.ga K "TooMany"), kitF K "NoRow" "NoRow" true, kitF K "NoRow" "NoKnown" false, kitF K "NoRow" "TooMany" false, kitF K "NoKnown" "NoRow" false, kitF K "NoKnown" "NoKnown" true, kitF K "NoKnown" "TooMany" false, kitF K "TooMany" "NoRow" false, kitF K "TooMany" "NoKnown" false, kitF K "TooMany" "TooMany" true]
abbrev AlM : Type := He.AlD × Bool
def obsM (K : PySem.W.Frag) : AlM := (He.obsD hfa hfn K, (moreB K).all id)
def valM : AlM := (He.valD hfn, true)
def partM (g : Addr → Option Obj) : PySem.W.Frag := He.frG g (He.asD g 5)
def hookM : PySem.W.Hook where
  α := AlM
  obs := fun s => obsM (partM s.heap.get?)
  val := fun _ => valM
  says := fun _ h => ∃ K : PySem.W.Frag, K.In h ∧ obsM K = valM
  of := fun _ _ e => ⟨_, He.frG_in, e⟩
  keeps := fun _ _ _ ⟨K, hK, c⟩ k => ⟨K, PySem.W.Frag.In.keeps hK k, c⟩
def obM (s : PySem.W.SharedT) : AlM := obsM (partM (HandSHeadRun.getT s))
theorem obM_eq (s : PySem.W.SharedT) : obM s = hookM.obs s.abs := by
  have e : HandSHeadRun.getT s = s.abs.heap.get? := funext (HandSHeadRun.getT_eq s)
  unfold obM
  rw [e] <;> rfl
theorem obsM_d {K : PySem.W.Frag} (c : obsM K = valM) : He.SaysD hfa hfn K := congrArg (fun z : AlM => z.1) c
theorem obsM_more {K : PySem.W.Frag} (c : obsM K = valM) (i : Nat) {b : Bool} (h : (moreB K)[i]? = some b := by rfl) : b = true :=
  List.all_eq_true.mp (congrArg (fun z : AlM => z.2) c : (moreB K).all id = true) b (List.mem_of_getElem? h)
end K14

set_option Elab.async false
set_option linter.all false
set_option maxRecDepth 100000
set_option maxHeartbeats 4000000
namespace K14
open PySem L2
/-! ### the top's run -/
abbrev rowR : PySem.W.OpenRow := PySem.W.OpenLaw.row PySem.Challenge.rw_narrowahead_k14_whole_questions_that_are
abbrev viewQ : Program := PySem.W.view rowR.prog [66]
def names1 : List Str := ["SeatError", "NoRow", "NoKnown", "BadSeats", "TooMany", "SMALL", "MOST_MARKS", "MOST_SEATS", "MOST_COMERS", "is_integer", "is_within", "is_pair", "is_ascending", "is_marks", "is_kind", "is_lot", "is_row", "check_row", "first_no_lot", "Seats", "first_seat", "led", "MOST_ASKED", "MOST_PAIRS", "is_known", "closed_pairs", "check_known", "orders_of", "flags_of", "Asking"]
def names2 : List Str := ["asking_of", "asked_least", "tree", "is_tree_for", "is_tree", "_law_flag", "_law_tape", "_law_pick", "_law_kinds", "_law_marks", "_law_lot", "_law_lots", "_law_row", "_law_led", "_law_odd", "_law_is_int", "_law_is_up", "_law_is_marks", "_law_is_kind", "_law_is_lot", "_law_is_row", "_law_orders", "_law_flags", "_law_parted", "_law_least", "_law_depth", "_law_own", "_law_bent", "_law_tried", "_law_refuses"]
def namesR : List Str := names1 ++ names2
theorem runR (w : World) : HandSHeadRun.RunEq rowR viewQ hookM obM 4000 namesR w := by
  intro os
  kernel_rfl
end K14

set_option Elab.async false
set_option linter.all false
set_option maxRecDepth 100000
set_option maxHeartbeats 4000000
namespace K14
open PySem L2
section
variable {P : Program} {w : World} {K : PySem.W.Frag} {mg : Str → Option Value} {base : Heap} {f : Addr} {fd : FuncData}
/-! ### checks -/
def okInteger (ds : List D) (Q : D → Prop) : Prop := ∃ d, ds = [d] ∧ kn d = true ∧ Q = fun z => z = .bl (isInt d && !isBl d)
theorem ok11 (F : FnP K "is_integer" (top 11) f fd) (T : Tx mg) : FnOk P w K mg base CX0 1 f fd A11 (spN okInteger) := by
  refine fn_data F sc11 (fun ds Q ⟨d, h, _⟩ => by rw [h]; rfl) fun cdv A outer s H E W ds Q B hr h => ?_
  obtain ⟨d, rfl, hk, rfl⟩ := h
  exact ss_ret (ed_and (ed_isInt T.isinst T.int (ed_var 0) hk) fun _ => ed_one (ed_not (ed_isBl T.isinst T.bool (ed_var 0) hk)))
theorem integer_is {d : D} (h : (isInt d && !isBl d) = true) : ∃ i, d = .int i := by cases d <;> simp [isInt, isBl] at h; exact ⟨_, rfl⟩
def withinD (d : D) (lo hi : Int) : Bool := match d with
  | .int i => decide (lo ≤ i) && decide (i ≤ hi)
  | _ => false
def okWithin (ds : List D) (Q : D → Prop) : Prop := ∃ d lo hi, ds = [d, .int lo, .int hi] ∧ kn d = true ∧ Q = fun z => z = .bl (withinD d lo hi)
theorem ok12 (F : FnP K "is_within" (top 12) f fd) (T : Tx mg) (C : Cal P w K mg base CX0 1 "is_integer" A11 (spN okInteger)) : FnOk P w K mg base CX0 2 f fd A12 (spN okWithin) := by
  refine fn_data F sc12 (fun ds Q ⟨d, lo, hi, h, _⟩ => by rw [h]; rfl) fun cdv A outer s H E W ds Q B hr h => ?_
  obtain ⟨d, lo, hi, rfl, hk, rfl⟩ := h
  by_cases q : (isInt d && !isBl d) = true
  · obtain ⟨i, rfl⟩ := integer_is q
    exact ss_ret (ed_and (ed_cal C hr pass0 (ad_cons (ed_var 0) ad_nil) ⟨_, rfl, hk, rfl⟩) fun _ => ed_one (ed_leLe (ed_var 1) (ed_var 0) (ed_var 2)))
  · have z : withinD d lo hi = ((isInt d && !isBl d) && true) := by cases d <;> first | rfl | (exfalso; exact q rfl)
    rw [z]
    exact ss_ret (ed_and (ed_cal C hr pass0 (ad_cons (ed_var 0) ad_nil) ⟨_, rfl, hk, rfl⟩) fun h => absurd h q)
def isPair : D → Bool
  | .tup [_, _] => true
  | _ => false
def okPair (ds : List D) (Q : D → Prop) : Prop := ∃ d, ds = [d] ∧ kn d = true ∧ Q = fun z => z = .bl (isPair d)
theorem ok13 (F : FnP K "is_pair" (top 13) f fd) (T : Tx mg) : FnOk P w K mg base CX0 1 f fd A13 (spN okPair) := by
  refine fn_data F sc13 (fun ds Q ⟨d, h, _⟩ => by rw [h]; rfl) fun cdv A outer s H E W ds Q B hr h => ?_
  obtain ⟨d, rfl, hk, rfl⟩ := h
  cases d with
  | tup xs =>
    have e : isPair (.tup xs) = (isTup (.tup xs) && decide ((xs.length : Int) = 2)) := by
      match xs with
      | [] => rfl
      | [_] => rfl
      | [_, _] => rfl
      | _ :: _ :: _ :: _ => simp [isPair, isTup]; omega
    rw [e]
    exact ss_ret (ed_and (ed_isTup T.isinst T.tuple (ed_var 0) hk) fun _ => ed_one (ed_eqI (ed_lenT T.len (ed_var 0)) ed_int))
  | _ => exact ss_ret (ed_and0 (ed_isTup T.isinst T.tuple (ed_var 0) hk))

/-! ### ascending -/
def ascS (z : Str) : Bool := ((List.range (z.length - 1)).map fun i => decide ([z.cps.toList.getD i 0] < [z.cps.toList.getD (i + 1) 0])).all id
def ascT (ss : List Str) : Bool := ((List.range (ss.length - 1)).map fun i => decide ((ss.getD i Str.empty).cps.toList < (ss.getD (i + 1) Str.empty).cps.toList)).all id
def okAscending (ds : List D) (Q : D → Prop) : Prop := (∃ z : Str, ds = [.str z] ∧ z.length ≤ 1000 ∧ Q = fun d => d = .bl (ascS z)) ∨ ∃ ss : List Str, ds = [.tup (ss.map .str)] ∧ ss.length ≤ 1000 ∧ Q = fun d => d = .bl (ascT ss)
theorem rngD_eq (lo : Int) (n : Nat) : rngD lo n = (List.range n).map fun i => D.int (lo + (i : Nat)) := rfl
theorem ok14 (F : FnP K "is_ascending" (top 14) f fd) (T : Tx mg) : FnOk P w K mg base CX0 1 f fd A14 (spN okAscending) := by
  refine fn_data F sc14 (fun ds Q h => by rcases h with ⟨_, h, _⟩ | ⟨_, h, _⟩ <;> rw [h] <;> rfl) fun cdv A outer s H E W ds Q B hr h => ?_
  rcases h with ⟨z, rfl, hl, rfl⟩ | ⟨ss, rfl, hl, rfl⟩
  · have hn : ((z.length : Int) - 1).toNat = z.length - 1 := by omega
    refine ss_ret (ed_all rfl T.all (EE.is (ed_map1A 1 (List.range ((z.length : Int) - 1).toNat) (fun i => .int (1 + (i : Nat))) (fun i => .bl (decide ([z.cps.toList.getD i 0] < [z.cps.toList.getD (i + 1) 0]))) rfl sc14.nd (id_range2 T.range ed_int (ed_lenS T.len (ed_var 0) (by omega)) (by omega))
      (blkOk_by (N := N14) (sc := defScope (top 14)) (by decide +kernel)) (by rw [List.length_range]; omega) (fun _ _ _ _ _ => pg_name sc14.nd rfl (Or.inl rfl)) fun i hi ys L nL s H C cl fp => ?_) ?_))
    · rw [List.mem_range] at hi
      have h1 : i + 1 < z.cps.toList.length := by show i + 1 < z.cps.size; have : z.length = z.cps.size := rfl; omega
      have g1 : z.cps.toList[(1 + (i : Int) - 1).toNat]? = some (z.cps.toList.getD i 0) := by
        rw [show (1 + (i : Int) - 1).toNat = i by omega, List.getD_eq_getElem?_getD, List.getElem?_eq_getElem (by omega)]; rfl
      have g2 : z.cps.toList[(1 + (i : Int)).toNat]? = some (z.cps.toList.getD (i + 1) 0) := by
        rw [show (1 + (i : Int)).toNat = i + 1 by omega, List.getD_eq_getElem?_getD, List.getElem?_eq_getElem (by omega)]; rfl
      exact ed_ltS (ed_ixS (ed_var 0) (ed_sub (ed_var 1) ed_int) (by omega) (by omega) g1) (ed_ixS (ed_var 0) (ed_var 1) (by omega) (by omega) g2)
    · rw [hn, List.map_map]; rfl
  · have hn : ((ss.length : Int) - 1).toNat = ss.length - 1 := by omega
    refine ss_ret (ed_all rfl T.all (EE.is (ed_map1A 1 (List.range (((ss.map D.str).length : Int) - 1).toNat) (fun i => .int (1 + (i : Nat))) (fun i => .bl (decide ((ss.getD i Str.empty).cps.toList < (ss.getD (i + 1) Str.empty).cps.toList))) rfl sc14.nd (id_range2 T.range ed_int (ed_lenT T.len (ed_var 0)) (by rw [List.length_map]; omega))
      (blkOk_by (N := N14) (sc := defScope (top 14)) (by decide +kernel)) (by rw [List.length_range, List.length_map]; omega) (fun _ _ _ _ _ => pg_name sc14.nd rfl (Or.inl rfl)) fun i hi ys L nL s H C cl fp => ?_) ?_))
    · rw [List.mem_range, List.length_map] at hi
      have h1 : i + 1 < ss.length := by omega
      have g1 : (ss.map D.str)[(1 + (i : Int) - 1).toNat]? = some (.str (ss.getD i Str.empty)) := by
        rw [show (1 + (i : Int) - 1).toNat = i by omega, List.getElem?_map, List.getD_eq_getElem?_getD, List.getElem?_eq_getElem (by omega)]; rfl
      have g2 : (ss.map D.str)[(1 + (i : Int)).toNat]? = some (.str (ss.getD (i + 1) Str.empty)) := by
        rw [show (1 + (i : Int)).toNat = i + 1 by omega, List.getElem?_map, List.getD_eq_getElem?_getD, List.getElem?_eq_getElem (by omega)]; rfl
      exact ed_ltS (ed_ixT (ed_var 0) (ed_sub (ed_var 1) ed_int) (by omega) g1) (ed_ixT (ed_var 0) (ed_var 1) (by omega) g2)
    · rw [List.length_map, hn, List.map_map]; rfl
end
end K14

set_option Elab.async false
set_option linter.all false
set_option maxRecDepth 100000
set_option maxHeartbeats 4000000
namespace K14
open PySem L2
section
variable {P : Program} {w : World} {K : PySem.W.Frag} {mg : Str → Option Value} {base : Heap} {f : Addr} {fd : FuncData}
/-! ### marks, kinds, lots, rows -/
def inAll (m z : Str) : Bool := (z.cps.toList.map fun c => decide (c ∈ m.cps.toList)).all id
def marksB (z : Str) : Bool := inAll "abcdefghijklmnopqrstuvwxyz" z && ascS z
def kindB (m z : Str) : Bool := inAll m z && ascS z
theorem len_cps (z : Str) : z.length = z.cps.toList.length := rfl
def okMarks (ds : List D) (Q : D → Prop) : Prop := ∃ z : Str, ds = [.str z] ∧ z.length ≤ 5 ∧ Q = fun d => d = .bl (marksB z)
theorem ok15 (F : FnP K "is_marks" (top 15) f fd) (T : Tx mg) (C : Cal P w K mg base CX0 1 "is_ascending" A14 (spN okAscending)) : FnOk P w K mg base CX0 2 f fd A15 (spN okMarks) := by
  refine fn_data F sc15 (fun ds Q ⟨_, h, _⟩ => by rw [h]; rfl) fun cdv A outer s H E W ds Q B hr h => ?_
  obtain ⟨z, rfl, hl, rfl⟩ := h
  obtain ⟨t5, m5⟩ := T.mMarks
  obtain ⟨tS, mS⟩ := T.small
  refine ss_skip (WB.tb (wb_or (tb_not (tb_val (ed_isStr T.isinst T.str (ed_var 0) rfl))) fun _ => wb_or1 (tb_gt (ed_lenS T.len (ed_var 0) (by omega)) (ed_gint m5)))) ?_ ?_
  · show (false || decide ((5 : Int) < z.length)) = false
    rw [decide_eq_false (by omega)]; rfl
  · refine ss_ret (ed_and (ed_all rfl T.all (EE.is (ed_map1A 1 z.cps.toList (fun c => .str ⟨#[c]⟩) (fun c => .bl (decide (c ∈ ("abcdefghijklmnopqrstuvwxyz" : Str).cps.toList))) rfl sc15.nd (id_str (ed_var 0)) (blkOk_by (N := N15) (sc := defScope (top 15)) (by decide +kernel))
      (by rw [← len_cps]; omega) (fun _ _ _ _ _ => pg_name sc15.nd rfl (Or.inl rfl)) fun c hc ys L nL s H C cl fp => ?_) ?_)) fun _ => ed_one (ed_cal C (hr.mono (by decide)) pass0 (ad_cons (ed_var 0) ad_nil) (.inl ⟨z, rfl, by omega, rfl⟩)))
    · exact ed_inSign (ed_var 1) (ed_gstr mS)
    · exact congrArg D.lst (by rw [List.map_map]; rfl)
def okKind (ds : List D) (Q : D → Prop) : Prop := ∃ m z : Str, ds = [.str m, .str z] ∧ z.length ≤ 1000 ∧ Q = fun d => d = .bl (kindB m z)
theorem ok16 (F : FnP K "is_kind" (top 16) f fd) (T : Tx mg) (C : Cal P w K mg base CX0 1 "is_ascending" A14 (spN okAscending)) : FnOk P w K mg base CX0 2 f fd A16 (spN okKind) := by
  refine fn_data F sc16 (fun ds Q ⟨_, _, h, _⟩ => by rw [h]; rfl) fun cdv A outer s H E W ds Q B hr h => ?_
  obtain ⟨m, z, rfl, hl, rfl⟩ := h
  refine ss_ret (ed_and (ed_isStr T.isinst T.str (ed_var 1) rfl) fun _ => ed_and (ed_all rfl T.all (EE.is (ed_map1A 2 z.cps.toList (fun c => .str ⟨#[c]⟩) (fun c => .bl (decide (c ∈ m.cps.toList))) rfl sc16.nd (id_str (ed_var 1)) (blkOk_by (N := N16) (sc := defScope (top 16)) (by decide +kernel))
      (by rw [← len_cps]; omega) (fun _ _ _ _ _ => pg_name sc16.nd rfl (Or.inl rfl)) fun c hc ys L nL s H C cl fp => ?_) ?_)) fun _ => ed_one (ed_cal C (hr.mono (by decide)) pass0 (ad_cons (ed_var 1) ad_nil) (.inl ⟨z, rfl, by omega, rfl⟩)))
  · exact ed_inSign (ed_var 2) (ed_var 0)
  · exact congrArg D.lst (by rw [List.map_map]; rfl)
def lotB (m : Str) (l : List Str) : Bool := !l.isEmpty && ((l.map (kindB m)).all id && ascT l)
def okLot (ds : List D) (Q : D → Prop) : Prop := ∃ (m : Str) (l : List Str), ds = [.str m, .tup (l.map .str)] ∧ l.length ≤ 1000 ∧ (∀ z ∈ l, z.length ≤ 1000) ∧ Q = fun d => d = .bl (lotB m l)
theorem ok17 (F : FnP K "is_lot" (top 17) f fd) (T : Tx mg) (C : Cal P w K mg base CX0 1 "is_ascending" A14 (spN okAscending)) (C2 : Cal P w K mg base CX0 2 "is_kind" A16 (spN okKind)) : FnOk P w K mg base CX0 3 f fd A17 (spN okLot) := by
  refine fn_data F sc17 (fun ds Q ⟨_, _, h, _⟩ => by rw [h]; rfl) fun cdv A outer s H E W ds Q B hr h => ?_
  obtain ⟨m, l, rfl, hl, hz, rfl⟩ := h
  refine ss_ifr (WB.tb (wb_or (tb_not (tb_val (ed_isTup T.isinst T.tuple (ed_var 1) rfl))) fun _ => wb_or1 (tb_eqI (ed_lenT T.len (ed_var 1)) ed_int))) (fun h => ?_) fun h => ?_
  · have e : lotB m l = false := by
      cases l with
      | nil => rfl
      | cons x l => exfalso; simp [isTup] at h; omega
    rw [e]
    exact ss_ret ed_bl
  · have e : lotB m l = ((l.map (kindB m)).all id && ascT l) := by
      cases l with
      | nil => cases h
      | cons x l => rfl
    rw [e]
    refine ss_ret (ed_and (ed_all rfl T.all (EE.is (ed_map1A 2 l D.str (fun z => .bl (kindB m z)) rfl sc17.nd (id_tup (ed_var 1)) (blkOk_by (N := N17) (sc := defScope (top 17)) (by decide +kernel))
      (by omega) (fun _ _ _ _ _ => pg_name sc17.nd rfl (Or.inl rfl)) fun z hzl ys L nL s H C cl fp => ?_) ?_)) fun _ => ed_one (ed_cal C (hr.mono (by decide)) pass0 (ad_cons (ed_var 1) ad_nil) (.inr ⟨l, rfl, by omega, rfl⟩)))
    · exact ed_cal C2 hr pass0 (ad_cons (ed_var 0) (ad_cons (ed_var 2) ad_nil)) ⟨m, z, rfl, hz z hzl, rfl⟩
    · exact congrArg D.lst (by rw [List.map_map]; rfl)
def rowB (m : Str) (l : List Str) : Bool := (l.map (kindB m)).all id
def okRow (ds : List D) (Q : D → Prop) : Prop := ∃ (m : Str) (l : List Str), ds = [.str m, .tup (l.map .str)] ∧ l.length ≤ 200 ∧ (∀ z ∈ l, z.length ≤ 1000) ∧ Q = fun d => d = .bl (rowB m l)
theorem ok18 (F : FnP K "is_row" (top 18) f fd) (T : Tx mg) (C2 : Cal P w K mg base CX0 2 "is_kind" A16 (spN okKind)) : FnOk P w K mg base CX0 3 f fd A18 (spN okRow) := by
  refine fn_data F sc18 (fun ds Q ⟨_, _, h, _⟩ => by rw [h]; rfl) fun cdv A outer s H E W ds Q B hr h => ?_
  obtain ⟨m, l, rfl, hl, hz, rfl⟩ := h
  obtain ⟨t5, m5⟩ := T.mComers
  refine ss_skip (WB.tb (wb_or (tb_not (tb_val (ed_isTup T.isinst T.tuple (ed_var 1) rfl))) fun _ => wb_or1 (tb_gt (ed_lenT T.len (ed_var 1)) (ed_gint m5)))) ?_ ?_
  · show (false || decide ((200 : Int) < (l.map D.str).length)) = false
    rw [List.length_map, decide_eq_false (by omega)]; rfl
  · refine ss_ret (ed_all rfl T.all (EE.is (ed_map1A 2 l D.str (fun z => .bl (kindB m z)) rfl sc18.nd (id_tup (ed_var 1)) (blkOk_by (N := N18) (sc := defScope (top 18)) (by decide +kernel))
      (by omega) (fun _ _ _ _ _ => pg_name sc18.nd rfl (Or.inl rfl)) fun z hzl ys L nL s H C cl fp => ?_) ?_))
    · exact ed_cal C2 hr pass0 (ad_cons (ed_var 0) (ad_cons (ed_var 2) ad_nil)) ⟨m, z, rfl, hz z hzl, rfl⟩
    · exact congrArg D.lst (by rw [List.map_map]; rfl)
end
end K14

set_option Elab.async false
set_option linter.all false
set_option maxRecDepth 100000
set_option maxHeartbeats 4000000
namespace K14
open PySem L2
/-! ### data that holds no object -/
def flatD : D → Bool
  | .non => true
  | .bl _ => true
  | .int _ => true
  | .str _ => true
  | _ => false
theorem flatD_rp {M M' : Ms} {H H' : Hp} {v : V} {d : D} (h : flatD d = true) (r : Rp M H v d) : Rp M' H' v d := by
  cases r with
  | non => exact .non
  | bl b => exact .bl b
  | int i => exact .int i
  | str x => exact .str x
  | _ => cases h
def M0 : Ms := fun _ => False
theorem Ext.of0 {M : Ms} {H H' : Hp} (e : Ext M0 H H') : Ext M H H' := ⟨fun a o _ h => e.keep a o (fun z => z) h, e.dom⟩
section
variable {X : Cx} {B : Bs} {W : Res} {Γ : List (V × D)} {ρ ρ' : List (Option D)} {P : D → Prop} {e a b c : Expr} {x y d : D} {pos : Pos} {rest : List Stmt} {E : Ends} {l : Addr}
/-- what changes nothing and gives no object may look at what is owned -/
theorem ed_pure (h : ED X Res.nil ρ' e P) (hρ : ∀ H σ, W.ok H → Sl W.m H σ ρ → Sl M0 H σ ρ') (hf : ∀ d, P d → flatD d = true) : ED X W ρ e P :=
  PEimp h fun σ H Q ⟨o, sl, q⟩ => ⟨trivial, hρ H σ o sl, fun d v H' ex _ p r => q d v H' ex.of0 (W.same o fun a u hu => ex.keep a u (fun z => z) hu) p (flatD_rp (hf d p) r)⟩
theorem Sl.to0 {M : Ms} {H : Hp} {σ : St} (s : Sl M H σ ρ) : Sl M0 H σ ρ := s.mono fun a o n h => ⟨fun z => z, h⟩
theorem Sl.show {M : Ms} {H : Hp} {σ : St} {ρ : List (Option D)} (s : Sl M0 H σ ρ) {i : Nat} {ds : List D} (hi : ρ[i]? = some (some (.obj l))) (o : (ownL ds).I M H l) : Sl M0 H σ (ρ.set i (some (.lst ds))) := by
  refine ⟨by rw [List.length_set]; exact s.len, fun j d h => ?_⟩
  rcases set_at h with ⟨rfl, rfl⟩ | h
  · obtain ⟨v, e, r⟩ := s.at_ _ _ hi
    cases r
    obtain ⟨vs, e2, r2⟩ := o
    exact ⟨.ref l, e, .lst (fun z => z) e2 (r2.mono fun a o n h => ⟨fun z => z, h⟩)⟩
  · exact s.at_ _ _ h
theorem Sl.showT {M : Ms} {H : Hp} {σ : St} {ρ : List (Option D)} (s : Sl M0 H σ ρ) {i : Nat} {ds : List (List Int × D)} (hi : ρ[i]? = some (some (.obj l))) (o : (ownT ds).I M H l) : Sl M0 H σ (ρ.set i (some (.dic ds))) := by
  refine ⟨by rw [List.length_set]; exact s.len, fun j d h => ?_⟩
  rcases set_at h with ⟨rfl, rfl⟩ | h
  · obtain ⟨v, e, r⟩ := s.at_ _ _ hi
    cases r
    obtain ⟨vs, e2, r2⟩ := o
    exact ⟨.ref l, e, .dic (fun z => z) e2 (r2.mono fun a o n h => ⟨fun z => z, h⟩)⟩
  · exact s.at_ _ _ h
/-! ### an expression whose value is a new list (a new dict), to be owned -/
def tN (W : Res) (ρ : List (Option D)) (P : Cell → Prop) : TE := fun σ H Q => W.ok H ∧ Sl W.m H σ ρ ∧ ∀ p H' c, P c → H p = none → Ext W.m H H' → (W.add p c).ok H' → Q (.ref p) H'
abbrev EN (X : Cx) (W : Res) (ρ : List (Option D)) (e : Expr) (P : Cell → Prop) : Prop := PE X e (tN W ρ P)
theorem at_own {σ : St} {H H' : Hp} {p : Addr} {c : Cell} (a : At B W Γ ρ σ H) (hp : H p = none) (ex : Ext W.m H H') (o : (W.add p c).ok H') : At B (W.add p c) Γ ρ σ H' := by
  have k : Keeps W.m (W.add p c).m H H' := fun b u n hb => ⟨fun z => z.elim n (fun z => by rw [z, hp] at hb; cases hb), ex.keep b u n hb⟩
  exact ⟨ext_own a.own a.ext ex, o, a.sl.mono k, fun q hq => (a.gh q hq).mono k, fun b m => m.elim (a.own b) fun z => .inr (by rw [z]; exact a.ext.dom p hp)⟩
theorem ss_own (i : Nat) {P : Cell → Prop} {n : Str} {p : Pos} (ha : EN X W ρ e P) (h2 : ∀ l c, P c → ¬ W.m l → SS X (At B (W.add l c) Γ (ρ.set i (some (.obj l)))) rest E) (hN : X.N.Nodup := by assumption) (hi : X.N[i]? = some n := by rfl) (hl : Loc X.env.scope n := by first | exact Or.inl rfl | exact Or.inr rfl)
    (hf : X.fn n = true ∨ X.env.scope.names.lookup n = some .local := by first | exact .inl rfl | exact .inr rfl) (hs : swapsWith e (some (.Name n p)) pos.line X.env = pure false := by rfl) : SS X (At B W Γ ρ) (.Assign [.Name n p] e pos :: rest) E :=
  ss_cons (Ψ := fun σ H => ∃ q : Addr × Cell, (P q.2 ∧ ¬ W.m q.1) ∧ At B (W.add q.1 q.2) Γ (ρ.set i (some (.obj q.1))) σ H) (ps_asg ha (pg_name hN hi hl hf) hs)
    (fun Dn σ H at_ kn _ _ _ => ⟨at_.ok, at_.sl, fun l H' c pc hp ex o => kn _ _ ⟨(l, c), ⟨pc, W.fresh at_.ok hp⟩, (at_own at_ hp ex o).set i (.obj l)⟩⟩) (SS.exP fun q hq => h2 q.1 q.2 hq.1 hq.2)
theorem ok_own {H H1 : Hp} {p : Addr} {c : Cell} {o : HO} (ok : W.ok H1) (hp : H1 p = none) (hc : c.I (W.add p c).m (upd H1 p o) p) : (W.add p c).ok (upd H1 p o) := by
  have g : ∀ b, (W.add p c).m b → W.m b ∨ H1 b = none := fun b m => m.elim .inl fun z => .inr (by rw [z]; exact hp)
  exact ⟨W.stab (W.grow ok g) (fun b m => upd_ne fun z => W.dom ok m (by rw [z]; exact hp)) (fun b u _ hb => by rw [upd_ne (ne_of_none hb hp)]; exact hb), hc⟩
theorem RpL.grow_new {H1 : Hp} {p : Addr} {c : Cell} {o : HO} {vs : List V} {ds : List D} (r : RpL W.m H1 vs ds) (hp : H1 p = none) : RpL (W.add p c).m (upd H1 p o) vs ds :=
  r.mono fun b u n hb => ⟨fun z => z.elim n (fun z => by rw [z, hp] at hb; cases hb), by rw [upd_ne (ne_of_none hb hp)]; exact hb⟩
def natD (n : Nat) : D := .int (n : Int)
theorem rgV_nat (n : Nat) : rgV 0 (n : Int) = (List.range n).map fun (i : Nat) => V.int (i : Int) := by
  unfold rgV
  rw [show ((n : Int) - 0).toNat = n by omega]
  refine List.map_congr_left fun i _ => ?_
  rw [Int.zero_add]
theorem RpL.nats {M : Ms} {H : Hp} (l : List Nat) : RpL M H (l.map fun (i : Nat) => V.int (i : Int)) (l.map natD) := by
  induction l with
  | nil => exact .nil
  | cons n l ih => exact .cons (.int _) ih
/-- list(range(n)) -/
theorem en_listRange {n : Nat} {p p2 pos2 : Pos} (hcalm : X.calm = true) (hm : X.mg "list" = none) (hm2 : X.mg "range" = none) (ha : EE X W ρ a (.int n)) (hn : n ≤ 100000) (hg : Gl X "list" := by rfl) (hg2 : Gl X "range" := by rfl) (hs : starEach [a] X.env = (false, eval a X.env) :: starEach [] X.env := by rfl)
    (hs2 : starEach [.Call (.Name "range" p2) [a] [] pos2] X.env = (false, eval (.Call (.Name "range" p2) [a] [] pos2) X.env) :: starEach [] X.env := by rfl) : EN X W ρ (.Call (.Name "list" p) [.Call (.Name "range" p2) [a] [] pos2] [] pos) (fun c => c = ownL ((List.range n).map natD)) :=
  PEimp (pe_listRg hcalm hg hm (prg_1 hg2 hm2 ha hs) hs2) fun σ H Q ⟨o, sl, q⟩ => ⟨o, sl, fun z v H1 e1 o1 hz r => by
    subst hz
    cases r
    refine ⟨n, rfl, .of_le (by omega) (by omega) (by omega) (by omega), fun l hl => q l _ _ rfl (e1.dom l hl) (e1.trans (.new hl)) (ok_own (H := H) o1 hl ⟨_, upd_same, ?_⟩)⟩
    rw [rgV_nat]
    exact RpL.nats _⟩
theorem lt_idx : ∀ {l : List Nat} {m k : Nat}, m < l.idxOf k → l[m]? ≠ some k
  | [], _, _, h => by simp at h
  | x :: l, m, k, h => by
    by_cases e : x = k
    · subst e; rw [List.idxOf_cons_self] at h; omega
    · rw [idx_ne_cons _ e] at h
      cases m with
      | zero => intro z; exact e (Option.some.inj z)
      | succ m => exact lt_idx (l := l) (by omega)
/-- xs.remove(k), xs an owned list of numbers -/
theorem ss_remove (i : Nat) {n : Str} {p apos cpos : Pos} {ns : List Nat} {k : Nat} (hl : ¬ W.m l) (ha : EE X (W.add l (ownL (ns.map natD))) ρ e (natD k)) (hk : k ∈ ns) (h2 : SS X (At B (W.add l (ownL ((ns.erase k).map natD))) Γ ρ) rest E) (hi : ρ[i]? = some (some (.obj l)) := by rfl)
    (hN : X.N[i]? = some n := by rfl) (hv : Vis X.env.scope n := by first | exact Or.inl rfl | exact Or.inr (Or.inl rfl) | exact Or.inr (Or.inr rfl)) (hd : (n == ("__debug__" : Str)) = false := by decide) (hcd : (n == ("__classdict__" : Str)) = false := by decide)
    (hst : starEach [e] X.env = (false, eval e X.env) :: starEach [] X.env := by rfl) (hs : swapsWith (.Call (.Attribute (.Name n p) "remove" apos) [e] [] cpos) none pos.line X.env = pure false := by rfl)
    (hbase : attributeBase (.Name n p) "remove" X.env (eval (.Name n p) X.env) = eval (.Name n p) X.env := by rfl) (hline : (apos.endLine == cpos.line) = true := by rfl)
    (hfew : ((backTo cpos (starEach [e] X.env)).all (fun x => !x.1) && (backToKw cpos (keywordEach [] X.env)).all (fun x => x.1.isSome) && decide (([e] : List Expr).length + ([] : List Keyword).length + (if ([] : List Keyword).isEmpty then 0 else 1) < 30)) = true := by rfl) :
    SS X (At B (W.add l (ownL (ns.map natD))) Γ ρ) (.Expr (.Call (.Attribute (.Name n p) "remove" apos) [e] [] cpos) pos :: rest) E :=
  ss_cons (Ψ := At B (W.add l (ownL ((ns.erase k).map natD))) Γ ρ) (ps_expr (pe_bm PySem.F.plainAttrs_list PySem.F.slot_list_remove PySem.F.type_list_remove mt_remove (pe_var hN hv hd hcd) (pa_cons ha pa_nil hst) hbase hfew hline hst) hs)
    (fun Dn σ H at_ kn _ _ _ => by
      obtain ⟨v, ev, rv⟩ := at_.sl.at_ _ _ hi
      cases rv
      obtain ⟨vs, e0, r0⟩ := at_.ok.2
      refine ⟨.ref l, ev, ty_lst e0, at_.ok, at_.sl, fun d v H' e1 ok' pd r => ?_⟩
      subst pd
      cases r
      obtain ⟨us, e2, r2⟩ := id ok'.2
      have eu : us = (ns.map fun (i : Nat) => (i : Int)).map V.int := by
        have := r2
        rw [show ns.map natD = (ns.map fun (i : Nat) => (i : Int)).map D.int by rw [List.map_map]; rfl] at this
        exact this.ints
      subst eu
      have a2 := at_.go e1 ok'
      have hlt : ns.idxOf k < ns.length := List.idxOf_lt_length_of_mem hk
      have er : ns.eraseIdx (ns.idxOf k) = ns.erase k := (List.erase_eq_eraseIdx_of_idxOf rfl).symm
      have em : ∀ (l : List Nat) (j : Nat), (l.map fun (i : Nat) => (i : Int)).eraseIdx j = (l.eraseIdx j).map fun (i : Nat) => (i : Int) := by
        intro l
        induction l with
        | nil => intro j; simp
        | cons a l ih => intro j; cases j with
          | zero => simp
          | succ j => simp [ih j]
      refine ⟨l, ns.map fun (i : Nat) => (i : Int), (k : Int), ns.idxOf k, rfl, rfl, e2, ?_, fun m hm => ?_, kn _ _ ?_⟩
      · rw [List.getElem?_map, List.getElem?_eq_getElem hlt, List.getElem_idxOf hlt]; rfl
      · rw [List.getElem?_map]
        intro z
        obtain ⟨y, hy, ez⟩ := Option.map_eq_some_iff.mp z
        have ey : y = k := Int.ofNat.inj ez
        rw [ey] at hy
        exact lt_idx hm hy
      · rw [em, er, List.map_map]
        have ex : Ext (W.add l (ownL (ns.map natD))).m H' (upd H' l (.lst ((ns.erase k).map (V.int ∘ fun (i : Nat) => (i : Int))))) := .mut (.inr rfl) e2
        exact a2.upd (c' := ownL ((ns.erase k).map natD)) hl ⟨_, upd_same, RpL.nats _⟩) h2
end
end K14

set_option Elab.async false
set_option linter.all false
set_option maxRecDepth 100000
set_option maxHeartbeats 4000000
namespace K14
open PySem L2
section
variable {X : Cx} {B : Bs} {W : Res} {Γ : List (V × D)} {ρ ρ' : List (Option D)} {P : D → Prop} {e a b c : Expr} {x y d : D} {pos : Pos} {rest : List Stmt} {E : Ends} {l : Addr}
theorem tb_pure {u : Bool} (h : TB X Res.nil ρ' e u) (hρ : ∀ H σ, W.ok H → Sl W.m H σ ρ → Sl M0 H σ ρ') : TB X W ρ e u :=
  PTimp h fun σ H Q ⟨o, sl, q⟩ => ⟨trivial, hρ H σ o sl, fun b H' ex _ p => q b H' ex.of0 (W.same o fun a u hu => ex.keep a u (fun z => z) hu) p⟩
theorem ss_swap {l1 l2 : Addr} {c1 c2 : Cell} {sts : List Stmt} (h : SS X (At B ((W.add l2 c2).add l1 c1) Γ ρ) sts E) : SS X (At B ((W.add l1 c1).add l2 c2) Γ ρ) sts E := by rw [Res.swap]; exact h
theorem tb_inI {i : Int} {ns : List Int} (ha : EE X W ρ a (.int i)) (hb : EE X W ρ b (.tup (ns.map .int))) (hm : behindInMarks .In b = false := by rfl) : TB X W ρ (.Compare a [.In] [b] pos) (decide (i ∈ ns)) := by
  have h := tb_cmp (pos := pos) op_in_seq hm ha hb (rr_in (K := X.K) (neg := false) (v := .int i) (xs := ns.map V.int) rfl rfl (fun _ _ _ l => l.ints) (all_int ns))
  rw [if_neg Bool.false_ne_true, inV_int] at h
  exact h
theorem tb_notInI {i : Int} {ns : List Int} (ha : EE X W ρ a (.int i)) (hb : EE X W ρ b (.tup (ns.map .int))) (hm : behindInMarks .NotIn b = false := by rfl) : TB X W ρ (.Compare a [.NotIn] [b] pos) (!decide (i ∈ ns)) := by
  have h := tb_cmp (pos := pos) op_notIn_seq hm ha hb (rr_in (K := X.K) (neg := true) (v := .int i) (xs := ns.map V.int) rfl rfl (fun _ _ _ l => l.ints) (all_int ns))
  rw [if_pos rfl, inV_int] at h
  exact h
theorem tb_inS {i : Str} {ns : List Str} (ha : EE X W ρ a (.str i)) (hb : EE X W ρ b (.tup (ns.map .str))) (hm : behindInMarks .In b = false := by rfl) : TB X W ρ (.Compare a [.In] [b] pos) (decide (i ∈ ns)) := by
  have h := tb_cmp (pos := pos) op_in_seq hm ha hb (rr_in (K := X.K) (neg := false) (v := .str i) (xs := ns.map V.str) rfl rfl (fun _ _ _ l => l.strs) (all_str ns))
  rw [if_neg Bool.false_ne_true, inV_str] at h
  exact h
theorem tb_inSL {i : Str} {ns : List Str} (ha : EE X W ρ a (.str i)) (hb : EE X W ρ b (.lst (ns.map .str))) (hm : behindInMarks .In b = false := by rfl) : TB X W ρ (.Compare a [.In] [b] pos) (decide (i ∈ ns)) := by
  have h := tb_cmp (pos := pos) op_in_seq hm ha hb (rr_inLst (K := X.K) (neg := false) (v := .str i) (xs := ns.map V.str) rfl rfl (fun _ _ _ l => l.strs) (all_str ns))
  rw [if_neg Bool.false_ne_true, inV_str] at h
  exact h
/-! ### seats or None -/
def oD : Option Nat → D
  | none => .non
  | some i => natD i
def oV : Option Nat → V
  | none => .non
  | some i => .int (i : Int)
theorem rp_oD {M : Ms} {H : Hp} {v : V} {o : Option Nat} (r : Rp M H v (oD o)) : v = oV o := by
  cases o <;> (cases r; rfl)
theorem RpL.os {M : Ms} {H : Hp} : ∀ {xs : List V} {ns : List (Option Nat)}, RpL M H xs (ns.map oD) → xs = ns.map oV
  | _, [], .nil => rfl
  | _, n :: ns, .cons r l => by rw [rp_oD r, RpL.os l]; rfl
theorem all_o (ns : List (Option Nat)) : (ns.map oV).all flatV = true := by
  rw [List.all_eq_true]; intro v hv
  obtain ⟨n, _, rfl⟩ := List.mem_map.mp hv; cases n <;> rfl
theorem inV_o (i : Nat) (ns : List (Option Nat)) : inV (.int (i : Int)) (ns.map oV) = decide (some i ∈ ns) := by
  unfold inV
  induction ns with
  | nil => simp
  | cons n ns ih =>
    rw [List.map_cons, List.any_cons, ih]
    cases n with
    | none => simp [eqV, oV]
    | some j =>
      by_cases h : j = i
      · subst h; simp [eqV, oV]
      · have h' : ¬ i = j := fun z => h z.symm
        have h2 : ¬ (j : Int) = (i : Int) := by omega
        simp [eqV, oV, h, h', h2]
theorem tb_notInO {i : Nat} {ns : List (Option Nat)} (ha : EE X W ρ a (natD i)) (hb : EE X W ρ b (.lst (ns.map oD))) (hm : behindInMarks .NotIn b = false := by rfl) : TB X W ρ (.Compare a [.NotIn] [b] pos) (!decide (some i ∈ ns)) := by
  have h := tb_cmp (pos := pos) op_notIn_seq hm ha hb (rr_inLst (K := X.K) (neg := true) (v := .int (i : Int)) (xs := ns.map oV) rfl rfl (fun _ _ _ l => l.os) (all_o ns))
  rw [if_pos rfl, inV_o] at h
  exact h
theorem flat_oD (o : Option Nat) : flatD (oD o) = true := by cases o <;> rfl
theorem isNon_oD (o : Option Nat) : (!isNon (oD o)) = o.isSome := by cases o <;> rfl
theorem tb_din {es : List (List Int × D)} {k : List Int} (hu : X.A.units + 1 < cLine) (ha : EE X W ρ a (.tup (k.map .int))) (hb : EE X W ρ b (.dic es)) (hm : behindInMarks .In b = false := by rfl) : TB X W ρ (.Compare a [.In] [b] pos) (es.lookup k).isSome :=
  PTimp (pt_cmp (pc_din hu ha hb) hm) fun σ H Q ⟨ok, sl, q⟩ => ⟨ok, sl, fun z v H1 e1 ok1 hz r1 => ⟨ok1, sl.ext e1, fun z2 v2 H2 e2 ok2 hz2 r2 => by
    subst hz hz2
    obtain ⟨p, kvs, rfl, g, l⟩ := dic_get r2 (r1.ext e2)
    refine ⟨p, _, rfl, g, ?_⟩
    have e : (valV kvs (k.map Sum.inl)).isSome = (es.lookup k).isSome := by
      cases h : es.lookup k with
      | some d => obtain ⟨u, hu, _⟩ := l.look h; rw [hu]; rfl
      | none => rw [l.lookN h]; rfl
    rw [e]
    exact ⟨_, rfl, q _ H2 (e1.trans e2) ok2 rfl⟩⟩⟩
theorem At.wk {σ : St} {H : Hp} (a : At B W Γ ρ σ H) (w : Wk ρ' ρ) : At B W Γ ρ' σ H := a.forget w
end
theorem take_all {α : Type} {l : List α} {n : Nat} (h : n = l.length) : l.take n = l := by rw [h, List.take_length]
theorem mem_take_succ {α : Type} {l : List α} {i : Nat} {x y : α} (hx : l[i]? = some x) : y ∈ l.take (i + 1) ↔ y ∈ l.take i ∨ y = x := by
  rw [take_succ_get hx]; simp
theorem map_at {α : Type} {l : List α} {g : α → D} {i : Nat} {x : D} (h : (l.map g)[i]? = some x) : ∃ a, l[i]? = some a ∧ x = g a ∧ a ∈ l := by
  rw [List.getElem?_map] at h
  obtain ⟨s, hs, rfl⟩ := Option.map_eq_some_iff.mp h
  exact ⟨s, hs, rfl, List.mem_of_getElem? hs⟩
theorem drop_at {α : Type} {l : List α} {i : Nat} {x : α} (h : l[i]? = some x) : l.drop i = x :: l.drop (i + 1) := by
  obtain ⟨h1, h2⟩ := List.getElem?_eq_some_iff.mp h
  rw [← h2, List.getElem_cons_drop]
end K14

set_option Elab.async false
set_option linter.all false
set_option maxRecDepth 100000
set_option maxHeartbeats 4000000
namespace K14
open PySem L2
def lotD (l : List Str) : D := .tup (l.map .str)
def lotsD (ls : List (List Str)) : D := .tup (ls.map lotD)
def hasL (ls : List (List Str)) (s : Nat) (k : Str) : Bool := decide (k ∈ ls.getD s [])
theorem lots_at {ls : List (List Str)} {s : Nat} (h : s < ls.length) : (ls.map lotD)[((s : Int)).toNat]? = some (lotD (ls.getD s [])) := by
  rw [Int.toNat_natCast, List.getElem?_map, List.getD_eq_getElem?_getD, List.getElem?_eq_getElem h]; rfl
theorem find_skip {α : Type} {p : α → Bool} {l : List α} {i : Nat} {x : α} (h : ∀ y ∈ l.take i, p y = false) (hx : l[i]? = some x) (hp : p x = true) : l.find? p = some x := by
  have e : l = l.take i ++ x :: l.drop (i + 1) := by rw [← drop_at hx, List.take_append_drop]
  rw [e, List.find?_append, List.find?_eq_none.mpr (fun y hy => by rw [h y hy]; decide), List.find?_cons, hp]; rfl
def left (has : Nat → Str → Bool) (free : List Nat) (k : Str) : List Nat :=
  match free.find? (fun s => has s k) with
  | none => free
  | some s => free.erase s
section
variable {P : Program} {w : World} {K : PySem.W.Frag} {mg : Str → Option Value} {base : Heap} {f : Addr} {fd : FuncData}
def okFirst (ds : List D) (Q : D → Prop) : Prop := ∃ (ls : List (List Str)) (free : List Nat) (k : Str), ds = [lotsD ls, .lst (free.map natD), .str k] ∧ (∀ s ∈ free, s < ls.length) ∧ Q = fun d => d = oD (free.find? fun s => hasL ls s k)
theorem ok24 (F : FnP K "first_seat" (top 24) f fd) : FnOk P w K mg base CX0 1 f fd A24 (spN okFirst) := by
  refine fn_data F sc24 (fun ds Q ⟨_, _, _, h, _⟩ => by rw [h]; rfl) fun cdv A outer s H E W ds Q B hr h => ?_
  obtain ⟨ls, free, k, rfl, hf, rfl⟩ := h
  refine ss_for (α := Unit) (fun _ i _ => ∀ s ∈ free.take i, hasL ls s k = false) (fun _ => W) (fun _ => _) () rfl rfl (fun σ H => ∃ _ : Unit, (∀ s ∈ free, hasL ls s k = false) ∧ At B W [] _ σ H) PassesOwn.never rfl (id_lst (ed_var 1)) (gd_name 3 sc24.nd)
    (fun xs _ s h => by simp at h) (fun xs i a _ _ d _ => ⟨_, rfl⟩) (fun xs hx Γ' i x a ρ' hxi hR hp => ?_) (fun xs hx a σ H hR at_ => ⟨(), fun s hs => hR s (by rw [hx, List.length_map, List.take_length]; exact hs), at_⟩) ?_
  · subst hx
    cases hp
    obtain ⟨s, hs, rfl, hm⟩ := map_at hxi
    have hlt := hf s hm
    refine ss_ifr (tb_inS (ed_var 2) (ed_ixT (ed_var 0) (ed_var 3) (Int.natCast_nonneg s) (lots_at hlt))) (fun h => ?_) fun h => ?_
    · refine ss_ret (ed_var 3) rfl ?_
      show natD s = oD _
      rw [find_skip hR hs h.symm]; rfl
    · refine ss_nil fun σ H at_ => ⟨(), fun y hy => ?_, at_.forget (by repeat (first | exact Wk.nil | refine Wk.keep ?_ | refine Wk.drop ?_))⟩
      rcases (mem_take_succ hs).mp hy with hy | rfl
      · exact hR y hy
      · exact h.symm
  · refine SS.exP fun _ hn => ss_ret ed_non rfl ?_
    show D.non = oD _
    rw [List.find?_eq_none.mpr (fun y hy => by rw [hn y hy]; decide)]; rfl
def okLed (ds : List D) (Q : D → Prop) : Prop := ∃ (ls : List (List Str)) (row : List Str), ds = [lotsD ls, .lst (row.map .str)] ∧ ls.length ≤ 1000 ∧ row.length ≤ 1000 ∧ Q = fun d => ∃ fr : List Nat, d = .tup [.lst ((ledP (hasL ls) (List.range ls.length) row).map oD), .lst (fr.map natD)]
theorem ok25 (F : FnP K "led" (top 25) f fd) (T : Tx mg) (C : Cal P w K mg base CX0 1 "first_seat" A24 (spN okFirst)) : FnOk P w K mg base CX0 2 f fd A25 (spN okLed) := by
  refine fn_data F sc25 (fun ds Q ⟨_, _, h, _⟩ => by rw [h]; rfl) fun cdv A outer s H E W ds Q B hr h => ?_
  obtain ⟨ls, row, rfl, hl, hrw, rfl⟩ := h
  refine ss_own 2 (en_listRange rfl T.list T.range (ed_lenT T.len (ed_var 0)) (by rw [List.length_map]; omega)) (fun lf c hc nf => ?_) sc25.nd
  subst hc
  refine ss_newL 3 (fun lo no => ?_) sc25.nd
  have nlf : ¬ (W.add lo (ownL [])).m lf := fun z => z.elim nf fun z => no (.inr z.symm)
  have nlo : ¬ W.m lo := fun z => no (.inl z)
  rw [List.length_map]
  refine ss_swap (ss_for (α := List Nat × List (Option Nat)) (fun _ i a => a.2 ++ ledP (hasL ls) a.1 (row.drop i) = ledP (hasL ls) (List.range ls.length) row ∧ (∀ s ∈ a.1, s < ls.length) ∧ a.2.length = i) (fun a => (W.add lo (ownL (a.2.map oD))).add lf (ownL (a.1.map natD))) (fun _ => [some (lotsD ls), some (.lst (row.map .str)), some (.obj lf), some (.obj lo), none, none]) (List.range ls.length, []) rfl rfl
    (fun σ H => ∃ a : List Nat × List (Option Nat), a.2 = ledP (hasL ls) (List.range ls.length) row ∧ At B ((W.add lo (ownL (a.2.map oD))).add lf (ownL (a.1.map natD))) [] [some (lotsD ls), some (.lst (row.map .str)), some (.obj lf), some (.obj lo), none, none] σ H) PassesOwn.never rfl (id_lst (ed_var 1)) (gd_name 4 sc25.nd)
    (fun xs _ => ⟨by rfl, fun s hs => List.mem_range.mp hs, rfl⟩) (fun xs i a _ _ d _ => ⟨_, rfl⟩) (fun xs hx Γ' i x a ρ' hxi hR hp => ?_) (fun xs hx a σ H hR at_ => ⟨a, ?_, at_⟩) ?_)
  · subst hx
    cases hp
    obtain ⟨k, hk, rfl, hm⟩ := map_at hxi
    obtain ⟨free, found⟩ := a
    obtain ⟨h1, h2, h3⟩ := hR
    replace h3 : found.length = i := h3
    have hi := (List.getElem?_eq_some_iff.mp hk).1
    rw [drop_at hk] at h1
    refine ss_setP 5 (P := fun d => d = oD (free.find? fun s => hasL ls s k)) (ed_pure (ρ' := [some (lotsD ls), some (.lst (row.map .str)), some (.lst (free.map natD)), some (.obj lo), some (.str k), none]) (ed_cal C (hr.mono (by decide)) pass0 (ad_cons (ed_var 0) (ad_cons (ed_var 2) (ad_cons (ed_var 4) ad_nil))) ⟨ls, free, k, rfl, h2, rfl⟩)
      (fun H σ o sl => (Sl.show sl.to0 (i := 2) rfl o.2)) fun d hd => by rw [hd]; exact flat_oD _) (fun d hd => ?_) sc25.nd
    subst hd
    refine ss_if (At B ((W.add lo (ownL (found.map oD))).add lf (ownL ((left (hasL ls) free k).map natD))) Γ' [some (lotsD ls), some (.lst (row.map .str)), some (.obj lf), some (.obj lo), some (.str k), some (oD (free.find? fun s => hasL ls s k))]) (tb_notN (ed_var 5)) (fun h => ?_) (fun h => ?_) ?_
    · rw [isNon_oD] at h
      obtain ⟨s, hs⟩ := Option.isSome_iff_exists.mp h.symm
      unfold left
      rw [hs]
      exact ss_remove 2 (k := s) (fun z => z.elim nf fun z => no (.inr z.symm)) (ed_var 5) (List.mem_of_find?_eq_some hs) (ss_nil fun σ H at_ => at_)
    · rw [isNon_oD] at h
      have hs : free.find? (fun s => hasL ls s k) = none := by
        cases q : free.find? (fun s => hasL ls s k) with
        | none => rfl
        | some s => rw [q] at h; cases h
      unfold left
      rw [hs]
      exact ss_nil fun σ H at_ => at_
    · refine ss_swap (ss_append 3 (fun z => ?_) (ed_var 5) (by rw [List.length_map]; omega) fun d hd => ?_)
      · exact z.elim nlo fun z => no (.inr z)
      · subst hd
        refine ss_swap (ss_nil fun σ H at_ => ⟨(left (hasL ls) free k, found ++ [free.find? fun s => hasL ls s k]), ⟨?_, ?_, ?_⟩, ?_⟩)
        · rw [← h1, ledP, List.append_assoc]
          unfold left
          cases free.find? (fun s => hasL ls s k) <;> rfl
        · intro x hx
          unfold left at hx
          cases q : free.find? (fun s => hasL ls s k) with
          | none => rw [q] at hx; exact h2 x hx
          | some s => rw [q] at hx; exact h2 x (List.mem_of_mem_erase hx)
        · rw [List.length_append, h3]; rfl
        · have a2 := at_.forget (ρ' := [some (lotsD ls), some (.lst (row.map .str)), some (.obj lf), some (.obj lo), none, none]) (by repeat (first | exact Wk.nil | refine Wk.keep ?_ | refine Wk.drop ?_))
          simp only [List.map_append]
          exact a2
  · subst hx
    obtain ⟨h1, h2, h3⟩ := hR
    rw [List.length_map, List.drop_length] at h1
    rw [← h1, ledP, List.append_nil]
  · refine SS.exP fun a ha => ?_
    refine ss_freeze 2 (fun z => z.elim nf fun z => no (.inr z.symm)) (ss_freeze 3 nlo ?_)
    rw [← ha]
    exact ss_ret (ed_tup (ad_cons (ed_var 3) (ad_cons (ed_var 2) ad_nil)) (Nat.le_of_ble_eq_true rfl)) rfl ⟨_, rfl⟩
end
end K14

set_option Elab.async false
set_option linter.all false
set_option maxRecDepth 100000
set_option maxHeartbeats 4000000
namespace K14
open PySem L2
theorem ints_vals : ∀ {ns : List Int} {us : List Value}, Vals (ns.map V.int) us → PyProof.Rows.IntsAre us ns
  | [], _, .nil => .nil
  | _ :: _, _, .cons ⟨t, e⟩ r => by subst e; exact .cons _ t (ints_vals r)
section
variable {X : Cx} {B : Bs} {W : Res} {Γ : List (V × D)} {ρ ρ' : List (Option D)} {P : D → Prop} {e a b c : Expr} {x y d : D} {pos : Pos} {rest : List Stmt} {E : Ends} {l : Addr}
/-- o.index(k), o a tuple of numbers with k in it -/
def rTupIx (K : PySem.W.Frag) : V → List V → Hp → VK → Prop := fun x xs H Q => ∃ (p : Addr) (ns : List Int) (k : Int), x = .ref p ∧ xs = [.int k] ∧ SqT K H p (ns.map V.int) ∧ k ∈ ns ∧ Q (.int (ns.idxOf k : Nat)) H
theorem mt_tupIx : MtR X "tuple.index" (rTupIx X.K) := by
  intro pins s σ H x xs v us Q I rx rxs h
  obtain ⟨p, ns, k, rfl, rfl, hq, hk, q⟩ := h
  cases rx
  obtain ⟨u, rfl, t, rfl⟩ := vals1 rxs
  obtain ⟨its, r, ⟨o, ho, hc, n, hd⟩, _⟩ := I.tuple hq
  exact PySem.SeqAt.tuple_index_ints ⟨o, ho, hc, n, hd⟩ (ints_vals r) hk ⟨.int (ns.idxOf k : Nat), H, I.tok _, ⟨_, rfl⟩, q⟩
/-- a tuple known to hold no dict -/
def isF (H : Hp) (p : Addr) (xs : List V) : Prop := ∃ ob, H p = some (.frz ob (.tup xs)) ∧ ob.dict = none
def tTI (K : PySem.W.Frag) (to : TE) (t : TA) : TE := fun σ H Q => to σ H fun x H1 => (∃ p xs, x = .ref p ∧ isF H1 p xs) ∧ t σ H1 fun ys H2 => rTupIx K x ys H2 Q
theorem pe_ti {to : TE} {t : TA} {apos cpos : Pos} (ho : PE X a to) (ha : PA X [e] t) (hst : starEach [e] X.env = (false, eval e X.env) :: starEach [] X.env := by rfl)
    (hbase : attributeBase a "index" X.env (eval a X.env) = eval a X.env := by rfl) (hline : (apos.endLine == cpos.line) = true := by rfl)
    (hfew : ((backTo cpos (starEach [e] X.env)).all (fun x => !x.1) && (backToKw cpos (keywordEach [] X.env)).all (fun x => x.1.isSome) && decide (([e] : List Expr).length + ([] : List Keyword).length + (if ([] : List Keyword).isEmpty then 0 else 1) < 30)) = true := by rfl) :
    PE X (.Call (.Attribute a "index" apos) [e] [] cpos) (tTI X.K to t) := by
  refine ⟨fun pins s σ H Q I h => wpAny_Call_method_late hbase hfew hline rfl (thn (ho.run pins s σ H _ I h) fun v s1 ⟨x, H1, I1, r1, ⟨p, xs, ex, ob, ef, ed⟩, q1⟩ => ?_)⟩
  subst ex
  cases r1
  obtain ⟨g, _, its, _, ob2, g2, hc, _⟩ := I1.hok p _ ef
  rw [g] at g2
  cases g2
  refine ⟨"tuple", "tuple.index", PySem.F.plainAttrs_tuple, PySem.F.slot_tuple_index, PySem.F.type_tuple_index, ⟨ob, g, hc⟩, fun c e => ?_, ?_⟩
  · cases e; exact ⟨ob, g, ed⟩
  · have hA := ha.run cpos pins s1 σ H1 _ I1 q1
    rw [hst] at hA ⊢
    exact Calls.callWith_builtin rfl (Calls.evalArgs_plain (thn hA fun us s2 ⟨vs, H2, I2, r2, q2⟩ => mt_tupIx pins s2 σ H2 (.ref p) vs (.ref p) us Q I2 rfl r2 q2))
/-- a tuple's display, the object known -/
theorem pe_tupF {es : List Expr} {n : Nat} {t : TA} (h : PA X es t) : PE X (.Tuple es n pos) (fun σ H Q => t σ H fun xs H1 => xs.length ≤ sizeLine ∧ ∀ p ob, H1 p = none → ob.dict = none → Q (.ref p) (upd H1 p (.frz ob (.tup xs)))) :=
  ⟨fun pins s σ H Q I hq => wpAny_Tuple_spliced (thn (h.run pos pins s σ H _ I hq) fun us s1 ⟨xs, H1, I1, r, z, q⟩ => ⟨by rw [← r.length]; exact z, by
    refine ⟨.ref s1.heap.objs.size, upd H1 s1.heap.objs.size (.frz { cls := .type "tuple", data := .seq us.toArray } (.tup xs)), I1.laid (t' := s1.toks) (fun b u e => Heap.get?_push_of_some _ e) (Nat.le_refl _) ?_, rfl, q _ _ (I1.hok.fresh (Nat.le_refl _)) ?_⟩
    · exact ⟨Heap.get?_push_size _ rfl, z, us, r, ⟨_, Heap.get?_push_size _ rfl, rfl, _, rfl⟩⟩
    · rfl⟩)⟩
def rCatF (K : PySem.W.Frag) : R2 := fun x y H Q => ∃ a b xs ys, x = .ref a ∧ y = .ref b ∧ SqT K H a xs ∧ SqT K H b ys ∧ xs.length + ys.length ≤ sizeLine ∧
  (xs = [] → Q (.ref b) H) ∧ (xs ≠ [] → ys = [] → Q (.ref a) H) ∧ (xs ≠ [] → ys ≠ [] → ∀ p ob, H p = none → ob.dict = none → Q (.ref p) (upd H p (.frz ob (.tup (xs ++ ys)))))
theorem op_catF : OpR X (binaryOp .Add) (rCatF X.K) := by
  intro pins s σ H x y v u Q I rx ry h
  obtain ⟨a, b, xs, ys, rfl, rfl, ha, hb, hz, q0, q1, q2⟩ := h
  cases rx
  cases ry
  obtain ⟨i1, r1, p1, _⟩ := I.tuple ha
  obtain ⟨i2, r2, p2, _⟩ := I.tuple hb
  by_cases hx : xs = []
  · subst hx
    cases r1
    exact cat_tup0 p1 p2 ⟨.ref b, H, I, rfl, q0 rfl⟩
  · refine HT.cat_tup p1 p2 (fun z => hx (r1.nil_iff.mp z)) (fun z => ⟨.ref a, H, I, rfl, q1 hx (r2.nil_iff.mp z)⟩) (fun z => ?_) (by rw [← r1.length, ← r2.length]; exact hz)
    refine ⟨.ref s.heap.objs.size, _, I.laid (t' := s.toks) (o := .frz { cls := .type "tuple", data := .seq (i1 ++ i2).toArray } (.tup (xs ++ ys))) (fun b ob q => Heap.get?_push_of_some _ q) (Nat.le_refl _) ?_, rfl, q2 hx (fun w => z (r2.nil_iff.mpr w)) _ _ (I.hok.fresh (Nat.le_refl _)) ?_⟩
    · exact ⟨Heap.get?_push_size _ rfl, by rw [List.length_append]; exact hz, _, r1.append r2, ⟨_, Heap.get?_push_size _ rfl, rfl, _, rfl⟩⟩
    · rfl
def rSlF (K : PySem.W.Frag) : V → Option Int → Option Int → Hp → VK → Prop := fun x lo hi H Q => ∃ a xs, x = .ref a ∧ SqT K H a xs ∧
  (HT.sIx xs.length 0 lo = 0 ∧ HT.sIx xs.length xs.length hi = xs.length → Q (.ref a) H) ∧ (¬ (HT.sIx xs.length 0 lo = 0 ∧ HT.sIx xs.length xs.length hi = xs.length) → ∀ p ob, H p = none → ob.dict = none → Q (.ref p) (upd H p (.frz ob (.tup (cutV xs lo hi)))))
theorem sl_tupF : SlR X (rSlF X.K) := by
  intro pins s σ H x v vl vu lo hi sl Q I rx hs pl pu h
  obtain ⟨a, xs, rfl, hx, q1, q2⟩ := h
  cases rx
  obtain ⟨its, r, ht, hz⟩ := I.tuple hx
  have hlen : its.toArray.size = xs.length := by rw [List.size_toArray]; exact r.length.symm
  refine ⟨"tuple", _, PyProof.Rows.slot_tuple_getitem.lookup, ht.typeIs, ?_⟩
  by_cases hw : HT.sIx xs.length 0 lo = 0 ∧ HT.sIx xs.length xs.length hi = xs.length
  · exact getItem_tuple_whole ht hs pl pu (by rw [hlen]; exact hw) ⟨.ref a, H, I, rfl, q1 hw⟩
  · refine HT.getItem_tuple_cut ht hs pl pu (by rw [hlen]; exact hw) ?_ (by rw [hlen]; exact hz)
    rw [hlen]
    refine ⟨.ref s.heap.objs.size, _, I.laid (t' := s.toks) (o := .frz { cls := .type "tuple", data := .seq ((its.drop (HT.sIx xs.length 0 lo)).take (HT.sIx xs.length xs.length hi - HT.sIx xs.length 0 lo)).toArray } (.tup (cutV xs lo hi))) (fun b ob q => Heap.get?_push_of_some _ q) (Nat.le_refl _) ?_, rfl, q2 hw _ _ (I.hok.fresh (Nat.le_refl _)) ?_⟩
    · exact ⟨Heap.get?_push_size _ rfl, Nat.le_trans (cutV_length xs lo hi) hz, _, (r.drop (HT.sIx xs.length 0 lo)).take (HT.sIx xs.length xs.length hi - HT.sIx xs.length 0 lo), ⟨_, Heap.get?_push_size _ rfl, rfl, _, rfl⟩⟩
    · rfl
end
/-! ### orders -/
def nV (ns : List Nat) : List V := ns.map fun (n : Nat) => V.int (n : Int)
theorem Rp.ordI {M : Ms} {H : Hp} {v : V} {ns : List Nat} (r : Rp M H v (.ord ns)) : ∃ p ob, v = .ref p ∧ ¬ M p ∧ H p = some (.frz ob (.tup (nV ns))) ∧ ob.dict = none := by
  cases r with | ord n e d => exact ⟨_, _, rfl, n, e, d⟩
theorem nV_int (ns : List Nat) : nV ns = (ns.map fun (i : Nat) => (i : Int)).map V.int := by unfold nV; rw [List.map_map]; rfl
theorem idx_nat (o : List Nat) (k : Nat) : (o.map fun (i : Nat) => (i : Int)).idxOf (k : Int) = o.idxOf k := by
  induction o with
  | nil => rfl
  | cons x o ih =>
    rw [List.map_cons, List.idxOf_cons, List.idxOf_cons, ih]
    by_cases h : x = k
    · subst h; simp
    · have h2 : ¬ (x : Int) = (k : Int) := by omega
      have e1 : (x == k) = false := by simpa using h
      have e2 : ((x : Int) == (k : Int)) = false := by simpa using h2
      rw [e1, e2]
theorem mem_nat {o : List Nat} {k : Nat} : ((k : Int) ∈ o.map fun (i : Nat) => (i : Int)) ↔ k ∈ o := by
  rw [List.mem_map]
  constructor
  · rintro ⟨x, hx, e⟩
    have : x = k := by omega
    exact this ▸ hx
  · exact fun h => ⟨k, h, rfl⟩
def cutN (xs : List Nat) (lo hi : Option Int) : List Nat := (xs.drop (HT.sIx xs.length 0 lo)).take (HT.sIx xs.length xs.length hi - HT.sIx xs.length 0 lo)
theorem cutV_nV (ns : List Nat) (lo hi : Option Int) : cutV (nV ns) lo hi = nV (cutN ns lo hi) := by
  unfold cutV nV cutN
  rw [List.length_map, List.map_take, List.map_drop]
theorem cutN_take (ns : List Nat) (k : Nat) (h : k ≤ ns.length) : cutN ns none (some (k : Int)) = ns.take k := by
  unfold cutN
  rw [HT.sIx_nat, HT.sIx_none, Nat.min_eq_left h, List.drop_zero, Nat.sub_zero]
theorem cutN_drop (ns : List Nat) (k : Nat) (h : k ≤ ns.length) : cutN ns (some (k : Int)) none = ns.drop k := by
  unfold cutN
  rw [HT.sIx_nat, HT.sIx_none, Nat.min_eq_left h, List.take_of_length_le (by rw [List.length_drop]; exact Nat.le_refl _)]
section
variable {X : Cx} {W : Res} {ρ : List (Option D)} {e a b : Expr} {pos : Pos} {ns ms : List Nat}
theorem ed_indexO {k : Nat} {apos cpos : Pos} (ha : EE X W ρ a (.ord ns)) (hb : EE X W ρ e (natD k)) (hk : k ∈ ns) (hst : starEach [e] X.env = (false, eval e X.env) :: starEach [] X.env := by rfl)
    (hbase : attributeBase a "index" X.env (eval a X.env) = eval a X.env := by rfl) (hline : (apos.endLine == cpos.line) = true := by rfl)
    (hfew : ((backTo cpos (starEach [e] X.env)).all (fun x => !x.1) && (backToKw cpos (keywordEach [] X.env)).all (fun x => x.1.isSome) && decide (([e] : List Expr).length + ([] : List Keyword).length + (if ([] : List Keyword).isEmpty then 0 else 1) < 30)) = true := by rfl) :
    EE X W ρ (.Call (.Attribute a "index" apos) [e] [] cpos) (natD (ns.idxOf k)) :=
  PEimp (pe_ti ha (pa_cons hb pa_nil hst) hst hbase hline hfew) fun σ H Q ⟨ok, sl, q⟩ => ⟨ok, sl, fun z v H1 e1 ok1 hz r1 => by
    subst hz
    obtain ⟨p, ob, rfl, n, he, hd⟩ := id r1.ordI
    refine ⟨⟨p, nV ns, rfl, ob, he, hd⟩, ok1, sl.ext e1, fun z v H2 e2 ok2 hz r2 => ?_⟩
    subst hz
    cases r2
    have he' := e2.keep _ _ n he
    rw [nV_int] at he'
    refine ⟨p, _, (k : Int), rfl, rfl, .inl (.inr ⟨ob, he'⟩), mem_nat.mpr hk, ?_⟩
    rw [idx_nat]
    exact q _ _ H2 (e1.trans e2) ok2 rfl (.int _)⟩
theorem ed_ord0 {n : Nat} : EE X W ρ (.Tuple [] n pos) (.ord []) :=
  PEimp (pe_tupF pa_nil) fun σ H Q ⟨ok, sl, q⟩ => ⟨by show 0 ≤ sizeLine; decide, fun p ob hp hd => q _ _ _ (.new hp) (W.new ok hp) rfl (.ord (W.fresh ok hp) upd_same hd)⟩
theorem ed_ord1 {n k : Nat} (ha : EE X W ρ a (natD k)) (hs : starEach [a] X.env = (false, eval a X.env) :: starEach [] X.env := by rfl) : EE X W ρ (.Tuple [a] n pos) (.ord [k]) :=
  PEimp (pe_tupF (pa_cons ha pa_nil hs)) fun σ H Q ⟨ok, sl, q⟩ => ⟨ok, sl, fun z v H1 e1 ok1 hz r1 => by
    subst hz
    cases r1
    exact ⟨by show 1 ≤ sizeLine; decide, fun p ob hp hd => q _ _ _ (e1.trans (.new hp)) (W.new ok1 hp) rfl (.ord (W.fresh ok1 hp) upd_same hd)⟩⟩
theorem ed_catO (ha : EE X W ρ a (.ord ns)) (hb : EE X W ρ b (.ord ms)) (hl : ns.length + ms.length ≤ 100000) : EE X W ρ (.BinOp a .Add b pos) (.ord (ns ++ ms)) :=
  ed_op op_catF ha hb (by
    intro v1 v2 H ok r1 r2 Q q
    obtain ⟨p1, o1, rfl, n1, h1, d1⟩ := id r1.ordI
    obtain ⟨p2, o2, rfl, n2, h2, d2⟩ := id r2.ordI
    refine ⟨p1, p2, _, _, rfl, rfl, .inl (.inr ⟨o1, h1⟩), .inl (.inr ⟨o2, h2⟩), ?_, fun z => ?_, fun _ z => ?_, fun _ _ p ob hp hd => ?_⟩
    · unfold nV; rw [List.length_map, List.length_map]; exact sz_of hl
    · have : ns = [] := by unfold nV at z; simpa using z
      subst this
      exact q _ _ H .refl ok rfl r2
    · have : ms = [] := by unfold nV at z; simpa using z
      subst this
      exact q _ _ H .refl ok (by rw [List.append_nil]) r1
    · refine q _ _ _ (.new hp) (W.new ok hp) rfl (.ord (W.fresh ok hp) (ob := ob) ?_ hd)
      rw [upd_same]
      unfold nV
      rw [List.map_append])
theorem ed_sliceO {lo hi : Option Expr} {i j : Option Int} {p2 : Pos} (ha : EE X W ρ a (.ord ns)) (hl : PO X lo (tDo W ρ i)) (hh : PO X hi (tDo W ρ j)) : EE X W ρ (.Subscript a (.Slice lo hi none p2) pos) (.ord (cutN ns i j)) :=
  PEimp (pe_slice sl_tupF ha hl hh) fun σ H Q ⟨ok, sl, q⟩ => ⟨ok, sl, fun z v H1 e1 ok1 hz r1 => ⟨ok1, sl.ext e1, fun H2 e2 ok2 => ⟨ok2, (sl.ext e1).ext e2, fun H3 e3 ok3 => by
    subst hz
    have r3 := (r1.ext e2).ext e3
    obtain ⟨p, ob, rfl, n, he, hd⟩ := id r3.ordI
    refine ⟨p, _, rfl, .inl (.inr ⟨ob, he⟩), fun h => ?_, fun _ p' ob' hp hd' => ?_⟩
    · have hc : cutN ns i j = ns := by
        unfold nV at h
        rw [List.length_map] at h
        unfold cutN
        rw [h.1, h.2]; simp
      exact q _ _ H3 ((e1.trans e2).trans e3) ok3 (by rw [hc]) r3
    · refine q _ _ _ (((e1.trans e2).trans e3).trans (.new hp)) (W.new ok3 hp) rfl (.ord (W.fresh ok3 hp) (ob := ob') ?_ hd')
      rw [upd_same, cutV_nV]; rfl⟩⟩⟩
theorem tb_notInN {i : Nat} (ha : EE X W ρ a (natD i)) (hb : EE X W ρ b (.ord ns)) (hm : behindInMarks .NotIn b = false := by rfl) : TB X W ρ (.Compare a [.NotIn] [b] pos) (!decide (i ∈ ns)) :=
  tb_cmp op_notIn_seq hm ha hb (by
    intro v1 v2 H ok r1 r2 Q q
    cases r1
    obtain ⟨p, ob, rfl, n, he, hd⟩ := id r2.ordI
    rw [nV_int] at he
    refine ⟨p, _, rfl, .inr (.inl (.inr ⟨ob, he⟩)), rfl, all_int _, ?_⟩
    rw [if_pos rfl, inV_int, show decide ((i : Int) ∈ ns.map fun (i : Nat) => (i : Int)) = decide (i ∈ ns) from decide_eq_decide.mpr mem_nat]
    exact q _ _ H .refl ok rfl (.bl _))
theorem walk_o {K : PySem.W.Frag} {v : V} {a : Addr} (hv : v = .ref a) : WalkD (Itt K a) [(v, .ord ns)] (ns.map natD) where
  go := fun M H i h hi => by
    obtain ⟨b, ob, e, n, e2, d2⟩ := (h _ List.mem_cons_self).ordI
    rw [hv] at e; cases e
    have hx : i < (nV ns).length := by unfold nV; rw [List.length_map] at hi ⊢; exact hi
    exact ⟨_, (nV ns)[i], .inl (.inr ⟨ob, e2⟩), by simp [hx]⟩
  stop := fun M H h => by
    obtain ⟨b, ob, e, n, e2, d2⟩ := (h _ List.mem_cons_self).ordI
    rw [hv] at e; cases e
    exact ⟨_, .inl (.inr ⟨ob, e2⟩), by unfold nV; rw [List.length_map, List.length_map]; exact Nat.le_refl _⟩
  yld := fun M H i x H' h hi y => by
    obtain ⟨b, ob, e, n, e2, d2⟩ := (h _ List.mem_cons_self).ordI
    rw [hv] at e; cases e
    obtain ⟨hH, y⟩ := y
    subst hH
    obtain ⟨d, hd, r⟩ := (RpL.nats (M := M) (H := H') ns).got (y _ (.inl (.inr ⟨ob, e2⟩)))
    exact ⟨d, hd, fun _ _ z => z, fun _ z => z, fun _ => r⟩
theorem id_ord {tg : Expr} (ha : EE X W ρ e (.ord ns)) : ID X tg W ρ e (fun z => z = ns.map natD) :=
  PIimp (pi_tup ha) fun σ H R ⟨ok, sl, q⟩ => ⟨ok, sl, fun z v H' e1 ok' hz r => by
    subst hz
    obtain ⟨b, ob, rfl, n, e2, d2⟩ := id r.ordI
    exact ⟨b, rfl, ⟨_, .inl (.inr ⟨ob, e2⟩)⟩, q _ H' [(.ref b, .ord ns)] _ rfl e1 ok' (fun p hp => by simp at hp; subst hp; exact r) (walk_o rfl)⟩⟩
theorem ed_lenO {p : Pos} (hm : X.mg "len" = none) (ha : EE X W ρ a (.ord ns)) (hg : Gl X "len" := by rfl) (hs : starEach [a] X.env = (false, eval a X.env) :: starEach [] X.env := by rfl) : EE X W ρ (.Call (.Name "len" p) [a] [] pos) (natD ns.length) :=
  ed_callB call_len_seq hg hm boot_len (ad_cons ha ad_nil hs) (fun vs H ok l Q q => by
    obtain ⟨v, rfl, r⟩ := l.one
    obtain ⟨p, ob, rfl, n, he, hd⟩ := r.ordI
    have z := q (natD ns.length) (.int (ns.length : Int)) H .refl ok rfl (.int _)
    exact ⟨p, _, rfl, .inr (.inl (.inr ⟨ob, he⟩)), by unfold nV; rw [List.length_map]; exact z⟩) (by decide) (by decide) hs
theorem tb_ltN {i j : Nat} (ha : EE X W ρ a (natD i)) (hb : EE X W ρ b (natD j)) : TB X W ρ (.Compare a [.Lt] [b] pos) (decide (i < j)) := by
  have := tb_lt (pos := pos) ha hb
  rw [show decide ((i : Int) < (j : Int)) = decide (i < j) from decide_eq_decide.mpr Int.ofNat_lt] at this
  exact this
theorem tb_gtN {i j : Nat} (ha : EE X W ρ a (natD i)) (hb : EE X W ρ b (natD j)) : TB X W ρ (.Compare a [.Gt] [b] pos) (decide (j < i)) := by
  have := tb_gt (pos := pos) ha hb
  rw [show decide ((j : Int) < (i : Int)) = decide (j < i) from decide_eq_decide.mpr Int.ofNat_lt] at this
  exact this
theorem tb_geN {i j : Nat} (ha : EE X W ρ a (natD i)) (hb : EE X W ρ b (natD j)) : TB X W ρ (.Compare a [.GtE] [b] pos) (decide (j ≤ i)) := by
  have := tb_ge (pos := pos) ha hb
  rw [show decide ((j : Int) ≤ (i : Int)) = decide (j ≤ i) from decide_eq_decide.mpr Int.ofNat_le] at this
  exact this
end
end K14

set_option Elab.async false
set_option linter.all false
set_option maxRecDepth 100000
set_option maxHeartbeats 4000000
namespace K14
open PySem L2
/-! ### dicts by tuples -/
section
variable {X : Cx} {pins : List (Addr × Obj)} {σ : St} {H : Hp} {s : Shared} {M : Ms}
mutual
theorem KeyV.is (I : L2.Inv X pins σ H s) : ∀ {k : NestedKey} {v : V} {u : Value}, KeyV M H k v → RelV v u → NestedIs s.heap k u
  | _, _, _, .num i, ⟨t, e⟩ => by rw [e]; exact .int i t
  | _, _, _, .tup (a := a) n e l, r => by
    cases r
    obtain ⟨its, rv, ⟨o, ho, hc, m, hd⟩, _⟩ := I.tuple (.inl e)
    exact .tup ho hc hd (KeyVs.is I l rv)
theorem KeyVs.is (I : L2.Inv X pins σ H s) : ∀ {k : List NestedKey} {v : List V} {u : List Value}, KeyVs M H k v → Vals v u → NestedAll s.heap k u
  | _, _, _, .nil, .nil => .nil
  | _, _, _, .cons r l, .cons rv rs => .cons (KeyV.is I r rv) (KeyVs.is I l rs)
end
end
mutual
theorem hash_plain (w w' : World) : ∀ {k : NestedKey}, plainN k = true → k.hash w = k.hash w'
  | .num i, _ => rfl
  | .tup ks, h => by rw [NestedKey.hash, NestedKey.hash, hashes_plain w w' h]
  | .none, h => by cases h
  | .text _, h => by cases h
theorem hashes_plain (w w' : World) : ∀ {k : List NestedKey}, plainN.plainNs k = true → NestedKey.hashes w k = NestedKey.hashes w' k
  | [], _ => rfl
  | k :: ks, h => by
    rw [plainN.plainNs, Bool.and_eq_true] at h
    rw [NestedKey.hashes, NestedKey.hashes, hash_plain w w' h.1, hashes_plain w w' h.2]
end
abbrev NX := List (NestedKey × Addr × V)
def valX (xs : NX) (k : NestedKey) : Option V := (xs.find? fun x => decide (x.1 = k)).map (·.2.2)
def putX (xs : NX) (k : NestedKey) (b : Addr) (v : V) : NX := if (valX xs k).isSome then xs.map fun x => if x.1 = k then (x.1, x.2.1, v) else x else xs ++ [(k, b, v)]
def putN {α : Type} (es : List (NestedKey × α)) (k : NestedKey) (d : α) : List (NestedKey × α) := if (es.lookup k).isSome then es.map fun x => if x.1 = k then (x.1, d) else x else es ++ [(k, d)]
def KeysV (M : Ms) (H : Hp) (xs : NX) : Prop := ∀ x ∈ xs, KeyV M H x.1 (.ref x.2.1)
abbrev PX : NX → List (NestedKey × Addr × Value) → Prop := Paired (fun (p : NestedKey × Addr × V) (q : NestedKey × Addr × Value) => p.1 = q.1 ∧ p.2.1 = q.2.1 ∧ RelV p.2.2 q.2.2)
theorem PX.val {k : NestedKey} : ∀ {xs : NX} {us : List (NestedKey × Addr × Value)}, PX xs us → (valX xs k = none ∧ atKey us k = none) ∨ ∃ v b u, valX xs k = some v ∧ atKey us k = some (b, u) ∧ RelV v u
  | [], [], .nil => .inl ⟨rfl, rfl⟩
  | (k1, b1, v1) :: xs, (k2, b2, u2) :: us, .cons ⟨e1, e2, r⟩ t => by
    dsimp only at e1 e2 r
    subst e1
    by_cases h : k1 = k
    · exact .inr ⟨v1, b2, u2, by simp [valX, h], by simp [atKey, h], r⟩
    · have := PX.val (k := k) t
      unfold valX atKey at this ⊢
      simpa [h] using this
theorem PX.put {k : NestedKey} {b : Addr} {v : V} {u : Value} {xs : NX} {us : List (NestedKey × Addr × Value)} (p : PX xs us) (r : RelV v u) : PX (putX xs k b v) (storedH us k b u) := by
  have e : (valX xs k).isSome = (atKey us k).isSome := by
    rcases PX.val (k := k) p with ⟨h1, h2⟩ | ⟨_, _, _, h1, h2, _⟩ <;> rw [h1, h2] <;> rfl
  unfold putX storedH
  rw [e]
  split
  · rename_i hc
    clear e hc
    induction p with
    | nil => exact .nil
    | cons q t ih =>
      refine .cons ?_ ih
      obtain ⟨e1, e2, e3⟩ := q
      unfold putAt
      dsimp only
      rw [← e1]
      split
      · exact ⟨rfl, e2, r⟩
      · exact ⟨e1, e2, e3⟩
  · rename_i hc
    clear e hc
    induction p with
    | nil => exact .cons ⟨rfl, rfl, r⟩ .nil
    | cons q t ih => exact .cons q ih
theorem PX.keys : ∀ {xs : NX} {us : List (NestedKey × Addr × Value)}, PX xs us → xs.map (·.1) = us.map (·.1)
  | _, _, .nil => rfl
  | _, _, .cons q t => by rw [List.map_cons, List.map_cons, PX.keys t, q.1]
theorem PX.mem : ∀ {xs : NX} {us : List (NestedKey × Addr × Value)}, PX xs us → ∀ y ∈ us, ∃ x ∈ xs, x.1 = y.1 ∧ x.2.1 = y.2.1
  | _, _, .nil, y, h => by cases h
  | _, _, .cons q t, y, h => by
    rcases List.mem_cons.mp h with rfl | h
    · exact ⟨_, List.mem_cons_self, q.1, q.2.1⟩
    · obtain ⟨x, hx, e⟩ := PX.mem t y h
      exact ⟨x, List.mem_cons_of_mem _ hx, e⟩
theorem putX_mem {xs : NX} {k : NestedKey} {b : Addr} {v : V} {x : NestedKey × Addr × V} (h : x ∈ putX xs k b v) : (x.1 = k ∧ x.2.1 = b) ∨ ∃ y ∈ xs, x.1 = y.1 ∧ x.2.1 = y.2.1 := by
  unfold putX at h
  split at h
  · obtain ⟨y, hy, rfl⟩ := List.mem_map.mp h
    refine .inr ⟨y, hy, ?_⟩
    split <;> exact ⟨rfl, rfl⟩
  · rcases List.mem_append.mp h with h | h
    · exact .inr ⟨x, h, rfl, rfl⟩
    · rw [List.mem_singleton.mp h]
      exact .inl ⟨rfl, rfl⟩
theorem putX_len (xs : NX) (k : NestedKey) (b : Addr) (v : V) : (putX xs k b v).length ≤ xs.length + 1 := by
  unfold putX
  split <;> simp
section
variable {X : Cx} {pins : List (Addr × Obj)} {σ : St} {H : Hp} {s : Shared} {M : Ms} {a b : Addr} {xs : NX} {k : NestedKey} {E : Value → Shared → Prop}
theorem nd_of (I : L2.Inv X pins σ H s) (e : H a = some (.ext (ndOk a xs))) (kv : KeysV M H xs) : xs.length ≤ sizeLine ∧ (a == sysModules) = false ∧ (∀ x ∈ xs, plainN x.1 = true ∧ x.1.depth ≤ 8) ∧ ∃ us, PX xs us ∧ s.heap.DictOfH (nestedKind X.prog X.w) a us := by
  obtain ⟨⟨h1, h2, h3, h4, us, p, o, es, ep, g, ex, hd, he⟩, _⟩ := I.hok a _ e
  refine ⟨h1, h2, h3, us, p, o, es, ep, g, ex, hd, he X.w, fun y hy => ?_, by rw [← PX.keys p]; exact h4⟩
  obtain ⟨x, hx, e1, e2⟩ := PX.mem p y hy
  have z := (kv x hx).is I (u := .ref x.2.1) rfl
  rw [e1, e2] at z
  exact ⟨z, by rw [← e1]; exact (h3 x hx).2⟩
theorem nd_room {A : Around} (hu : A.units + 9 < cLine) : (nestedKind X.prog X.w).room A.in1 := by
  show A.in1.units + 8 < cLine
  have : A.in1.units = A.units + 1 := rfl
  omega
theorem nd_get {A : Around} {v : V} {Q : Value → Shared → Prop} (hu : A.units + 9 < cLine) (I : L2.Inv X pins σ H s) (e : H a = some (.ext (ndOk a xs))) (kv : KeysV M H xs) (kb : KeyV M H k (.ref b)) (hk : k.depth ≤ 8) (hv : valX xs k = some v) (h : ∀ w' s', L2.Inv X pins σ H s' → RelV v w' → Q w' s') :
    wpAny (model X.prog X.w) A (getItem (.ref a) (.ref b)) Q E s := by
  obtain ⟨_, _, _, us, p, dd⟩ := nd_of I e kv
  rcases PX.val (k := k) p with ⟨h1, _⟩ | ⟨v', b', u, h1, h2, r⟩
  · rw [h1] at hv; cases hv
  · rw [h1] at hv; cases hv
    exact wpAny_getItem_heap (nd_room (X := X) hu) ⟨kb.is I rfl, hk⟩ dd h2 (h u _ (I.tok _) r)
theorem nd_in {A : Around} {Q : Value → Shared → Prop} (hu : A.units + 9 < cLine) (I : L2.Inv X pins σ H s) (e : H a = some (.ext (ndOk a xs))) (kv : KeysV M H xs) (kb : KeyV M H k (.ref b)) (hk : k.depth ≤ 8) (h : ∀ s', L2.Inv X pins σ H s' → Q (.bool (valX xs k).isSome) s') :
    wpAny (model X.prog X.w) A (compareOp .In (.ref b) (.ref a)) Q E s := by
  obtain ⟨_, hs, _, us, p, dd⟩ := nd_of I e kv
  have z : (valX xs k).isSome = (atKey us k).isSome := by
    rcases PX.val (k := k) p with ⟨h1, h2⟩ | ⟨_, _, _, h1, h2, _⟩ <;> rw [h1, h2] <;> rfl
  refine wpAny_in_heap (nd_room (X := X) hu) ⟨kb.is I rfl, hk⟩ hs dd ?_
  rw [← z]
  exact h _ (I.tok _)
theorem nd_notIn {A : Around} {Q : Value → Shared → Prop} (hu : A.units + 9 < cLine) (I : L2.Inv X pins σ H s) (e : H a = some (.ext (ndOk a xs))) (kv : KeysV M H xs) (kb : KeyV M H k (.ref b)) (hk : k.depth ≤ 8) (h : ∀ s', L2.Inv X pins σ H s' → Q (.bool (!(valX xs k).isSome)) s') :
    wpAny (model X.prog X.w) A (compareOp .NotIn (.ref b) (.ref a)) Q E s := by
  obtain ⟨_, hs, _, us, p, dd⟩ := nd_of I e kv
  have z : (valX xs k).isSome = (atKey us k).isSome := by
    rcases PX.val (k := k) p with ⟨h1, h2⟩ | ⟨_, _, _, h1, h2, _⟩ <;> rw [h1, h2] <;> rfl
  refine notIn_keyed (kvs := pairsH us) (nd_room (X := X) hu) ⟨kb.is I rfl, hk⟩ hs ⟨us, dd, rfl⟩ ?_
  rw [valueAt_pairsH, Option.isSome_map, ← z]
  exact h _ (I.tok _)
theorem nd_put {A : Around} {v : V} {u : Value} {Q : Unit → Shared → Prop} (hu : A.units + 9 < cLine) (I : L2.Inv X pins σ H s) (e : H a = some (.ext (ndOk a xs))) (kv : KeysV M H xs) (kb : KeyV M H k (.ref b)) (hk : k.depth ≤ 8) (hp : plainN k = true) (hl : xs.length < sizeLine) (rv : RelV v u)
    (h : ∀ s', L2.Inv X pins σ (upd H a (.ext (ndOk a (putX xs k b v)))) s' → Q () s') : wpAny (model X.prog X.w) A (setItem (.ref a) (.ref b) u) Q E s := by
  obtain ⟨hz, hs, h3, us, p, dd⟩ := nd_of I e kv
  have hz' : us.length ≤ sizeLine := by rw [← Paired.length p]; exact hz
  refine wpAny_setItem_heap (hsz := hz') (nd_room (X := X) hu) ⟨kb.is I rfl, hk⟩ dd fun h' dd' hsb => h _ ?_
  have p' := PX.put (k := k) (b := b) p rv
  obtain ⟨o, es, ep, g, ex, hd, he, _, hn⟩ := dd'
  have g3 : ∀ x ∈ putX xs k b v, plainN x.1 = true ∧ x.1.depth ≤ 8 := fun x hx => by
    rcases putX_mem hx with ⟨e1, _⟩ | ⟨y, hy, e1, _⟩
    · rw [e1]; exact ⟨hp, hk⟩
    · rw [e1]; exact h3 y hy
  refine d_write I (by rw [e]; exact True.intro) hsb ⟨o, g⟩ ⟨⟨Nat.le_trans (putX_len _ _ _ _) hl, hs, g3, by rw [PX.keys p']; exact hn, _, p', o, es, ep, g, ex, hd, fun w' => ?_⟩, ⟨o, g⟩, fun h1 h2 ⟨q1, q2, q3, q4, vs, q5, o', es', ep', q6, q7⟩ q => ⟨q1, q2, q3, q4, vs, q5, o', es', ep', q _ q6, q7⟩⟩
  rw [he]
  refine List.map_congr_left fun y hy => ?_
  obtain ⟨x, hx, e1, _⟩ := PX.mem p' y hy
  unfold entryOfKey
  show DictEntry.mk (y.1.hash X.w) _ _ = _
  rw [hash_plain X.w w' (by rw [← e1]; exact (g3 x hx).1)]
theorem nd_type (I : L2.Inv X pins σ H s) (e : H a = some (.ext (ndOk a xs))) : s.TypeIs (.ref a) "dict" := by
  obtain ⟨⟨_, _, _, _, _, _, o, _, _, g, ex, _⟩, _⟩ := I.hok a _ e
  exact ⟨o, g, ex.1⟩
end
end K14

set_option Elab.async false
set_option linter.all false
set_option maxRecDepth 100000
set_option maxHeartbeats 4000000
namespace K14
open PySem L2
section
variable {M : Ms} {H : Hp} {v : V} {a : Addr}
theorem RpN.keysV : ∀ {xs : NX} {es : List (NestedKey × D)}, RpN M H xs es → KeysV M H xs
  | _, _, .nil, x, h => by cases h
  | _, _, .cons q r l, x, h => by
    rcases List.mem_cons.mp h with rfl | h
    · exact q
    · exact RpN.keysV l x h
theorem RpN.length : ∀ {xs : NX} {es : List (NestedKey × D)}, RpN M H xs es → xs.length = es.length
  | _, _, .nil => rfl
  | _, _, .cons q r l => by rw [List.length_cons, List.length_cons, RpN.length l]
theorem RpN.val {k : NestedKey} : ∀ {xs : NX} {es : List (NestedKey × D)}, RpN M H xs es → (valX xs k = none ∧ es.lookup k = none) ∨ ∃ v d, valX xs k = some v ∧ es.lookup k = some d ∧ Rp M H v d
  | _, _, .nil => .inl ⟨rfl, rfl⟩
  | _, _, .cons (k := k1) (v := v1) (d := d1) q r l => by
    by_cases h : k1 = k
    · subst h
      exact .inr ⟨v1, d1, by simp [valX], by simp [List.lookup], r⟩
    · have h2 : (k == k1) = false := by simpa using fun z => h z.symm
      have := RpN.val (k := k) l
      unfold valX at this ⊢
      simpa [h, List.lookup, h2] using this
theorem RpN.put {k : NestedKey} {b : Addr} {d : D} {xs : NX} {es : List (NestedKey × D)} (r : RpN M H xs es) (kb : KeyV M H k (.ref b)) (rv : Rp M H v d) : RpN M H (putX xs k b v) (putN es k d) := by
  have e : (valX xs k).isSome = (es.lookup k).isSome := by
    rcases r.val (k := k) with ⟨h1, h2⟩ | ⟨_, _, h1, h2, _⟩ <;> rw [h1, h2] <;> rfl
  unfold putX putN
  rw [e]
  split
  · rename_i hc
    clear e hc
    have go : ∀ {xs : NX} {es : List (NestedKey × D)}, RpN M H xs es → RpN M H (xs.map fun x => if x.1 = k then (x.1, x.2.1, v) else x) (es.map fun x => if x.1 = k then (x.1, d) else x) := by
      intro xs
      induction xs with
      | nil => intro es r; cases r; exact .nil
      | cons x xs ih =>
        intro es r
        cases r with
        | cons q r1 l =>
          rw [List.map_cons, List.map_cons]
          dsimp only
          split
          · exact .cons q rv (ih l)
          · exact .cons q r1 (ih l)
    exact go r
  · rename_i hc
    clear e hc
    have go : ∀ {xs : NX} {es : List (NestedKey × D)}, RpN M H xs es → RpN M H (xs ++ [(k, b, v)]) (es ++ [(k, d)]) := by
      intro xs
      induction xs with
      | nil => intro es r; cases r; exact .cons kb rv .nil
      | cons x xs ih =>
        intro es r
        cases r with
        | cons q r1 l => exact .cons q r1 (ih l)
    exact go r
theorem Rp.dnkI {es : List (NestedKey × D)} (h : Rp M H v (.dnk es)) : ∃ a xs, v = .ref a ∧ ¬ M a ∧ H a = some (.ext (ndOk a xs)) ∧ RpN M H xs es := by cases h with | dnk n e l => exact ⟨_, _, rfl, n, e, l⟩
end
/-- d is the key k -/
structure KeyD (k : NestedKey) (d : D) : Prop where
  is : ∀ {M : Ms} {H : Hp} {v : V}, Rp M H v d → KeyV M H k v
  deep : k.depth ≤ 8
  plain : plainN k = true
  ref : ∀ {M : Ms} {H : Hp} {v : V}, Rp M H v d → ∃ b, v = .ref b
def ordK (ns : List Nat) : NestedKey := .tup (ns.map fun (n : Nat) => .num (n : Int))
def ordsK (S : List (List Nat)) : NestedKey := .tup (S.map ordK)
def prK (a b : Nat) : NestedKey := .tup [.num (a : Int), .num (b : Int)]
theorem keys_nV {M : Ms} {H : Hp} : ∀ ns : List Nat, KeyVs M H (ns.map fun (n : Nat) => .num (n : Int)) (nV ns)
  | [] => .nil
  | n :: ns => .cons (.num _) (keys_nV ns)
theorem plain_nums : ∀ ns : List Nat, plainN.plainNs (ns.map fun (n : Nat) => .num (n : Int)) = true
  | [] => rfl
  | n :: ns => by rw [List.map_cons, plainN.plainNs, plain_nums ns]; rfl
theorem deep_nums : ∀ ns : List Nat, NestedKey.depthAll (ns.map fun (n : Nat) => .num (n : Int)) = 0
  | [] => by simp [NestedKey.depthAll]
  | n :: ns => by rw [List.map_cons, NestedKey.depthAll, deep_nums ns]; simp [NestedKey.depth]
theorem plain_ordK (ns : List Nat) : plainN (ordK ns) = true := by unfold ordK; rw [plainN]; exact plain_nums ns
theorem deep_ordK (ns : List Nat) : (ordK ns).depth = 1 := by unfold ordK; rw [NestedKey.depth, deep_nums]
theorem keyD_ord (ns : List Nat) : KeyD (ordK ns) (.ord ns) where
  is := fun r => by
    obtain ⟨p, ob, rfl, n, e, _⟩ := r.ordI
    exact .tup n (.inr ⟨ob, e⟩) (keys_nV ns)
  deep := by rw [deep_ordK]; decide
  plain := plain_ordK ns
  ref := fun r => let ⟨p, _, e, _⟩ := r.ordI; ⟨p, e⟩
theorem keys_ords {M : Ms} {H : Hp} : ∀ {S : List (List Nat)} {vs : List V}, RpL M H vs (S.map D.ord) → KeyVs M H (S.map ordK) vs
  | [], _, .nil => .nil
  | o :: S, _, .cons r l => .cons ((keyD_ord o).is r) (keys_ords l)
theorem plain_ords : ∀ S : List (List Nat), plainN.plainNs (S.map ordK) = true
  | [] => rfl
  | o :: S => by rw [List.map_cons, plainN.plainNs, plain_ordK, plain_ords S]; rfl
theorem deep_ords : ∀ S : List (List Nat), NestedKey.depthAll (S.map ordK) ≤ 1
  | [] => by simp [NestedKey.depthAll]
  | o :: S => by
    rw [List.map_cons, NestedKey.depthAll, deep_ordK]
    have := deep_ords S
    omega
theorem keyD_ords (S : List (List Nat)) : KeyD (ordsK S) (.tup (S.map D.ord)) where
  is := fun r => by
    obtain ⟨p, xs, rfl, n, e, l⟩ := r.tupI
    exact .tup n (.inl e) (keys_ords l)
  deep := by
    unfold ordsK
    rw [NestedKey.depth]
    have := deep_ords S
    omega
  plain := by unfold ordsK; rw [plainN]; exact plain_ords S
  ref := fun r => let ⟨p, _, e, _⟩ := r.tupI; ⟨p, e⟩
theorem keyD_pr (a b : Nat) : KeyD (prK a b) (.tup [natD a, natD b]) where
  is := fun r => by
    obtain ⟨p, xs, rfl, n, e, l⟩ := r.tupI
    cases l with
    | cons r1 l => cases l with
      | cons r2 l =>
        cases l; cases r1; cases r2
        exact .tup n (.inl e) (.cons (.num _) (.cons (.num _) .nil))
  deep := by simp [prK, NestedKey.depth, NestedKey.depthAll]
  plain := rfl
  ref := fun r => let ⟨p, _, e, _⟩ := r.tupI; ⟨p, e⟩
theorem nums_inj : ∀ {a b : List Nat}, (a.map fun (n : Nat) => NestedKey.num (n : Int)) = b.map (fun (n : Nat) => NestedKey.num (n : Int)) → a = b
  | [], [], _ => rfl
  | [], _ :: _, h => by cases h
  | _ :: _, [], h => by cases h
  | x :: a, y :: b, h => by
    rw [List.map_cons, List.map_cons] at h
    injection h with h1 h2
    injection h1 with h1
    rw [nums_inj h2, Int.ofNat.inj h1]
theorem ordK_inj {a b : List Nat} (h : ordK a = ordK b) : a = b := by
  unfold ordK at h
  injection h with h
  exact nums_inj h
theorem ordsK_inj {a b : List (List Nat)} (h : ordsK a = ordsK b) : a = b := by
  unfold ordsK at h
  injection h with h
  exact (List.map_inj_right fun _ _ => ordK_inj).mp h
theorem prK_inj {a b c d : Nat} (h : prK a b = prK c d) : a = c ∧ b = d := by
  unfold prK at h
  injection h with h
  injection h with h1 h2
  injection h1 with h1
  injection h2 with h2
  injection h2 with h2
  exact ⟨Int.ofNat.inj h1, Int.ofNat.inj h2⟩
/-! ### lookups -/
section
variable {α : Type} {es : List (NestedKey × α)} {k q : NestedKey} {d : α}
theorem look_map (h : q ≠ k) : (es.map fun x => if x.1 = k then (x.1, d) else x).lookup q = es.lookup q := by
  induction es with
  | nil => rfl
  | cons x es ih =>
    obtain ⟨k1, d1⟩ := x
    rw [List.map_cons]
    by_cases e : k1 = k
    · subst e
      have h2 : (q == k1) = false := by simpa using h
      rw [if_pos rfl, List.lookup, List.lookup, h2, ih]
    · rw [if_neg e]
      cases h3 : (q == k1) <;> simp only [List.lookup, h3, ih]
theorem look_same (h : (es.lookup k).isSome = true) : (es.map fun x => if x.1 = k then (x.1, d) else x).lookup k = some d := by
  induction es with
  | nil => cases h
  | cons x es ih =>
    obtain ⟨k1, d1⟩ := x
    rw [List.map_cons]
    by_cases e : k1 = k
    · subst e
      simp [List.lookup]
    · have h2 : (k == k1) = false := by simpa using fun z => e z.symm
      rw [if_neg e]
      simp only [List.lookup, h2] at h ⊢
      exact ih h
theorem look_snoc (h : q ≠ k) : (es ++ [(k, d)]).lookup q = es.lookup q := by
  induction es with
  | nil =>
    have h2 : (q == k) = false := by simpa using h
    simp [List.lookup, h2]
  | cons x es ih =>
    obtain ⟨k1, d1⟩ := x
    cases h3 : (q == k1) <;> simp only [List.cons_append, List.lookup, h3, ih]
theorem look_snoc_new (h : es.lookup k = none) : (es ++ [(k, d)]).lookup k = some d := by
  induction es with
  | nil => simp [List.lookup]
  | cons x es ih =>
    obtain ⟨k1, d1⟩ := x
    cases h3 : (k == k1)
    · simp only [List.cons_append, List.lookup, h3] at h ⊢
      exact ih h
    · simp only [List.lookup, h3] at h
      cases h
theorem putN_other (h : q ≠ k) : (putN es k d).lookup q = es.lookup q := by
  unfold putN
  split
  · exact look_map h
  · exact look_snoc h
theorem putN_same : (putN es k d).lookup k = some d := by
  unfold putN
  split
  · rename_i h; exact look_same h
  · rename_i h
    refine look_snoc_new ?_
    cases z : es.lookup k with
    | none => rfl
    | some v => rw [z] at h; exact absurd rfl h
theorem putN_look : (putN es k d).lookup q = if q = k then some d else es.lookup q := by
  split
  · rename_i h; rw [h]; exact putN_same
  · rename_i h; exact putN_other h
theorem putN_len : (putN es k d).length ≤ es.length + 1 := by
  unfold putN
  split <;> simp
end
/-! ### reading and writing -/
def tND (W : Res) (ρ : List (Option D)) (es : List (NestedKey × D)) : TE := fun σ H Q => W.ok H ∧ Sl W.m H σ ρ ∧ ∀ p H', Ext W.m H H' → W.ok H' → (∀ H'', Ext W.m H' H'' → W.ok H'' → ∃ xs, H'' p = some (.ext (ndOk p xs)) ∧ RpN W.m H'' xs es) → Q (.ref p) H'
abbrev ND (X : Cx) (W : Res) (ρ : List (Option D)) (e : Expr) (es : List (NestedKey × D)) : Prop := PE X e (tND W ρ es)
section
variable {X : Cx} {B : Bs} {W : Res} {Γ : List (V × D)} {ρ ρ' : List (Option D)} {P : D → Prop} {e a b c : Expr} {x y d : D} {pos pos2 : Pos} {rest : List Stmt} {E : Ends} {l : Addr} {es : List (NestedKey × D)} {k : NestedKey}
theorem nd_is (ha : EE X W ρ a (.dnk es)) : ND X W ρ a es :=
  PEimp ha fun σ H Q ⟨ok, sl, q⟩ => ⟨ok, sl, fun z v H1 e1 ok1 hz r => by
    subst hz
    obtain ⟨p, xs, rfl, n, e, l⟩ := id r.dnkI
    refine q p H1 e1 ok1 fun H2 e2 _ => ?_
    exact ⟨xs, e2.keep _ _ n e, l.mono e2.keeps⟩⟩
theorem nd_own (ha : EE X W ρ a (.obj l)) (hI : ∀ H, W.ok H → (ownN es).I W.m H l) : ND X W ρ a es :=
  PEimp ha fun σ H Q ⟨ok, sl, q⟩ => ⟨ok, sl, fun z v H1 e1 ok1 hz r => by
    subst hz
    cases r
    exact q l H1 e1 ok1 fun H2 _ ok2 => hI H2 ok2⟩
theorem ed_nget (hu : X.A.units + 9 < cLine) (ha : ND X W ρ a es) (hb : EE X W ρ b x) (hk : KeyD k x) (hl : es.lookup k = some d) (hs : NoSl b := by exact fun _ _ => rfl) : EE X W ρ (.Subscript a b pos) d :=
  ⟨fun pins s σ H Q I ⟨ok, sl, q⟩ => by
    refine subD_of PySem.F.slot_dict_getitem.lookup hs (thn (ha.run pins s σ H (fun v H1 => ∃ p, v = .ref p ∧ Ext W.m H H1 ∧ W.ok H1 ∧ ∀ H'', Ext W.m H1 H'' → W.ok H'' → ∃ xs, H'' p = some (.ext (ndOk p xs)) ∧ RpN W.m H'' xs es) I ⟨ok, sl, fun p H1 e1 ok1 st => ⟨p, rfl, e1, ok1, st⟩⟩) fun u s1 ⟨v, H1, I1, rx, p, ev, e1, ok1, st⟩ => ?_)
    subst ev
    cases rx
    refine thn (hb.run pins s1 σ H1 (fun v H2 => ∃ bb, v = .ref bb ∧ Ext W.m H1 H2 ∧ W.ok H2 ∧ KeyV W.m H2 k v) I1 ⟨ok1, sl.ext e1, fun z v H2 e2 ok2 hz r => ?_⟩) fun u2 s2 ⟨v2, H2, I2, ry, bb, ev2, e2, ok2, kb⟩ => ?_
    · subst hz
      obtain ⟨bb, rfl⟩ := hk.ref r
      exact ⟨bb, rfl, e2, ok2, hk.is r⟩
    · subst ev2
      cases ry
      obtain ⟨xs, he, rn⟩ := st H2 e2 ok2
      rcases rn.val (k := k) with ⟨_, h2⟩ | ⟨v3, d3, h1, h2, r3⟩
      · rw [hl] at h2; cases h2
      · rw [hl] at h2; cases h2
        exact ⟨nd_type I2 he, nd_get hu I2 he rn.keysV kb hk.deep h1 fun w' s3 I3 rw' => ⟨v3, H2, I3, rw', q d v3 H2 (e1.trans e2) ok2 rfl r3⟩⟩⟩
theorem pc_nin (hu : X.A.units + 9 < cLine) (ha : EE X W ρ a x) (hb : ND X W ρ b es) (hk : KeyD k x) : PC X .In a b (tD W ρ fun z => z = .bl (es.lookup k).isSome) :=
  ⟨fun pins s σ H Q I ⟨ok, sl, q⟩ => by
    refine thn (ha.run pins s σ H (fun v H1 => ∃ bb, v = .ref bb ∧ Ext W.m H H1 ∧ W.ok H1 ∧ Rp W.m H1 v x) I ⟨ok, sl, fun z v H1 e1 ok1 hz r => ?_⟩) fun u s1 ⟨v, H1, I1, rx, bb, ev, e1, ok1, r1⟩ => ?_
    · subst hz
      obtain ⟨bb, rfl⟩ := hk.ref r
      exact ⟨bb, rfl, e1, ok1, r⟩
    · subst ev
      cases rx
      refine thn (hb.run pins s1 σ H1 (fun v H2 => ∃ p, v = .ref p ∧ Ext W.m H1 H2 ∧ W.ok H2 ∧ ∀ H'', Ext W.m H2 H'' → W.ok H'' → ∃ xs, H'' p = some (.ext (ndOk p xs)) ∧ RpN W.m H'' xs es) I1 ⟨ok1, sl.ext e1, fun p H2 e2 ok2 st => ⟨p, rfl, e2, ok2, st⟩⟩) fun u2 s2 ⟨v2, H2, I2, ry, p, ev2, e2, ok2, st⟩ => ?_
      subst ev2
      cases ry
      obtain ⟨xs, he, rn⟩ := st H2 .refl ok2
      refine nd_in hu I2 he rn.keysV (hk.is (r1.ext e2)) hk.deep fun s3 I3 => ⟨.bl (valX xs k).isSome, H2, I3, rfl, ?_⟩
      have e : (valX xs k).isSome = (es.lookup k).isSome := by
        rcases rn.val (k := k) with ⟨h1, h2⟩ | ⟨_, _, h1, h2, _⟩ <;> rw [h1, h2] <;> rfl
      rw [e]
      exact q _ _ H2 (e1.trans e2) ok2 rfl (.bl _)⟩
theorem pc_nnot (hu : X.A.units + 9 < cLine) (ha : EE X W ρ a x) (hb : ND X W ρ b es) (hk : KeyD k x) : PC X .NotIn a b (tD W ρ fun z => z = .bl (!(es.lookup k).isSome)) :=
  ⟨fun pins s σ H Q I ⟨ok, sl, q⟩ => by
    refine thn (ha.run pins s σ H (fun v H1 => ∃ bb, v = .ref bb ∧ Ext W.m H H1 ∧ W.ok H1 ∧ Rp W.m H1 v x) I ⟨ok, sl, fun z v H1 e1 ok1 hz r => ?_⟩) fun u s1 ⟨v, H1, I1, rx, bb, ev, e1, ok1, r1⟩ => ?_
    · subst hz
      obtain ⟨bb, rfl⟩ := hk.ref r
      exact ⟨bb, rfl, e1, ok1, r⟩
    · subst ev
      cases rx
      refine thn (hb.run pins s1 σ H1 (fun v H2 => ∃ p, v = .ref p ∧ Ext W.m H1 H2 ∧ W.ok H2 ∧ ∀ H'', Ext W.m H2 H'' → W.ok H'' → ∃ xs, H'' p = some (.ext (ndOk p xs)) ∧ RpN W.m H'' xs es) I1 ⟨ok1, sl.ext e1, fun p H2 e2 ok2 st => ⟨p, rfl, e2, ok2, st⟩⟩) fun u2 s2 ⟨v2, H2, I2, ry, p, ev2, e2, ok2, st⟩ => ?_
      subst ev2
      cases ry
      obtain ⟨xs, he, rn⟩ := st H2 .refl ok2
      refine nd_notIn hu I2 he rn.keysV (hk.is (r1.ext e2)) hk.deep fun s3 I3 => ⟨.bl (!(valX xs k).isSome), H2, I3, rfl, ?_⟩
      have e : (valX xs k).isSome = (es.lookup k).isSome := by
        rcases rn.val (k := k) with ⟨h1, h2⟩ | ⟨_, _, h1, h2, _⟩ <;> rw [h1, h2] <;> rfl
      rw [e]
      exact q _ _ H2 (e1.trans e2) ok2 rfl (.bl _)⟩
theorem ed_pc {op : CmpOp} (h : PC X op a b (tD W ρ P)) (hm : behindInMarks op b = false := by rfl) : ED X W ρ (.Compare a [op] [b] pos) P := pe_cmp h hm
theorem tb_pc {op : CmpOp} {u : Bool} (h : PC X op a b (tD W ρ fun z => z = .bl u)) (hm : behindInMarks op b = false := by rfl) : TB X W ρ (.Compare a [op] [b] pos) u :=
  PTimp (pt_cmp h hm) fun σ H Q ⟨ok, sl, q⟩ => ⟨ok, sl, fun z v H1 e1 ok1 hz r => by
    subst hz
    cases r
    exact ⟨u, rfl, q u H1 e1 ok1 rfl⟩⟩
/-- d[k] = v, d owned -/
theorem ss_nput (hu : X.A.units + 9 < cLine) (hl : ¬ W.m l) (ha : EE X (W.add l (ownN es)) ρ a (.obj l)) (hb : EE X (W.add l (ownN es)) ρ b x) (hk : KeyD k x) (hv : EE X (W.add l (ownN es)) ρ c d) (hz : es.length < 16000000) (h2 : SS X (At B (W.add l (ownN (putN es k d))) Γ ρ) rest E)
    (hs : swapsWith c (some (.Subscript a b pos2)) pos.line X.env = pure false := by rfl) : SS X (At B (W.add l (ownN es)) Γ ρ) (.Assign [.Subscript a b pos2] c pos :: rest) E := by
  have hp : PS X (.Assign [.Subscript a b pos2] c pos) (fun Dn σ H => At B (W.add l (ownN es)) Γ ρ σ H ∧ ∀ σ' H', At B (W.add l (ownN (putN es k d))) Γ ρ σ' H' → Dn.nx σ' H') := ⟨fun pins s σ H Dn I ⟨at_, kn⟩ => by
    refine wpAny_Assign_Subscript (thn (hv.run pins s σ H (fun v H1 => At B (W.add l (ownN es)) Γ ρ σ H1 ∧ Rp (W.add l (ownN es)).m H1 v d) I ⟨at_.ok, at_.sl, fun z v H1 e1 ok1 hz r => by subst hz; exact ⟨at_.go e1 ok1, r⟩⟩) fun u s1 ⟨v, H1, I1, rv, at1, r1⟩ => ?_) hs
    refine thn (ha.run pins s1 σ H1 (fun v2 H2 => v2 = .ref l ∧ At B (W.add l (ownN es)) Γ ρ σ H2 ∧ Rp (W.add l (ownN es)).m H2 v d) I1 ⟨at1.ok, at1.sl, fun z v2 H2 e2 ok2 hz r => by subst hz; cases r; exact ⟨rfl, at1.go e2 ok2, r1.ext e2⟩⟩) fun u2 s2 ⟨v2, H2, I2, ro, ev, at2, r2⟩ => ?_
    subst ev
    cases ro
    refine thn (hb.run pins s2 σ H2 (fun v3 H3 => ∃ bb, v3 = .ref bb ∧ At B (W.add l (ownN es)) Γ ρ σ H3 ∧ Rp (W.add l (ownN es)).m H3 v d ∧ KeyV (W.add l (ownN es)).m H3 k v3) I2 ⟨at2.ok, at2.sl, fun z v3 H3 e3 ok3 hz r => by
      subst hz
      obtain ⟨bb, rfl⟩ := hk.ref r
      exact ⟨bb, rfl, at2.go e3 ok3, r2.ext e3, hk.is r⟩⟩) fun u3 s3 ⟨v3, H3, I3, ri, bb, ev3, at3, r3, kb⟩ => ?_
    subst ev3
    cases ri
    obtain ⟨xs, he, rn⟩ := id at3.ok.2
    refine nd_put hu I3 he rn.keysV kb hk.deep hk.plain (by rw [rn.length]; exact Nat.lt_of_lt_of_le hz (by decide)) rv fun s4 I4 => ⟨σ, _, I4, kn _ _ ?_⟩
    have ex : Ext (W.add l (ownN es)).m H3 (upd H3 l (.ext (ndOk l (putX xs k bb v)))) := .mut (.inr rfl) he
    exact at3.upd (c' := ownN (putN es k d)) hl ⟨_, upd_same, (rn.mono ex.keeps).put (kb.mono ex.keeps) (r3.ext ex)⟩⟩
  exact ss_cons hp (fun Dn σ H at_ kn _ _ _ => ⟨at_, kn⟩) h2
/-- {} -/
theorem en_nnew : EN X W ρ (.Dict [] [] pos) (fun c => c = ownN []) :=
  ⟨fun pins s σ H Q I ⟨ok, sl, q⟩ => by
    have hf : H s.heap.objs.size = none := I.hok.fresh (Nat.le_refl _)
    have ne : (s.heap.objs.size == sysModules) = false := by
      obtain ⟨_, h, _⟩ : ObjOk X.prog X.w H (s.heap.push { cls := .type "dict", data := .dict #[] }) s.heap.objs.size (.dK []) := dk_empty s.heap I.big
      exact h
    refine wpAny_Dict_empty ⟨.ref s.heap.objs.size, upd H s.heap.objs.size (.ext (ndOk s.heap.objs.size [])), I.laid (t' := s.toks) (fun _ _ q => Heap.get?_push_of_some _ q) (Nat.le_refl _) ?_, rfl, q _ _ _ rfl hf (.new hf) (ok_own (H := H) ok hf ⟨[], upd_same, .nil⟩)⟩
    exact ⟨⟨Nat.zero_le _, ne, fun x h => by simp at h, List.nodup_nil, [], .nil, _, _, _, Heap.get?_push_size _ rfl, ⟨rfl, rfl, rfl⟩, rfl, fun _ => rfl⟩, ⟨_, Heap.get?_push_size _ rfl⟩, fun h1 h2 ⟨q1, q2, q3, q4, vs, q5, o', es', ep', q6, q7⟩ q => ⟨q1, q2, q3, q4, vs, q5, o', es', ep', q _ q6, q7⟩⟩⟩
theorem At.freezeN (a : At B (W.add l (ownN es)) Γ ρ σ H) (hl : ¬ W.m l) {i : Nat} (hi : ρ[i]? = some (some (.obj l))) : At B W Γ (ρ.set i (some (.dnk es))) σ H := by
  have k : Keeps (W.add l (ownN es)).m W.m H H := keeps_shrink fun b m => .inl m
  refine ⟨a.ext, W.shrink a.ok.1 fun b m => .inl m, ⟨by rw [List.length_set]; exact a.sl.len, fun j d h => ?_⟩, fun p hp => (a.gh p hp).mono k, fun b m => a.own b (.inl m)⟩
  rcases set_at h with ⟨rfl, rfl⟩ | h
  · obtain ⟨v, e, r⟩ := a.sl.at_ _ _ hi
    cases r
    obtain ⟨vs, e2, r2⟩ := a.ok.2
    exact ⟨.ref l, e, .dnk hl e2 (r2.mono k)⟩
  · obtain ⟨v, e, r⟩ := a.sl.at_ _ _ h
    exact ⟨v, e, r.mono k⟩
theorem ss_freezeN (i : Nat) (hl : ¬ W.m l) (h : SS X (At B W Γ (ρ.set i (some (.dnk es)))) rest E) (hi : ρ[i]? = some (some (.obj l)) := by rfl) : SS X (At B (W.add l (ownN es)) Γ ρ) rest E := h.pre fun σ H a => a.freezeN hl hi
end
end K14

set_option Elab.async false
set_option linter.all false
set_option maxRecDepth 100000
set_option maxHeartbeats 4000000
namespace K14
open PySem L2
/-! ### {key: value for target in iter}, the keys tuples -/
section
variable {X : Cx} {pins : List (Addr × Obj)} {σ : St} {H : Hp} {s : Shared} {M : Ms} {a b : Addr} {xs : NX} {k : NestedKey} {E : Value → Shared → Prop}
theorem nd_setC {A : Around} {v : V} {u : Value} {Q : Unit → Shared → Prop} (hu : A.units + 9 < cLine) (I : L2.Inv X pins σ H s) (e : H a = some (.ext (ndOk a xs))) (kv : KeysV M H xs) (kb : KeyV M H k (.ref b)) (hk : k.depth ≤ 8) (hp : plainN k = true) (hl : xs.length < sizeLine) (rv : RelV v u)
    (h : ∀ s', L2.Inv X pins σ (upd H a (.ext (ndOk a (putX xs k b v)))) s' → Q () s') : wpAny (model X.prog X.w) A (dictSet a (.ref b) u) Q E s := by
  obtain ⟨hz, hs, h3, us, p, dd⟩ := nd_of I e kv
  have hz' : us.length ≤ sizeLine := by rw [← Paired.length p]; exact hz
  have hr : (nestedKind X.prog X.w).room A := by
    show A.units + 8 < cLine
    omega
  refine wpAny_dictSet_heap (hsz := hz') hr ⟨kb.is I rfl, hk⟩ dd fun h' dd' hsb => h _ ?_
  have p' := PX.put (k := k) (b := b) p rv
  obtain ⟨o, es, ep, g, ex, hd, he, _, hn⟩ := dd'
  have g3 : ∀ x ∈ putX xs k b v, plainN x.1 = true ∧ x.1.depth ≤ 8 := fun x hx => by
    rcases putX_mem hx with ⟨e1, _⟩ | ⟨y, hy, e1, _⟩
    · rw [e1]; exact ⟨hp, hk⟩
    · rw [e1]; exact h3 y hy
  refine d_write I (by rw [e]; exact True.intro) hsb ⟨o, g⟩ ⟨⟨Nat.le_trans (putX_len _ _ _ _) hl, hs, g3, by rw [PX.keys p']; exact hn, _, p', o, es, ep, g, ex, hd, fun w' => ?_⟩, ⟨o, g⟩, fun h1 h2 ⟨q1, q2, q3, q4, vs, q5, o', es', ep', q6, q7⟩ q => ⟨q1, q2, q3, q4, vs, q5, o', es', ep', q _ q6, q7⟩⟩
  rw [he]
  refine List.map_congr_left fun y hy => ?_
  obtain ⟨x, hx, e1, _⟩ := PX.mem p' y hy
  unfold entryOfKey
  show DictEntry.mk (y.1.hash X.w) _ _ = _
  rw [hash_plain X.w w' (by rw [← e1]; exact (g3 x hx).1)]
theorem nd_new {P : Program} {w : World} {H : Hp} (h : Heap) (hb : sysModules < h.objs.size) : ObjOk P w H (h.push { cls := .type "dict", data := .dict #[] }) h.objs.size (.ext (ndOk h.objs.size [])) :=
  ⟨⟨Nat.zero_le _, beq_eq_false_iff_ne.mpr (Ne.symm (Nat.ne_of_lt hb)), fun x z => by simp at z, List.nodup_nil, [], .nil, _, _, _, Heap.get?_push_size _ rfl, ⟨rfl, rfl, rfl⟩, rfl, fun _ => rfl⟩, ⟨_, Heap.get?_push_size _ rfl⟩,
    fun h1 h2 ⟨q1, q2, q3, q4, vs, q5, o', es', ep', q6, q7⟩ q => ⟨q1, q2, q3, q4, vs, q5, o', es', ep', q _ q6, q7⟩⟩
end
/-- one more entry by a turn -/
def NxN (p : Addr) (Nx : Hp → Prop) (y z : V) (Hq : Hp) : Prop := ∃ (M : Ms) (xs : NX) (c : Addr) (k : NestedKey), y = .ref c ∧ Hq p = some (.ext (ndOk p xs)) ∧ KeysV M Hq xs ∧ KeyV M Hq k (.ref c) ∧ k.depth ≤ 8 ∧ plainN k = true ∧ xs.length < sizeLine ∧ Nx (upd Hq p (.ext (ndOk p (putX xs k c z))))
def tDcN (wi : TI) (g : TG) (tk tv : TE) (vs : List Nat) : TE := fun σ H Q => wi σ H fun J H1 => ∀ p, H1 p = none → ∃ Wt : Nat → Nat → Hp → Prop, (∃ m, Wt 0 m (upd H1 p (.ext (ndOk p [])))) ∧
  ∀ i m Hi, Wt i m Hi → (J.stop i Hi ∧ Q (.ref p) Hi) ∨ (J.go i Hi ∧ ∃ Nx : Hp → Prop, (∀ Hn, Nx Hn → ∃ m2, m2 < m ∧ Wt (i + 1) m2 Hn) ∧
    ∀ x Hy, J.yld i Hi x Hy → g x (wipe σ vs) Hy fun σt Ht => wipe σt vs = wipe σ vs ∧ tk σt Ht fun y Hk => tv σt Hk fun z Hv => NxN p Nx y z Hv)
theorem dcN_core {X : Cx} {pins : List (Addr × Obj)} {t0 : Shared} {σ : St} {H0 : Hp} {Q : VK} {pos' : Pos} {use : Option (Value → Sem Unit)} {Qf : Value → Shared → Prop} {kx vx tg iter : Expr} {scope : Scope} {own : List (Str × Nat)} {pos : Pos} {wi : TI} {g : TG} {tk tv : TE} (hu : X.A.units + 9 < cLine) (hc : X.calm = true) (hN : X.N.Nodup) (hi : PI X tg iter wi) (ok : BlkOk X.N X.env.scope scope own)
    (hg : ∀ (t : Shared) (Hh : Hp) (C : Addr) (cl : List (Str × Addr)) (fp : List Addr), PG (X.blk t Hh scope (compEnvC scope cl C X.env) fp) tg g)
    (hk : ∀ (t : Shared) (Hh : Hp) (C : Addr) (cl : List (Str × Addr)) (fp : List Addr), PE (X.blk t Hh scope (compEnvC scope cl C X.env) fp) kx tk)
    (hv : ∀ (t : Shared) (Hh : Hp) (C : Addr) (cl : List (Str × Addr)) (fp : List Addr), PE (X.blk t Hh scope (compEnvC scope cl C X.env) fp) vx tv) (hs : ∀ x, foldedSetIterable iter X.env x = pure x) (I0 : L2.Inv X pins σ H0 t0) (h0 : tDcN wi g tk tv (own.map (·.2)) σ H0 Q)
    (hRR : ∀ p C t m Hr, L2.Inv X pins σ Hr t → Q (.ref p) Hr → t.heap.Ns C m → FpOk X pins Hr C → compPost (model X.prog X.w) X.A X.xe use Qf (.ref p) C (.ok .next) t) :
    wpAny (model X.prog X.w) X.A (comprehension (.DictComp kx vx [⟨tg, iter, [], 0⟩] scope pos) scope X.env pos' newDict false (eval iter X.env) use) Qf X.xe t0 := by
  have frees : ∀ y ∈ scope.names, y.2 = .free → ∃ c, X.env.cells.lookup y.1 = some c := fun y hy ey => (ok.free y hy ey).elim (fun z => I0.ok.has _ (.inl z)) fun z => I0.ok.has _ (.inr z)
  refine wpAny_comprehension_free (use := use) rfl hs (closure_ok frees) ok.kind (fun y hy ey => by rw [ok.uniq y hy, ey]) (thn (hi.run pins t0 σ H0 _ I0 h0) fun xv t1 h1 => thn h1 fun itv t2 h2 => ?_)
  obtain ⟨it, fp, tn, J, H2, rfl, I2, T, st2, f2, q2⟩ := h2
  refine wpAny_newObj_type (newEnv_comp ?_)
  obtain ⟨p, hp⟩ : ∃ p, t2.heap.objs.size = p := ⟨_, rfl⟩
  rw [hp]
  have np : H2 p = none := I2.hok.fresh (Nat.le_of_eq hp)
  obtain ⟨Wt, ⟨m0, w0⟩, turn⟩ := q2 p np
  obtain ⟨t3, ht3⟩ : ∃ t3 : Shared, ({ t2 with heap := t2.heap.push { cls := .type "dict", data := .dict #[] } } : Shared) = t3 := ⟨_, rfl⟩
  have e3 : t3.heap = t2.heap.push { cls := .type "dict", data := .dict #[] } := by rw [← ht3]
  have I3 : L2.Inv X pins σ (upd H2 p (.ext (ndOk p []))) t3 := by
    subst ht3 hp
    exact I2.laid (t' := t2.toks) (fun b o z => Heap.get?_push_of_some _ z) (Nat.le_refl _) (nd_new t2.heap I2.big)
  have lt2 : ∀ b ∈ fp, b < p := fun b hb => by
    obtain ⟨o, z, _⟩ := T.obj _ _ st2 b hb
    exact hp ▸ Heap.lt_size z
  have f3 : ∀ b ∈ fp, FpOk X pins (upd H2 p (.ext (ndOk p []))) b ∧ b < t3.heap.objs.size := fun b hb => by
    refine ⟨⟨?_, (f2 b hb).2⟩, by rw [e3, Heap.size_push, hp]; exact Nat.lt_succ_of_lt (lt2 b hb)⟩
    rw [upd_ne (Nat.ne_of_lt (lt2 b hb))]
    exact (f2 b hb).1
  have st3 : tn 0 t3.heap := T.keep _ _ _ st2 fun b _ o z => by rw [e3]; exact Heap.get?_push_of_some _ z
  have I4 := block_start I3 ok hN f3
  have e3' : ∀ z : Addr, z = p + 1 → z = t3.heap.objs.size := fun z hz => by rw [e3, Heap.size_push, hp]; exact hz
  have pg := fun cl => hg t3 (upd H2 p (.ext (ndOk p []))) t3.heap.objs.size cl fp
  have pk := fun cl => hk t3 (upd H2 p (.ext (ndOk p []))) t3.heap.objs.size cl fp
  have pv := fun cl => hv t3 (upd H2 p (.ext (ndOk p []))) t3.heap.objs.size cl fp
  have none3 : ∀ b ∈ fp, (upd H2 p (.ext (ndOk p []))) b = none := fun b hb => (f3 b hb).1.1
  show codeAny _ _ (.compStart _ 0 (.ref it) (.ref p) (compEnvC scope (cellsFrom (({ t2 with heap := t2.heap.push { cls := .type "dict", data := .dict #[] } } : Shared).heap.objs.size + 1) scope.names (cloFrom X.env.cells scope.names [])) ({ t2 with heap := t2.heap.push { cls := .type "dict", data := .dict #[] } } : Shared).heap.objs.size X.env))
    (compPost (model X.prog X.w) X.A X.xe use Qf (.ref p) ({ t2 with heap := t2.heap.push { cls := .type "dict", data := .dict #[] } } : Shared).heap.objs.size) { ({ t2 with heap := t2.heap.push { cls := .type "dict", data := .dict #[] } } : Shared) with heap := pushCells (({ t2 with heap := t2.heap.push { cls := .type "dict", data := .dict #[] } } : Shared).heap.push { cls := .type "dict", data := .dict #[] }) scope.names }
  rw [ht3]
  generalize cellsFrom (t3.heap.objs.size + 1) scope.names (cloFrom X.env.cells scope.names []) = cl at I4 ⊢
  replace pg := pg cl
  replace pk := pk cl
  replace pv := pv cl
  generalize hce : compEnvC scope cl t3.heap.objs.size X.env = ce at I4 pg pk pv ⊢
  have locs : ce.locals = t3.heap.objs.size := by rw [← hce]; rfl
  generalize hH3 : upd H2 p (.ext (ndOk p [])) = H3 at I3 I4 pg pk pv w0 none3 f3
  generalize ht4 : ({ t3 with heap := pushCells (t3.heap.push { cls := .type "dict", data := .dict #[] }) scope.names } : Shared) = t4 at I4 ⊢
  have st4 : tn 0 t4.heap := T.keep _ _ _ st3 fun b _ o z => by rw [← ht4]; exact pushCells_keeps _ _ _ _ (Heap.get?_push_of_some _ z)
  have still : ∀ {σq : St} {Hq : Hp} {tq : Shared}, L2.Inv (X.blk t3 H3 scope ce fp) [] σq Hq tq → (∀ b ∈ fp, Hq b = none) → ∀ b ∈ fp, FpOk (X.blk t3 H3 scope ce fp) [] Hq b := fun {σq Hq tq} Iq nq b hb =>
    ⟨nq b hb, (Iq.ok.exf b hb).1, Iq.ok.exfs b hb, .inl hb, fun x c z => (Iq.ok.exf b hb).2 x c z, fun y hy => by cases (show y ∈ ([] : List (Addr × Obj)) from hy)⟩
  refine codeAny_compStart_dict ?lp (T.self X.A 0 _ _ _ st4 ?lp)
  refine compLoop_anyD (fun n tq => ∃ i Hq, L2.Inv (X.blk t3 H3 scope ce fp) [] (wipe σ (own.map (·.2))) Hq tq ∧ tn i tq.heap ∧ (∀ b ∈ fp, Hq b = none) ∧ Wt i n Hq) ?_ m0 ⟨0, H3, I4, st4, none3, w0⟩
  rintro n t5 ⟨i, H5, I5, st5, n5, w5⟩
  rcases turn i n H5 w5 with ⟨stop, qq⟩ | ⟨go, Nx, hNx, step⟩
  · refine thnF (T.done (X.blk t3 H3 scope ce fp) rfl rfl rfl hc i [] t5 _ H5 (fun _ _ => False) I5 (still I5 n5) st5 stop) fun r t6 ⟨hr, I6⟩ => ?_
    subst hr
    have I7 : L2.Inv X pins σ H5 t6 := I3.call' (ch := fp) I6.os I6.base I6.hok I6.bare fun b hb => ⟨(f3 b hb).1.2.2.2.1, (f3 b hb).1.2.1, (f3 b hb).1.2.2.2.2.1, (f3 b hb).1.2.2.2.2.2⟩
    have nC : H5 t3.heap.objs.size = none := by rw [← locs]; exact I6.free
    obtain ⟨m, hm, _⟩ := I6.loc
    replace hm : t6.heap.Ns t3.heap.objs.size m := by rw [← locs]; exact hm
    exact hRR p t3.heap.objs.size t6 m H5 I7 qq hm (I3.fpOk (Nat.le_refl _) nC)
  · refine thnF (T.item (X.blk t3 H3 scope ce fp) rfl rfl rfl hc i [] t5 _ H5 (fun _ _ => False) I5 (still I5 n5) st5 go) fun r t6 ⟨u, hr, h6⟩ => ?_
    subst hr
    refine thnF h6 fun _ t7 ⟨x, H7, I7, r7, y7, st7, n7⟩ => ?_
    refine thnF (pg.run _ t7 _ H7 x u _ (I7.pinned (still I7 n7) (T.obj _ _ st7)) r7 (step x H7 y7)) fun _ t8 ⟨σ8, H8, I8, hw8, q8⟩ => ?_
    refine thnF ((pts_nil (X := X.blk t3 H3 scope ce fp)).run _ t8 σ8 H8 (fun bb H9 => bb = true ∧ H9 = H8) I8 ⟨rfl, rfl⟩) fun bb t9 ⟨H9, I9, hbb, h98⟩ => ?_
    subst hbb h98
    simp only [if_true]
    refine thnF (pk.run _ t9 σ8 H9 _ I9 q8) fun z1 t10 ⟨yk, H10, I10, r10, q10⟩ => ?_
    refine thnF (pv.run _ t10 σ8 H10 _ I10 q10) fun z2 t11 ⟨yv, H11, I11, r11, M, xs, c, k, ek, hp11, kv, kb, k1, k2, hz, nx⟩ => ?_
    subst ek
    cases r10
    refine nd_setC (X := X.blk t3 H3 scope ce fp) hu I11 hp11 kv kb k1 k2 hz r11 fun t12 I12 => ?_
    obtain ⟨m2, hm2, w12⟩ := hNx _ nx
    have pin2 : ∀ b ∈ fp, ∀ o, t7.heap.get? b = some o → t12.heap.get? b = some o ∧ (upd H11 p (.ext (ndOk p (putX xs k c yv)))) b = none := fun b hb o z => by
      have y := I12.pin (b, o) (List.mem_append_right _ (List.mem_append_right _ (mem_pinsAt hb z)))
      exact ⟨y.1, y.2.1⟩
    have len8 : (wipe σ (own.map (·.2))).length = σ8.length := by rw [← hw8, wipe_length]
    refine ⟨m2, hm2, i + 1, _, (I12.unpinned (pins := [])).weak len8 (fun j v z => (wipe_some (by rw [hw8]; exact z)).1), T.keep _ _ _ st7 fun b hb o z => (pin2 b hb o z).1, fun b hb => ?_, w12⟩
    obtain ⟨o, z, _⟩ := T.obj _ _ st7 b hb
    exact (pin2 b hb o z).2
theorem pe_dcN {X : Cx} {kx vx tg iter : Expr} {scope : Scope} {own : List (Str × Nat)} {pos : Pos} {wi : TI} {g : TG} {tk tv : TE} (hu : X.A.units + 9 < cLine) (hc : X.calm = true) (hN : X.N.Nodup) (hi : PI X tg iter wi) (ok : BlkOk X.N X.env.scope scope own)
    (hg : ∀ (t : Shared) (Hh : Hp) (C : Addr) (cl : List (Str × Addr)) (fp : List Addr), PG (X.blk t Hh scope (compEnvC scope cl C X.env) fp) tg g)
    (hk : ∀ (t : Shared) (Hh : Hp) (C : Addr) (cl : List (Str × Addr)) (fp : List Addr), PE (X.blk t Hh scope (compEnvC scope cl C X.env) fp) kx tk)
    (hv : ∀ (t : Shared) (Hh : Hp) (C : Addr) (cl : List (Str × Addr)) (fp : List Addr), PE (X.blk t Hh scope (compEnvC scope cl C X.env) fp) vx tv) (hs : ∀ x, foldedSetIterable iter X.env x = pure x := by intro _; rfl) :
    PE X (.DictComp kx vx [⟨tg, iter, [], 0⟩] scope pos) (tDcN wi g tk tv (own.map (·.2))) := by
  refine ⟨fun pins t0 σ H0 Q I0 h0 => ?_⟩
  rw [arm_eval_DictComp]
  refine dcN_core hu hc hN hi ok hg hk hv hs I0 h0 fun p C t m Hr Ir q hn ⟨g0, g1, g2, g3, g4, g5⟩ => ⟨m, hn, fun hh sb => ?_⟩
  exact ⟨.ref p, Hr, Ir.turned (t' := t.toks) (fun b o hb z => (sb.2 b hb).trans z) g0 g1 g3 g4 g5, rfl, q⟩
theorem ps_setDcN {X : Cx} {i : Nat} {y : Str} {py spos : Pos} {kx vx tg iter : Expr} {scope : Scope} {own : List (Str × Nat)} {pos : Pos} {wi : TI} {g : TG} {tk tv : TE} (hu : X.A.units + 9 < cLine) (hc : X.calm = true) (hN : X.N.Nodup) (hy : X.N[i]? = some y) (hyl : X.env.scope.names.lookup y = some .local) (hsw : swapsWith (.DictComp kx vx [⟨tg, iter, [], 0⟩] scope pos) (some (.Name y py)) spos.line X.env = pure true) (hi : PI X tg iter wi) (ok : BlkOk X.N X.env.scope scope own)
    (hg : ∀ (t : Shared) (Hh : Hp) (C : Addr) (cl : List (Str × Addr)) (fp : List Addr), PG (X.blk t Hh scope (compEnvC scope cl C X.env) fp) tg g)
    (hk : ∀ (t : Shared) (Hh : Hp) (C : Addr) (cl : List (Str × Addr)) (fp : List Addr), PE (X.blk t Hh scope (compEnvC scope cl C X.env) fp) kx tk)
    (hv : ∀ (t : Shared) (Hh : Hp) (C : Addr) (cl : List (Str × Addr)) (fp : List Addr), PE (X.blk t Hh scope (compEnvC scope cl C X.env) fp) vx tv) (hs : ∀ x, foldedSetIterable iter X.env x = pure x := by intro _; rfl) :
    PS X (.Assign [.Name y py] (.DictComp kx vx [⟨tg, iter, [], 0⟩] scope pos) spos) (tAsg (tDcN wi g tk tv (own.map (·.2))) (gName i)) := by
  refine ⟨fun pins t0 σ H0 Dn I0 h0 => ?_⟩
  rw [exec_Assign_Name_used _ _ _ _ hsw]
  refine wpAny_bind (wpAny_standAt (wpAny_bind ?_))
  show wpAny _ X.A (do let _ ← comprehension (.DictComp kx vx [⟨tg, iter, [], 0⟩] scope pos) scope X.env (firstIterPos [⟨tg, iter, [], 0⟩] pos) newDict false (eval iter X.env) (some (assign (.Name y py) X.env))) _ _ t0
  have h1 : tDcN wi g tk tv (own.map (·.2)) σ H0 (fun x H1 => gName i x σ H1 Dn.nx) := h0
  refine wpAny_bind (thn (dcN_core (Qf := fun _ t => SP X pins Dn .next t) hu hc hN hi ok hg hk hv hs I0 h1 fun p C t m Hr Ir q hn ⟨g0, g1, g2, g3, g4, g5⟩ => ?_) fun _ t hq => wpAny_pure (wpAny_pure hq))
  show wpAny _ _ (assign (.Name y py) X.env (.ref p)) _ _ _
  refine wpAny_assign_Name (store_ok2 (v := V.ref p) Ir hN hy (.inl hyl) rfl (fun t2 I2 ⟨a, sb, ha⟩ => ?_) (.inr hyl))
  have haC : C ≠ a := ha.elim (fun z => by rw [z]; exact g1) fun z ez => g4 y a z ez.symm
  exact ⟨m, hn.sameBut sb haC, fun h3 sb3 => ⟨_, Hr, I2.turned (t' := t2.toks) (fun b o hb z => (sb3.2 b hb).trans z) g0 g1 g3 g4 g5, q⟩⟩
end K14

set_option Elab.async false
set_option linter.all false
set_option maxRecDepth 100000
set_option maxHeartbeats 4000000
namespace K14
open PySem L2
/-- a dict comprehension read as a value, or as what a name is set to -/
structure DcJ (X : Cx) (kx vx tg iter : Expr) (scope : Scope) (own : List (Str × Nat)) (J : TE → Prop) : Prop where
  lc : ∀ {wi : TI} {g : TG} {tk tv : TE}, PI X tg iter wi → (∀ (s : Shared) (H : Hp) (C : Addr) (cl : List (Str × Addr)) (fp : List Addr), PG (X.blk s H scope (compEnvC scope cl C X.env) fp) tg g) →
    (∀ (s : Shared) (H : Hp) (C : Addr) (cl : List (Str × Addr)) (fp : List Addr), PE (X.blk s H scope (compEnvC scope cl C X.env) fp) kx tk) → (∀ (s : Shared) (H : Hp) (C : Addr) (cl : List (Str × Addr)) (fp : List Addr), PE (X.blk s H scope (compEnvC scope cl C X.env) fp) vx tv) →
    J (tDcN wi g tk tv (own.map (·.2)))
  imp : ∀ {t t' : TE}, J t → (∀ σ H Q, t' σ H Q → t σ H Q) → J t'
theorem dcE {X : Cx} {kx vx tg iter : Expr} {scope : Scope} {own : List (Str × Nat)} {pos : Pos} (hu : X.A.units + 9 < cLine) (hN : X.N.Nodup) (ok : BlkOk X.N X.env.scope scope own) (hc : X.calm = true := by rfl) (hs : ∀ x, foldedSetIterable iter X.env x = pure x := by intro _; rfl) :
    DcJ X kx vx tg iter scope own (fun t => PE X (.DictComp kx vx [⟨tg, iter, [], 0⟩] scope pos) t) := ⟨fun hI hG hk hv => pe_dcN hu hc hN hI ok hG hk hv hs, fun h k => PEimp h k⟩
theorem dcS {X : Cx} {kx vx tg iter : Expr} {scope : Scope} {own : List (Str × Nat)} {pos spos py : Pos} {y : Str} (i : Nat) (hu : X.A.units + 9 < cLine) (hN : X.N.Nodup) (ok : BlkOk X.N X.env.scope scope own) (hc : X.calm = true := by rfl) (hy : X.N[i]? = some y := by rfl) (hyl : X.env.scope.names.lookup y = some .local := by rfl)
    (hsw : swapsWith (.DictComp kx vx [⟨tg, iter, [], 0⟩] scope pos) (some (.Name y py)) spos.line X.env = pure true := by rfl) (hs : ∀ x, foldedSetIterable iter X.env x = pure x := by intro _; rfl) :
    DcJ X kx vx tg iter scope own (fun t => PS X (.Assign [.Name y py] (.DictComp kx vx [⟨tg, iter, [], 0⟩] scope pos) spos) (tAsg t (gName i))) := ⟨fun hI hG hk hv => ps_setDcN hu hc hN hy hyl hsw hI ok hG hk hv hs, fun h k => PSimp h fun D σ H q => k σ H _ q⟩
section
variable {X : Cx} {B : Bs} {W : Res} {Γ : List (V × D)} {ρ ρ' : List (Option D)} {iter kx vx : Expr} {scope : Scope} {pos np : Pos} {n : Str}
def accN {α : Type} (kf : α → NestedKey) (vd : α → D) (l : List α) : List (NestedKey × D) := l.foldl (fun es a => putN es (kf a) (vd a)) []
theorem accN_snoc {α : Type} {kf : α → NestedKey} {vd : α → D} {l : List α} {a : α} : accN kf vd (l ++ [a]) = putN (accN kf vd l) (kf a) (vd a) := by unfold accN; rw [List.foldl_append]; rfl
theorem accN_len {α : Type} {kf : α → NestedKey} {vd : α → D} (l : List α) : (accN kf vd l).length ≤ l.length := by
  have go : ∀ (l : List α) (es : List (NestedKey × D)), (l.foldl (fun es a => putN es (kf a) (vd a)) es).length ≤ es.length + l.length := by
    intro l
    induction l with
    | nil => intro es; exact Nat.le_refl _
    | cons a l ih =>
      intro es
      have h1 := ih (putN es (kf a) (vd a))
      have h2 := putN_len (es := es) (k := kf a) (d := vd a)
      rw [List.foldl_cons, List.length_cons]
      omega
  have := go l []
  unfold accN
  simpa using this
theorem accN_look {α : Type} {kf : α → NestedKey} {vd : α → D} {q : NestedKey} {d : D} (l : List α) (h : ∀ a ∈ l, kf a = q → vd a = d) : (accN kf vd l).lookup q = if ∃ a ∈ l, kf a = q then some d else none := by
  have go : ∀ (l : List α) (es : List (NestedKey × D)), (∀ a ∈ l, kf a = q → vd a = d) → (l.foldl (fun es a => putN es (kf a) (vd a)) es).lookup q = if ∃ a ∈ l, kf a = q then some d else es.lookup q := by
    intro l
    induction l with
    | nil => intro es _; simp
    | cons a l ih =>
      intro es h
      rw [List.foldl_cons, ih _ fun b hb => h b (List.mem_cons_of_mem _ hb), putN_look]
      by_cases c : ∃ b ∈ l, kf b = q
      · obtain ⟨b, hb, e⟩ := c
        rw [if_pos ⟨b, hb, e⟩, if_pos ⟨b, List.mem_cons_of_mem _ hb, e⟩]
      · rw [if_neg c]
        by_cases e : q = kf a
        · rw [if_pos e, if_pos ⟨a, List.mem_cons_self, e.symm⟩, h a List.mem_cons_self e.symm]
        · rw [if_neg e, if_neg]
          rintro ⟨b, hb, eb⟩
          rcases List.mem_cons.mp hb with rfl | hb
          · exact e eb.symm
          · exact c ⟨b, hb, eb⟩
  exact go l [] h
theorem dj_dcN1A {α : Type} {J : TE → Prop} (j : Nat) (l : List α) (ga : α → D) (kf : α → NestedKey) (kd vd : α → D) (hJ : DcJ X kx vx (.Name n np) iter scope [(n, j)] J) (hI : ID X (.Name n np) W ρ iter (fun z => z = l.map ga)) (hlen : l.length ≤ 50000)
    (hG : ∀ (s : Shared) (H : Hp) (C : Addr) (cl : List (Str × Addr)) (fp : List Addr), PG (X.blk s H scope (compEnvC scope cl C X.env) fp) (.Name n np) (gName j)) (hkd : ∀ a ∈ l, KeyD (kf a) (kd a))
    (hk : ∀ a ∈ l, ∀ (es : List (NestedKey × D)) (L : Addr), ¬ W.m L → ∀ (s : Shared) (H : Hp) (C : Addr) (cl : List (Str × Addr)) (fp : List Addr), EE (X.blk s H scope (compEnvC scope cl C X.env) fp) (W.add L (ownN es)) ((ρ.set j none).set j (some (ga a))) kx (kd a))
    (hv : ∀ a ∈ l, ∀ (es : List (NestedKey × D)) (L : Addr), ¬ W.m L → ∀ (s : Shared) (H : Hp) (C : Addr) (cl : List (Str × Addr)) (fp : List Addr), EE (X.blk s H scope (compEnvC scope cl C X.env) fp) (W.add L (ownN es)) ((ρ.set j none).set j (some (ga a))) vx (vd a))
    : J (tN W ρ (fun c => c = ownN (accN kf vd l))) := by
  have kk : ∀ (s : Shared) (H : Hp) (C : Addr) (cl : List (Str × Addr)) (fp : List Addr), PE (X.blk s H scope (compEnvC scope cl C X.env) fp) kx (fun σ H Q => ∃ q : α × List (NestedKey × D) × Addr, (q.1 ∈ l ∧ ¬ W.m q.2.2) ∧ tD (W.add q.2.2 (ownN q.2.1)) ((ρ.set j none).set j (some (ga q.1))) (fun z => z = kd q.1) σ H Q) := fun s H C cl fp => PEex fun q => by
    by_cases c : q.1 ∈ l ∧ ¬ W.m q.2.2
    · exact PEimp (hk q.1 c.1 q.2.1 q.2.2 c.2 s H C cl fp) fun _ _ _ z => z.2
    · exact PEimp PEnever fun _ _ _ z => c z.1
  have vv : ∀ (s : Shared) (H : Hp) (C : Addr) (cl : List (Str × Addr)) (fp : List Addr), PE (X.blk s H scope (compEnvC scope cl C X.env) fp) vx (fun σ H Q => ∃ q : α × List (NestedKey × D) × Addr, (q.1 ∈ l ∧ ¬ W.m q.2.2) ∧ tD (W.add q.2.2 (ownN q.2.1)) ((ρ.set j none).set j (some (ga q.1))) (fun z => z = vd q.1) σ H Q) := fun s H C cl fp => PEex fun q => by
    by_cases c : q.1 ∈ l ∧ ¬ W.m q.2.2
    · exact PEimp (hv q.1 c.1 q.2.1 q.2.2 c.2 s H C cl fp) fun _ _ _ z => z.2
    · exact PEimp PEnever fun _ _ _ z => c z.1
  refine hJ.imp (hJ.lc hI hG kk vv) fun σ H Q ⟨o, sl, q⟩ => ⟨o, sl, fun J H1 Δ xs px e1 o1 dr wk L hL => ?_⟩
  subst px
  have nL : ¬ W.m L := W.fresh o1 hL
  have at0 : At ⟨W.m, H1⟩ W Δ (ρ.set j none) (wipe σ [j]) H1 := ⟨.refl, o1, (sl.ext e1).wiped [j], dr, fun a m => .inl m⟩
  refine ⟨fun i m H => i + m = l.length ∧ At ⟨W.m, H1⟩ (W.add L (ownN (accN kf vd (l.take i)))) Δ (ρ.set j none) (wipe σ [j]) H, ⟨l.length, by omega, at0.alloc (c := ownN []) hL ⟨[], upd_same, .nil⟩⟩, ?_⟩
  rintro i m H ⟨him, at1⟩
  by_cases hi : i < l.length
  · refine .inr ⟨wk.go _ H i at1.gh (by rw [List.length_map]; exact hi), fun H' => At ⟨W.m, H1⟩ (W.add L (ownN (accN kf vd (l.take (i + 1))))) Δ (ρ.set j none) (wipe σ [j]) H', fun H' z => ⟨m - 1, by omega, by omega, z⟩, fun x H' y => ?_⟩
    obtain ⟨d, hd, keep, dm, rp⟩ := wk.yld _ H i x H' at1.gh (by rw [List.length_map]; exact hi) y
    obtain ⟨a, ha, rfl, hm⟩ := map_at hd
    have rx := rp fun b hb => (W.add L (ownN (accN kf vd (l.take i)))).dom at1.ok hb
    have at2 := at1.go (H' := H') ⟨fun b u _ z => keep b u z, dm⟩ ((W.add L (ownN (accN kf vd (l.take i)))).same at1.ok keep)
    refine ⟨?_, ⟨(a, accN kf vd (l.take i), L), ⟨hm, nL⟩, at2.ok, at2.sl.set j rx, fun z v H3 e3 o3 hz r3 => ⟨(a, accN kf vd (l.take i), L), ⟨hm, nL⟩, o3, (at2.sl.set j rx).ext e3, fun z2 v2 H4 e4 o4 hz2 r4 => ?_⟩⟩⟩
    · show (((σ.set j none).set j (some x)).set j none) = σ.set j none
      rw [List.set_set, List.set_set]
    · subst hz hz2
      obtain ⟨bb, rfl⟩ := (hkd a hm).ref r3
      obtain ⟨xs, he, rn⟩ := id o4.2
      have at4 := (at2.go e3 o3).go e4 o4
      have kb := (hkd a hm).is (r3.ext e4)
      have hln := accN_len (kf := kf) (vd := vd) (l.take i)
      rw [List.length_take] at hln
      refine ⟨_, xs, bb, kf a, rfl, he, rn.keysV, kb, (hkd a hm).deep, (hkd a hm).plain, by rw [rn.length]; exact sz_lt (show (accN kf vd (l.take i)).length < 100000 by omega), ?_⟩
      have ex : Ext (W.add L (ownN (accN kf vd (l.take i)))).m H4 (upd H4 L (.ext (ndOk L (putX xs (kf a) bb v2)))) := .mut (.inr rfl) he
      have := at4.upd (c' := ownN (putN (accN kf vd (l.take i)) (kf a) (vd a))) nL ⟨_, upd_same, (rn.mono ex.keeps).put (kb.mono ex.keeps) (r4.ext ex)⟩
      rw [take_succ_get ha, accN_snoc]
      exact this
  · have e : i = l.length := by omega
    subst e
    rw [List.take_length] at at1
    exact .inl ⟨by have := wk.stop _ H at1.gh; rw [List.length_map] at this; exact this, q L H _ rfl (e1.dom L hL) (e1.trans at1.ext) at1.ok⟩
theorem ed_frzN {e : Expr} {es : List (NestedKey × D)} (h : EN X W ρ e (fun c => c = ownN es)) : EE X W ρ e (.dnk es) :=
  PEimp h fun σ H Q ⟨o, sl, q⟩ => ⟨o, sl, fun p H' c hc hp ex ok => by
    subst hc
    obtain ⟨xs, he, rn⟩ := id ok.2
    have nL : ¬ W.m p := W.fresh o hp
    have k : Keeps (W.add p (ownN es)).m W.m H' H' := keeps_shrink fun b m => .inl m
    exact q _ _ H' ex (W.shrink ok.1 fun b m => .inl m) rfl (Rp.dnk nL he (rn.mono k))⟩
theorem ed_dcN1A {α : Type} (j : Nat) (l : List α) (ga : α → D) (kf : α → NestedKey) (kd vd : α → D) (hJ : DcJ X kx vx (.Name n np) iter scope [(n, j)] (fun t => PE X (.DictComp kx vx [⟨.Name n np, iter, [], 0⟩] scope pos) t)) (hI : ID X (.Name n np) W ρ iter (fun z => z = l.map ga)) (hlen : l.length ≤ 50000)
    (hG : ∀ (s : Shared) (H : Hp) (C : Addr) (cl : List (Str × Addr)) (fp : List Addr), PG (X.blk s H scope (compEnvC scope cl C X.env) fp) (.Name n np) (gName j)) (hkd : ∀ a ∈ l, KeyD (kf a) (kd a))
    (hk : ∀ a ∈ l, ∀ (es : List (NestedKey × D)) (L : Addr), ¬ W.m L → ∀ (s : Shared) (H : Hp) (C : Addr) (cl : List (Str × Addr)) (fp : List Addr), EE (X.blk s H scope (compEnvC scope cl C X.env) fp) (W.add L (ownN es)) ((ρ.set j none).set j (some (ga a))) kx (kd a))
    (hv : ∀ a ∈ l, ∀ (es : List (NestedKey × D)) (L : Addr), ¬ W.m L → ∀ (s : Shared) (H : Hp) (C : Addr) (cl : List (Str × Addr)) (fp : List Addr), EE (X.blk s H scope (compEnvC scope cl C X.env) fp) (W.add L (ownN es)) ((ρ.set j none).set j (some (ga a))) vx (vd a)) :
    EE X W ρ (.DictComp kx vx [⟨.Name n np, iter, [], 0⟩] scope pos) (.dnk (accN kf vd l)) := ed_frzN (dj_dcN1A j l ga kf kd vd hJ hI hlen hG hkd hk hv)
theorem ss_dcOwn {st : Stmt} {rest : List Stmt} {E : Ends} {i : Nat} {P : Cell → Prop} (h : PS X st (tAsg (tN W ρ P) (gName i))) (h2 : ∀ l c, P c → ¬ W.m l → SS X (At B (W.add l c) Γ (ρ.set i (some (.obj l)))) rest E) : SS X (At B W Γ ρ) (st :: rest) E :=
  ss_cons (Ψ := fun σ H => ∃ q : Addr × Cell, (P q.2 ∧ ¬ W.m q.1) ∧ At B (W.add q.1 q.2) Γ (ρ.set i (some (.obj q.1))) σ H) h
    (fun Dn σ H at_ kn _ _ _ => ⟨at_.ok, at_.sl, fun l H' c pc hp ex o => kn _ _ ⟨(l, c), ⟨pc, W.fresh at_.ok hp⟩, (at_own at_ hp ex o).set i (.obj l)⟩⟩) (SS.exP fun q hq => h2 q.1 q.2 hq.1 hq.2)
end
end K14

set_option Elab.async false
set_option linter.all false
set_option maxRecDepth 100000
set_option maxHeartbeats 4000000
namespace K14
open PySem L2
section
variable {P : Program} {w : World} {K : PySem.W.Frag} {mg : Str → Option Value} {base : Heap} {f : Addr} {fd : FuncData}
theorem ss_forget {X : Cx} {B : Bs} {W : Res} {Γ : List (V × D)} {ρ ρ' : List (Option D)} {rest : List Stmt} {E : Ends} (wk : Wk ρ' ρ) (h : SS X (At B W Γ ρ') rest E) : SS X (At B W Γ ρ) rest E := h.pre fun σ H a => a.forget wk
theorem Sl.forget {M : Ms} {H : Hp} {σ : St} {ρ ρ' : List (Option D)} (s : Sl M H σ ρ) (w : Wk ρ' ρ) : Sl M H σ ρ' := ⟨by rw [s.len, w.at_.1], fun i d h => s.at_ i d (w.at_.2 i d h)⟩
def okLedL (ds : List D) (Q : D → Prop) : Prop := ∃ (ls : List (List Str)) (row : List Str), ds = [lotsD ls, .tup (row.map .str)] ∧ ls.length ≤ 1000 ∧ row.length ≤ 1000 ∧ Q = fun d => d = .lst ((ledL (hasL ls) ls.length [] row).map oD)
def okLedL' (ds : List D) (Q : D → Prop) : Prop := ∃ (ls : List (List Str)) (row : List Str), (ds = [lotsD ls, .tup (row.map .str)] ∨ ds = [lotsD ls, .lst (row.map .str)]) ∧ ls.length ≤ 1000 ∧ row.length ≤ 1000 ∧ Q = fun d => d = .lst ((ledL (hasL ls) ls.length [] row).map oD)
theorem ok49 (F : FnP K "_law_led" (top 49) f fd) (T : Tx mg) : FnOk P w K mg base CX0 1 f fd A49 (spN okLedL') := by
  refine fn_data F sc49 (fun ds Q ⟨_, _, h, _⟩ => by rcases h with h | h <;> (rw [h]; rfl)) fun cdv A outer s H E W ds Q B hr h => ?_
  obtain ⟨ls, row, hds, hl, hrw, rfl⟩ := h
  obtain ⟨rd, rfl, hit⟩ : ∃ rd : D, ds = [lotsD ls, rd] ∧ (rd = .tup (row.map .str) ∨ rd = .lst (row.map .str)) := by
    rcases hds with h | h
    · exact ⟨_, h, .inl rfl⟩
    · exact ⟨_, h, .inr rfl⟩
  clear hds
  refine ss_newL 2 (fun lu nu => ss_newL 3 (fun lf nf => ?_) sc49.nd) sc49.nd
  have nlf : ¬ W.m lf := fun z => nf (.inl z)
  have ne : lf ≠ lu := fun z => nf (.inr z)
  refine ss_for (α := List (Option Nat)) (tg := _) (Px := fun xs => xs = row.map .str) (fun _ i us => us ++ ledL (hasL ls) ls.length us (row.drop i) = ledL (hasL ls) ls.length [] row ∧ us.length = i) (fun us => (W.add lu (ownL (us.map oD))).add lf (ownL (us.map oD)))
    (fun _ => [some (lotsD ls), some rd, some (.obj lu), some (.obj lf), none, none, none]) [] rfl rfl
    (fun σ H => ∃ us : List (Option Nat), us = ledL (hasL ls) ls.length [] row ∧ At B ((W.add lu (ownL (us.map oD))).add lf (ownL (us.map oD))) [] [some (lotsD ls), some rd, some (.obj lu), some (.obj lf), none, none, none] σ H) PassesOwn.never rfl
    (by rcases hit with rfl | rfl
        · exact id_tup (ed_var 1)
        · exact id_lst (ed_var 1)) (gd_name 4 sc49.nd)
    (fun xs _ => ⟨rfl, rfl⟩) (fun xs i a _ _ d _ => ⟨_, rfl⟩) (fun xs hx Γ' i x us ρ' hxi hR hp => ?_) (fun xs hx us σ H hR at_ => ⟨us, ?_, at_⟩) ?_
  · subst hx
    cases hp
    obtain ⟨k, hk, rfl, hm⟩ := map_at hxi
    obtain ⟨h1, h3⟩ := hR
    have hi := (List.getElem?_eq_some_iff.mp hk).1
    rw [drop_at hk] at h1
    refine ss_set 5 ed_non ?_ sc49.nd
    refine ss_for (α := Option Nat) (fun _ j a => a = ((List.range ls.length).take j).find? fun s => !decide (some s ∈ us) && hasL ls s k) (fun _ => (W.add lu (ownL (us.map oD))).add lf (ownL (us.map oD)))
      (fun a => [some (lotsD ls), some rd, some (.obj lu), some (.obj lf), some (.str k), some (oD a), none]) none rfl rfl
      (At B ((W.add lu (ownL (us.map oD))).add lf (ownL (us.map oD))) Γ' [some (lotsD ls), some rd, some (.obj lu), some (.obj lf), some (.str k), some (oD (mine (hasL ls) ls.length us k)), none]) PassesOwn.never rfl
      (id_range1 T.range (ed_lenT T.len (ed_var 0)) (by rw [List.length_map]; omega)) (gd_name 6 sc49.nd) (fun xs _ => rfl) (fun xs i a _ _ d _ => ⟨_, rfl⟩) (fun xs hx Γ2 j x a ρ' hxj hR hp => ?_) (fun xs hx a σ H hR at_ => ?_) ?_
    · cases hp
      subst hx
      unfold rngD at hxj
      obtain ⟨s, hs, rfl, hsm⟩ := map_at hxj
      rw [List.length_map, Int.toNat_natCast] at hs hsm
      have hlt : s < ls.length := List.mem_range.mp hsm
      have e0 : D.int (0 + (s : Int)) = natD s := by unfold natD; rw [Int.zero_add]
      rw [e0]
      refine ss_if (At B ((W.add lu (ownL (us.map oD))).add lf (ownL (us.map oD))) Γ2 [some (lotsD ls), some rd, some (.obj lu), some (.obj lf), some (.str k), some (oD (((List.range ls.length).take (j + 1)).find? fun s => !decide (some s ∈ us) && hasL ls s k)), none])
        (tb_pure (ρ' := [some (lotsD ls), some rd, some (.lst (us.map oD)), some (.obj lf), some (.str k), some (oD a), some (natD s)])
          (WB.tb (wb_and (tb_isN (ed_var 5)) fun _ => wb_and (tb_notInO (ed_var 6) (ed_var 2)) fun _ => wb_and1 (tb_inS (ed_var 4) (ed_ixT (ed_var 0) (ed_var 6) (Int.natCast_nonneg s) (lots_at hlt)))))
          (fun H σ o sl => Sl.show sl.to0 (i := 2) rfl o.1.2)) (fun h => ?_) (fun h => ?_) (ss_nil fun σ H at_ => ⟨_, rfl, at_⟩)
      · have hN : a = none := by
          cases a with
          | none => rfl
          | some y => simp [oD, natD, isNon] at h
        rw [hN] at h
        have hb : (!decide (some s ∈ us) && hasL ls s k) = true := h.symm
        refine ss_set 5 (ed_var 6) ?_ sc49.nd
        rw [take_succ_get hs, List.find?_append, ← hR, hN, List.find?_cons, hb]
        exact ss_nil fun σ H at_ => at_.forget (by repeat (first | exact Wk.nil | refine Wk.keep ?_ | refine Wk.drop ?_))
      · have e : ((List.range ls.length).take (j + 1)).find? (fun s => !decide (some s ∈ us) && hasL ls s k) = a := by
          rw [take_succ_get hs, List.find?_append, ← hR]
          cases a with
          | some y => rfl
          | none =>
            have hb : (!decide (some s ∈ us) && hasL ls s k) = false := h.symm
            rw [List.find?_cons, hb]; rfl
        rw [e]
        exact ss_nil fun σ H at_ => at_.forget (by repeat (first | exact Wk.nil | refine Wk.keep ?_ | refine Wk.drop ?_))
    · subst hx
      unfold rngD at hR
      simp only [List.length_map, Int.toNat_natCast, List.length_range] at hR
      rw [take_all (by rw [List.length_range])] at hR
      rw [show mine (hasL ls) ls.length us k = a from hR.symm]
      exact at_
    · have e2 : us ++ [mine (hasL ls) ls.length us k] ++ ledL (hasL ls) ls.length (us ++ [mine (hasL ls) ls.length us k]) (row.drop (i + 1)) = ledL (hasL ls) ls.length [] row := by
        rw [← h1, ledL, List.append_assoc]; rfl
      generalize mine (hasL ls) ls.length us k = mn at e2 ⊢
      refine ss_swap (ss_append 2 (fun z => z.elim nu fun z => ne z.symm) (ed_var 5) (by rw [List.length_map]; omega) fun d hd => ?_)
      subst hd
      refine ss_swap (ss_append 3 (fun z => z.elim nlf ne) (ed_var 5) (by rw [List.length_map]; omega) fun d hd => ?_)
      subst hd
      refine ss_nil fun σ H at_ => ⟨us ++ [mn], ⟨e2, by rw [List.length_append, h3]; rfl⟩, ?_⟩
      have a2 := at_.forget (ρ' := [some (lotsD ls), some rd, some (.obj lu), some (.obj lf), none, none, none]) (by repeat (first | exact Wk.nil | refine Wk.keep ?_ | refine Wk.drop ?_))
      simp only [List.map_append]
      exact a2
  · subst hx
    obtain ⟨h1, h3⟩ := hR
    rw [List.length_map, List.drop_length] at h1
    rw [← h1, ledL, List.append_nil]
  · refine SS.exP fun us hu => ?_
    refine ss_freeze 3 (fun z => z.elim nlf ne) ?_
    rw [← hu]
    exact ss_retP2 (ed_var 3) (fun z h => h) (RLe.add .refl)
end
end K14

set_option Elab.async false
set_option linter.all false
set_option maxRecDepth 100000
set_option maxHeartbeats 4000000
namespace K14
open PySem L2
open AutoSeq1 (wpAny_loadPart')
open SeqAt PyProof.Rows
/-! ### zip of a tuple and a list -/
def ItM (K : PySem.W.Frag) (a b : Addr) : It :=
  ⟨fun i H => ∃ (xs ys : List V) (x y : V), SqT K H a xs ∧ SqL K H b ys ∧ xs[i]? = some x ∧ ys[i]? = some y,
    fun i H v H' => ∃ (t : Addr) (x y : V), v = .ref t ∧ H t = none ∧ H' = upd H t (.tup [x, y]) ∧ (∀ xs, SqT K H a xs → xs[i]? = some x) ∧ ∀ ys, SqL K H b ys → ys[i]? = some y,
    fun i H => ∃ xs ys : List V, SqT K H a xs ∧ SqL K H b ys ∧ i ≤ xs.length ∧ i ≤ ys.length ∧ (i = xs.length ∨ i = ys.length)⟩
theorem turn_zipM {P : Program} {w : World} {K : PySem.W.Frag} {elts : List Expr} {kk : Nat} {tpos : Pos} {a b z TI TO i1 i2 : Addr} (S : ZipSep2 z TI TO i1 i2 [i1, a] [i2, b]) (ha1 : a ≠ i1) (hb2 : b ≠ i2) :
    Turn P w K (.Tuple elts kk tpos) (ItM K a b) [z, TI, TO, i1, i2] z (fun i h => IsZip h z TI TO .none ∧ IsTupOf2 h TI (.ref i1) (.ref i2) ∧ (∃ x y, IsTupOf2 h TO x y) ∧ h.IsTupleIter i1 a i ∧ h.IsListIter i2 b i) where
  mem := List.mem_cons_self
  obj := fun i h ⟨hz, hTI, ⟨x, y, hTO⟩, ⟨o1, g1, _, d1⟩, ⟨o2, g2, _, d2⟩⟩ c hc => by
    simp only [List.mem_cons, List.not_mem_nil, or_false] at hc
    rcases hc with rfl | rfl | rfl | rfl | rfl
    · exact ⟨_, hz, fun v q => nomatch q⟩
    · exact ⟨_, hTI, fun v q => nomatch q⟩
    · exact ⟨_, hTO, fun v q => nomatch q⟩
    · exact ⟨o1, g1, fun v q => by rw [d1] at q; cases q⟩
    · exact ⟨o2, g2, fun v q => by rw [d2] at q; cases q⟩
  keep := fun i h h' ⟨hz, hTI, ⟨x, y, hTO⟩, h1, h2⟩ k => ⟨k z (by simp) _ hz, k TI (by simp) _ hTI, ⟨x, y, k TO (by simp) _ hTO⟩, h1.at fun o q => k i1 (by simp) o q, h2.at fun o q => k i2 (by simp) o q⟩
  item := by
    rintro X rfl rfl rfl hc i pins s σ H E I hf ⟨hz, hTI, ⟨x0, y0, hTO⟩, h1, h2⟩ ⟨xs, ys, x, y, qx, qy, hx, hy⟩
    obtain ⟨its, rv, p1, _⟩ := I.tuple qx
    obtain ⟨jts, rw2, p2, _⟩ := I.list qy
    obtain ⟨u, hu, ru⟩ := rv.get hx
    obtain ⟨u2, hu2, ru2⟩ := rw2.get hy
    have hzl : z < s.heap.objs.size := Heap.lt_size hz
    have hh : X.A.in1.handled = none := I.ok.hd hc
    have n1 : i < its.toArray.size := by rw [List.size_toArray]; exact (List.getElem?_eq_some_iff.mp hu).1
    have n2 : i < jts.toArray.size := by rw [List.size_toArray]; exact (List.getElem?_eq_some_iff.mp hu2).1
    refine wpAny_pyNext_zipD2_item S (Draws.tuple hh i1 a ha1 its.toArray) (Draws.list hh i2 b hb2 jts.toArray) hz hTI hTO ⟨h1, p1⟩ ⟨h2, p2.isList⟩ n1 n2 fun y1 y2 h' tk e1 e2 z' TO' st1 st2 hT hsz hk => ?_
    rw [List.getElem?_toArray, hu] at e1
    rw [List.getElem?_toArray, hu2] at e2
    cases e1
    cases e2
    refine ⟨_, rfl, wpAny_letOwnedTupleGo_zip (s := { s with heap := h', toks := tk }) z' fun h'' z'' sb => ?_⟩
    have hT2 : h''.get? s.heap.objs.size = some { cls := .type "tuple", data := .seq #[u, u2] } := (sb.2 _ (Nat.ne_of_gt hzl)).trans hT
    have new : ObjOk X.prog X.w (upd H s.heap.objs.size (.tup [x, y])) h'' s.heap.objs.size (.tup [x, y]) := ⟨by show 2 ≤ sizeLine; decide, [u, u2], .cons ru (.cons ru2 .nil), ⟨_, hT2, rfl, _, rfl⟩⟩
    have I1 : L2.Inv X pins σ (upd H s.heap.objs.size (.tup [x, y])) { s with heap := h'', toks := tk } :=
      I.turnedNew (ch := [z, TI, TO, i1, i2]) (fun c o hb q => (sb.2 c (fun q' => hb (by simp [q']))).trans (hk c o (fun q' => hb (by simp [q'])) (fun q' => hb (by simp [q'])) (fun q' => hb (by simp [q'])) (fun q' => hb (by simp [q'])) q)) hf (Nat.le_refl _) new
    refine ⟨.ref s.heap.objs.size, _, I1, rfl, ⟨_, x, y, rfl, I.hok.fresh (Nat.le_refl _), rfl, fun l hl => by rw [I.tuple_inj hl qx]; exact hx, fun l hl => by rw [I.list_inj hl qy]; exact hy⟩, ⟨z'', ?_, ⟨u, u2, ?_⟩, ?_, ?_⟩, fun c hcm => ?_⟩
    · exact (sb.2 _ S.TIz).trans (hk _ _ S.TIz S.TITO S.TIi1 S.TIi2 hTI)
    · exact (sb.2 _ S.TOz).trans TO'
    · exact st1.1.at fun o q => (sb.2 _ (Ne.symm S.zi1)).trans q
    · exact st2.1.at fun o q => (sb.2 _ (Ne.symm S.zi2)).trans q
    · have hlt : c < s.heap.objs.size := by
        simp only [List.mem_cons, List.not_mem_nil, or_false] at hcm
        rcases hcm with rfl | rfl | rfl | rfl | rfl
        · exact hzl
        · exact Heap.lt_size hTI
        · exact Heap.lt_size hTO
        · obtain ⟨_, g, _⟩ := h1; exact Heap.lt_size g
        · obtain ⟨_, g, _⟩ := h2; exact Heap.lt_size g
      rw [upd_ne (Nat.ne_of_lt hlt)]
      exact (hf c hcm).1
  done := by
    rintro X rfl rfl rfl hc i pins s σ H E I hf ⟨hz, hTI, ⟨x0, y0, hTO⟩, h1, h2⟩ ⟨xs, ys, qx, qy, l1, l2, hend⟩
    obtain ⟨its, rv, p1, _⟩ := I.tuple qx
    obtain ⟨jts, rw2, p2, _⟩ := I.list qy
    have hh : X.A.in1.handled = none := I.ok.hd hc
    have z1 : its.toArray.size = xs.length := by rw [List.size_toArray]; exact rv.length.symm
    have z2 : jts.toArray.size = ys.length := by rw [List.size_toArray]; exact rw2.length.symm
    exact wpAny_pyNext_zipD2_end S (Draws.tuple hh i1 a ha1 its.toArray) (Draws.list hh i2 b hb2 jts.toArray) hz hTI hTO ⟨h1, p1⟩ ⟨h2, p2.isList⟩ (by rw [z1]; exact l1) (by rw [z2]; exact l2) (by rw [z1, z2]; exact hend) fun h' tk hk => ⟨rfl, I.turnedL (ch := [z, TI, TO, i1, i2]) (fun c o hb q =>
      hk c o (fun q' => hb (by simp [q'])) (fun q' => hb (by simp [q'])) (fun q' => hb (by simp [q'])) (fun q' => hb (by simp [q'])) q) hf⟩
  self := fun A i s Q E st h => wpAny_pyIter_zip st.1 h
def iZipM (K : PySem.W.Frag) (ta : TA) : TI := fun σ H R => ta σ H fun vs H1 => ∃ (a b : Addr) (xs ys : List V), vs = [.ref a, .ref b] ∧ SqT K H1 a xs ∧ SqL K H1 b ys ∧ R (ItM K a b) H1
theorem pi_zipM {X : Cx} {e e2 : Expr} {ta : TA} {p pos tpos : Pos} {elts : List Expr} {kk : Nat} (hg : Gl X "zip") (hm : X.mg "zip" = none) (ha : PA X [e, e2] ta)
    (hst : starEach [e, e2] X.env = (false, eval e X.env) :: starEach [e2] X.env := by rfl) (hpl : (backTo pos (starEach [e2] X.env)).any (·.1) = false := by rfl) :
    PI X (.Tuple elts kk tpos) (.Call (.Name "zip" p) [e, e2] [] pos) (iZipM X.K ta) := by
  refine ⟨fun pins s σ H R I h => Call_ (ld_blt I hg hm PyProof.Rows.boot_zip (PyProof.Rows.callWith_type1 (thn (ha.run pos pins s σ H _ I h) fun us s1 ⟨vs, H1, I1, r1, a, b, xs, ys, ex, qx, qy, q⟩ => ?_) hst hpl))⟩
  subst ex
  cases r1 with
  | cons r rr => cases rr with
    | cons r' rr =>
      cases rr
      cases r
      cases r'
      obtain ⟨its, rv, p1, _⟩ := I1.tuple qx
      obtain ⟨jts, rw2, p2, _⟩ := I1.list qy
      have la : a < s1.heap.objs.size := by obtain ⟨o, g, _⟩ := p1; exact Heap.lt_size g
      have lb : b < s1.heap.objs.size := p2.lt
      refine zip_begins2 (begins_tuple a its.toArray) (begins_list b jts.toArray) p1 p2.isList fun h' hz hTI hTO g1 g2 hsz hk => wpAny_pyIter_zip hz ?_
      have I2 : L2.Inv X pins σ H1 { s1 with heap := h' } := I1.kept (t' := s1.toks) hk
      have S := zip_sep2 (N := s1.heap.objs.size) (fp1 := [a]) (fp2 := [b]) (fun c hc => by rw [List.mem_singleton.mp hc]; exact la) (fun c hc => by rw [List.mem_singleton.mp hc]; exact lb)
      refine ⟨s1.heap.objs.size + 4, [s1.heap.objs.size + 4, s1.heap.objs.size + 2, s1.heap.objs.size + 3, s1.heap.objs.size, s1.heap.objs.size + 1], _, _, H1, rfl, I2, turn_zipM S (Nat.ne_of_lt la) (Nat.ne_of_lt (Nat.lt_succ_of_lt lb)), ⟨hz, hTI, ⟨_, _, hTO⟩, ⟨_, g1, rfl, rfl⟩, ⟨_, g2, rfl, rfl⟩⟩, fun c hcm => ?_, q⟩
      have hle : s1.heap.objs.size ≤ c := by
        simp only [List.mem_cons, List.not_mem_nil, or_false] at hcm
        rcases hcm with rfl | rfl | rfl | rfl | rfl
        · exact Nat.le_add_right _ _
        · exact Nat.le_add_right _ _
        · exact Nat.le_add_right _ _
        · exact Nat.le_refl _
        · exact Nat.le_add_right _ _
      exact I1.fpOk hle (I1.hok.fresh hle)
/-! ### enumerate of a tuple -/
def ItE (K : PySem.W.Frag) (a : Addr) : It :=
  ⟨fun i H => ∃ (xs : List V) (x : V), SqT K H a xs ∧ xs[i]? = some x,
    fun i H v H' => ∃ (t : Addr) (x : V), v = .ref t ∧ H t = none ∧ H' = upd H t (.tup [.int (i : Nat), x]) ∧ ∀ xs, SqT K H a xs → xs[i]? = some x,
    fun i H => ∃ xs : List V, SqT K H a xs ∧ i = xs.length⟩
theorem turn_enumT {P : Program} {w : World} {K : PySem.W.Frag} {elts : List Expr} {kk : Nat} {tpos : Pos} {a z it : Addr} (hai : a ≠ it) (hza : z ≠ a) :
    Turn P w K (.Tuple elts kk tpos) (ItE K a) [z, it] z (fun i h => (∃ old, IsEnum h z it ((i : Nat) : Int) old) ∧ h.IsTupleIter it a i ∧ z ≠ it) where
  mem := List.mem_cons_self
  obj := fun i h ⟨⟨old, hz⟩, ⟨o1, g1, _, d1⟩, _⟩ c hc => by
    simp only [List.mem_cons, List.not_mem_nil, or_false] at hc
    rcases hc with rfl | rfl
    · exact ⟨_, hz, fun v q => nomatch q⟩
    · exact ⟨o1, g1, fun v q => by rw [d1] at q; cases q⟩
  keep := fun i h h' ⟨⟨old, hz⟩, h1, hne⟩ k => ⟨⟨old, k z (by simp) _ hz⟩, h1.at fun o q => k it (by simp) o q, hne⟩
  item := by
    rintro X rfl rfl rfl hc i pins s σ H E I hf ⟨⟨old, hz⟩, h1, hne⟩ ⟨xs, x, qx, hx⟩
    obtain ⟨its, rv, p1, _⟩ := I.tuple qx
    obtain ⟨u, hu, ru⟩ := rv.get hx
    have hzl : z < s.heap.objs.size := Heap.lt_size hz
    have hil : it < s.heap.objs.size := by obtain ⟨_, g, _⟩ := h1; exact Heap.lt_size g
    have hh : X.A.in1.handled = none := I.ok.hd hc
    have n1 : i < its.toArray.size := by rw [List.size_toArray]; exact (List.getElem?_eq_some_iff.mp hu).1
    refine wpAny_pyNext_enum_itemD (Draws.tuple hh it a hai its.toArray) hz ⟨h1, p1⟩ n1 hne (by simp [hne, hza]) fun y1 h' tk e1 z' st1 hT hsz hk => ?_
    rw [List.getElem?_toArray, hu] at e1
    cases e1
    refine ⟨_, rfl, wpAny_letOwnedTupleGo_enum (s := { s with heap := h', toks := tk + 1 }) z' fun h'' z'' sb => ?_⟩
    have hT2 : h''.get? s.heap.objs.size = some { cls := .type "tuple", data := .seq #[.int i tk, u] } := (sb.2 _ (Nat.ne_of_gt hzl)).trans hT
    have new : ObjOk X.prog X.w (upd H s.heap.objs.size (.tup [.int (i : Nat), x])) h'' s.heap.objs.size (.tup [.int (i : Nat), x]) := ⟨by show 2 ≤ sizeLine; decide, [.int i tk, u], .cons ⟨_, rfl⟩ (.cons ru .nil), ⟨_, hT2, rfl, _, rfl⟩⟩
    have I1 : L2.Inv X pins σ (upd H s.heap.objs.size (.tup [.int (i : Nat), x])) { s with heap := h'', toks := tk + 1 } :=
      I.turnedNew (ch := [z, it]) (fun c o hb q => (sb.2 c (fun q' => hb (by simp [q']))).trans (hk c o (fun q' => hb (by simp [q'])) (fun q' => hb (by simp [q'])) q)) hf (Nat.le_refl _) new
    refine ⟨.ref s.heap.objs.size, _, I1, rfl, ⟨_, x, rfl, I.hok.fresh (Nat.le_refl _), rfl, fun l hl => by rw [I.tuple_inj hl qx]; exact hx⟩, ⟨⟨u, ?_⟩, st1.1.at fun o q => (sb.2 _ (Ne.symm hne)).trans q, hne⟩, fun c hcm => ?_⟩
    · have e1 : ((i + 1 : Nat) : Int) = (i : Int) + 1 := by omega
      rw [e1]; exact z''
    · have hlt : c < s.heap.objs.size := by
        simp only [List.mem_cons, List.not_mem_nil, or_false] at hcm
        rcases hcm with rfl | rfl
        · exact hzl
        · exact hil
      rw [upd_ne (Nat.ne_of_lt hlt)]
      exact (hf c hcm).1
  done := by
    rintro X rfl rfl rfl hc i pins s σ H E I hf ⟨⟨old, hz⟩, h1, hne⟩ ⟨xs, qx, hi⟩
    obtain ⟨its, rv, p1, _⟩ := I.tuple qx
    have hh : X.A.in1.handled = none := I.ok.hd hc
    have z1 : its.toArray.size = i := by rw [List.size_toArray, hi]; exact rv.length.symm
    have st : (fun i (h : Heap) => h.IsTupleIter it a i ∧ h.IsTuple a its.toArray) its.toArray.size s.heap := by rw [z1]; exact ⟨h1, p1⟩
    obtain ⟨f0, f1, f2, f3, f4, f5⟩ := hf it (by simp)
    exact wpAny_pyNext_enum_endD (Draws.tuple hh it a hai its.toArray) hz st fun h' eb => ⟨rfl, I.turned (t' := s.toks) (fun c o hb q => eb c o hb q) f0 f1 f3 f4 f5⟩
  self := fun A i s Q E st h => let ⟨⟨_, hz⟩, _⟩ := st; wpAny_pyIter_enum hz h
theorem meets_enumT (l : Addr) (items : Array Value) (n : Nat) (dct : Option Addr) (sl : Array (Option Value)) :
    Meets (Builtin.«enumerate.__new__» ⟨[.type "enumerate", .ref l], []⟩) (fun _ R s => s.heap.get? l = some { cls := .type "tuple", dict := dct, data := .seq items n, slots := sl } ∧
      R (.ok (.ret (.ref (s.heap.push { cls := .type "tuple_iterator", data := .fields #[.ref l, .int 0 0] }).objs.size)))
        { s with heap := (s.heap.push { cls := .type "tuple_iterator", data := .fields #[.ref l, .int 0 0] }).push { cls := .type "enumerate", data := .fields #[.none, .bool false, .ref s.heap.objs.size, rawInt 0, .none, .none] } }) :=
  .of_wp fun prog w A R s h => by
    obtain ⟨hp, g, d, tk, os⟩ := s; obtain ⟨hl, h⟩ := h
    have hsub := sub_enumerate
    have hT : Heap.IsTuple (Shared.heap ⟨hp, g, d, tk, os⟩) l items := ⟨_, hl, rfl, n, rfl⟩
    wp_walk using wpAny_loadPart' hl
    refine wpAny_stack_any fun st => wpAny_pure ?_
    split
    · rename_i c _ _ _ _ _
      cases (c == Value.type "enumerate")
      · wp_walk using wpAny_loadPart' hl, wpAny_pyIter_tuple hT
        exact ⟨_, rfl, h⟩
      · wp_walk using wpAny_loadPart' hl, wpAny_pyIter_tuple hT
        exact ⟨_, rfl, h⟩
    · wp_walk using wpAny_loadPart' hl, wpAny_pyIter_tuple hT
      exact ⟨_, rfl, h⟩
theorem call_enumT {prog : Program} {w : World} {A : Around} {E : Value → Shared → Prop} {s : Shared} {l : Addr} {items : Array Value} {Q : Value → Shared → Prop} (hL : s.heap.IsTuple l items)
    (h : ∀ h', IsEnum h' (s.heap.objs.size + 1) s.heap.objs.size 0 .none → h'.IsTupleIter s.heap.objs.size l 0 → (∀ b o, s.heap.get? b = some o → h'.get? b = some o) → Q (.ref (s.heap.objs.size + 1)) { s with heap := h' }) :
    wpAny (model prog w) A (call (.type "enumerate") [.ref l]) Q E s := by
  obtain ⟨⟨c, dct, dt, sl⟩, hl, hc, n, hd⟩ := hL
  replace hc : c = .type "tuple" := hc
  replace hd : dt = .seq items n := hd
  subst hc hd
  refine callType_new F.called_enumerate (by decide) (F.typeCall_enumerate_1 _) (F.newCall_enumerate_1 _) (fun obj => F.args_object_init_2 obj _) F.entry_enumerate_new (meets_enumT l items n dct sl) ⟨hl, ?_⟩
  have hz : (s.heap.push { cls := .type "tuple_iterator", data := .fields #[.ref l, .int 0 0] }).objs.size = s.heap.objs.size + 1 := Heap.size_push ..
  show _ ∧ _
  rw [hz]
  have he : IsEnum ((s.heap.push { cls := .type "tuple_iterator", data := .fields #[.ref l, .int 0 0] }).push { cls := .type "enumerate", data := .fields #[.none, .bool false, .ref s.heap.objs.size, rawInt 0, .none, .none] }) (s.heap.objs.size + 1) s.heap.objs.size 0 .none := by
    have := Heap.get?_push_size (s.heap.push { cls := .type "tuple_iterator", data := .fields #[.ref l, .int 0 0] }) (o := { cls := .type "enumerate", data := .fields #[.none, .bool false, .ref s.heap.objs.size, rawInt 0, .none, .none] }) rfl
    rw [hz] at this; exact this
  exact ⟨⟨_, he, rfl⟩, h _ he ⟨_, Heap.get?_push_of_some _ (Heap.get?_push_size _ rfl), rfl, rfl⟩ fun b o x => Heap.get?_push_of_some _ (Heap.get?_push_of_some _ x)⟩
def iEnumT (K : PySem.W.Frag) (ta : TA) : TI := fun σ H R => ta σ H fun vs H1 => ∃ (a : Addr) (xs : List V), vs = [.ref a] ∧ SqT K H1 a xs ∧ R (ItE K a) H1
theorem pi_enumT {X : Cx} {e : Expr} {ta : TA} {p pos tpos : Pos} {elts : List Expr} {kk : Nat} (hg : Gl X "enumerate") (hm : X.mg "enumerate" = none) (ha : PA X [e] ta) (hst : starEach [e] X.env = [(false, eval e X.env)] := by rfl) :
    PI X (.Tuple elts kk tpos) (.Call (.Name "enumerate" p) [e] [] pos) (iEnumT X.K ta) := by
  refine ⟨fun pins s σ H R I h => Call_ (ld_blt I hg hm boot_enumerate (PyProof.Rows.callWith_type1 (thn (ha.run pos pins s σ H _ I h) fun us s1 ⟨vs, H1, I1, r1, a, xs, ex, hq, q⟩ => ?_) hst rfl))⟩
  subst ex
  cases r1 with
  | cons r rr =>
    cases rr
    cases r
    obtain ⟨its, rv, p1, _⟩ := I1.tuple hq
    have la : a < s1.heap.objs.size := by obtain ⟨o, g, _⟩ := p1; exact Heap.lt_size g
    refine call_enumT p1 fun h' he hit hk => wpAny_pyIter_enum he ?_
    have I2 : L2.Inv X pins σ H1 { s1 with heap := h' } := I1.kept (t' := s1.toks) hk
    refine ⟨s1.heap.objs.size + 1, [s1.heap.objs.size + 1, s1.heap.objs.size], _, _, H1, rfl, I2, turn_enumT (a := a) (Nat.ne_of_lt la) (Nat.ne_of_gt (Nat.lt_succ_of_lt la)), ⟨⟨.none, he⟩, hit, Nat.succ_ne_self _⟩, fun b hb => ?_, q⟩
    have hle : s1.heap.objs.size ≤ b := by
      simp only [List.mem_cons, List.not_mem_nil, or_false] at hb
      rcases hb with rfl | rfl
      · exact Nat.le_add_right _ _
      · exact Nat.le_refl _
    exact I1.fpOk hle (I1.hok.fresh hle)
end K14

set_option Elab.async false
set_option linter.all false
set_option maxRecDepth 100000
set_option maxHeartbeats 4000000
namespace K14
open PySem L2
section
variable {X : Cx} {W : Res} {ρ : List (Option D)} {e e2 : Expr} {p pos tpos : Pos} {elts : List Expr} {kk : Nat}
def zipO (o : List Nat) (ds : List D) : List D := (o.zip ds).map fun q => .tup [natD q.1, q.2]
theorem walk_zipM {K : PySem.W.Frag} {v v2 : V} {o : List Nat} {ds : List D} {a b : Addr} (hv : v = .ref a) (hv2 : v2 = .ref b) (hl : o.length = ds.length) : WalkD (ItM K a b) [(v, .ord o), (v2, .lst ds)] (zipO o ds) where
  go := fun M H i h hi => by
    obtain ⟨b1, ob, e1, _, g1, _⟩ := (h _ List.mem_cons_self).ordI
    obtain ⟨b2, xs, e2, _, g2, l2⟩ := (h _ (List.mem_cons_of_mem _ List.mem_cons_self)).lstI
    rw [hv] at e1; cases e1
    rw [hv2] at e2; cases e2
    unfold zipO at hi
    rw [List.length_map, List.length_zip] at hi
    have h1 : i < (nV o).length := by unfold nV; rw [List.length_map]; omega
    have h2 : i < xs.length := by rw [l2.length]; omega
    exact ⟨_, _, (nV o)[i], xs[i], .inl (.inr ⟨ob, g1⟩), .inl (.inl g2), List.getElem?_eq_getElem h1, List.getElem?_eq_getElem h2⟩
  stop := fun M H h => by
    obtain ⟨b1, ob, e1, _, g1, _⟩ := (h _ List.mem_cons_self).ordI
    obtain ⟨b2, xs, e2, _, g2, l2⟩ := (h _ (List.mem_cons_of_mem _ List.mem_cons_self)).lstI
    rw [hv] at e1; cases e1
    rw [hv2] at e2; cases e2
    have z : (zipO o ds).length = ds.length := by unfold zipO; rw [List.length_map, List.length_zip]; omega
    rw [z]
    have h1 : (nV o).length = ds.length := by unfold nV; rw [List.length_map]; exact hl
    exact ⟨_, _, .inl (.inr ⟨ob, g1⟩), .inl (.inl g2), Nat.le_of_eq h1.symm, Nat.le_of_eq l2.length.symm, .inl h1.symm⟩
  yld := fun M H i x H' h hi y => by
    obtain ⟨b1, ob, e1, _, g1, _⟩ := (h _ List.mem_cons_self).ordI
    obtain ⟨b2, xs, e2, _, g2, l2⟩ := (h _ (List.mem_cons_of_mem _ List.mem_cons_self)).lstI
    rw [hv] at e1; cases e1
    rw [hv2] at e2; cases e2
    obtain ⟨t, y1, y2, rfl, nt, rfl, f1, f2⟩ := y
    have k1 := f1 _ (.inl (.inr ⟨ob, g1⟩))
    have k2 := f2 _ (.inl (.inl g2))
    obtain ⟨d1, hd1, r1⟩ := (RpL.nats (M := M) (H := H) o).got k1
    obtain ⟨d2, hd2, r2⟩ := l2.got k2
    obtain ⟨n, hn, rfl, _⟩ := map_at hd1
    refine ⟨.tup [natD n, d2], ?_, fun c u z => by rw [upd_ne (ne_of_none z nt)]; exact z, (Ext.new (M := M) nt).dom, fun hm => ?_⟩
    · unfold zipO
      have hz : (o.zip ds)[i]? = some (n, d2) := List.getElem?_zip_eq_some.mpr ⟨hn, hd2⟩
      rw [List.getElem?_map, hz]; rfl
    · exact .tup (fun z => hm t z nt) upd_same (.cons (r1.ext (.new nt)) (.cons (r2.ext (.new nt)) .nil))
theorem id_zipM {o : List Nat} {ds : List D} (hm : X.mg "zip" = none) (ha : EE X W ρ e (.ord o)) (hb : EE X W ρ e2 (.lst ds)) (hl : o.length = ds.length) (hg : Gl X "zip" := by rfl)
    (hst : starEach [e, e2] X.env = (false, eval e X.env) :: starEach [e2] X.env := by rfl) (hst2 : starEach [e2] X.env = (false, eval e2 X.env) :: starEach [] X.env := by rfl) (hpl : (backTo pos (starEach [e2] X.env)).any (·.1) = false := by rfl) :
    ID X (.Tuple elts kk tpos) W ρ (.Call (.Name "zip" p) [e, e2] [] pos) (fun z => z = zipO o ds) :=
  PIimp (pi_zipM hg hm (ad_cons ha (ad_cons hb ad_nil hst2) hst) hst hpl) fun σ H R ⟨ok, sl, q⟩ => ⟨ok, sl, fun zs vs H' e1 ok' hz r => by
    subst hz
    obtain ⟨v, v2, rfl, r1, r2⟩ := r.two
    obtain ⟨b1, ob, rfl, _, g1, _⟩ := id r1.ordI
    obtain ⟨b2, xs, rfl, _, g2, l2⟩ := id r2.lstI
    exact ⟨b1, b2, _, xs, rfl, .inl (.inr ⟨ob, g1⟩), .inl (.inl g2), q _ H' [(.ref b1, .ord o), (.ref b2, .lst ds)] _ rfl e1 ok' (fun p hp => by
      rcases List.mem_cons.mp hp with rfl | hp
      · exact r1
      · rw [List.mem_singleton.mp hp]; exact r2) (walk_zipM rfl rfl hl)⟩⟩
def enumD (ds : List D) : List D := ds.mapIdx fun i d => .tup [natD i, d]
theorem walk_enumT {K : PySem.W.Frag} {v : V} {ds : List D} {a : Addr} (hv : v = .ref a) : WalkD (ItE K a) [(v, .tup ds)] (enumD ds) where
  go := fun M H i h hi => by
    obtain ⟨b, xs, e, n, e2, l⟩ := (h _ List.mem_cons_self).tupI
    rw [hv] at e; cases e
    unfold enumD at hi
    have hx : i < xs.length := by rw [l.length]; simpa using hi
    exact ⟨xs, xs[i], .inl (.inl e2), List.getElem?_eq_getElem hx⟩
  stop := fun M H h => by
    obtain ⟨b, xs, e, n, e2, l⟩ := (h _ List.mem_cons_self).tupI
    rw [hv] at e; cases e
    exact ⟨xs, .inl (.inl e2), by unfold enumD; rw [List.length_mapIdx, l.length]⟩
  yld := fun M H i x H' h hi y => by
    obtain ⟨b, xs, e, n, e2, l⟩ := (h _ List.mem_cons_self).tupI
    rw [hv] at e; cases e
    obtain ⟨t, y2, rfl, nt, rfl, f2⟩ := y
    obtain ⟨d2, hd2, r2⟩ := l.got (f2 _ (.inl (.inl e2)))
    refine ⟨.tup [natD i, d2], ?_, fun c u z => by rw [upd_ne (ne_of_none z nt)]; exact z, (Ext.new (M := M) nt).dom, fun hm => ?_⟩
    · unfold enumD
      rw [List.getElem?_mapIdx, hd2]; rfl
    · exact .tup (fun z => hm t z nt) upd_same (.cons (.int _) (.cons (r2.ext (.new nt)) .nil))
theorem id_enumT {ds : List D} (hm : X.mg "enumerate" = none) (ha : EE X W ρ e (.tup ds)) (hg : Gl X "enumerate" := by rfl) (hst : starEach [e] X.env = [(false, eval e X.env)] := by rfl) :
    ID X (.Tuple elts kk tpos) W ρ (.Call (.Name "enumerate" p) [e] [] pos) (fun z => z = enumD ds) :=
  PIimp (pi_enumT hg hm (ad_cons ha ad_nil hst) hst) fun σ H R ⟨ok, sl, q⟩ => ⟨ok, sl, fun zs vs H' e1 ok' hz r => by
    subst hz
    obtain ⟨v, rfl, r1⟩ := r.one
    obtain ⟨b, xs, rfl, n, e2, l⟩ := id r1.tupI
    exact ⟨b, xs, rfl, .inl (.inl e2), q _ H' [(.ref b, .tup ds)] _ rfl e1 ok' (fun p hp => by rw [List.mem_singleton.mp hp]; exact r1) (walk_enumT rfl)⟩⟩
end
/-! ### {number: value for target in iter} -/
theorem RpI.put_new {M : Ms} {H : Hp} {k : Int} {v : V} {d : D} : ∀ {kvs : List (Key × V)} {es : List (Int × D)}, RpI M H kvs es → Rp M H v d → RpI M H (kvs ++ [(.inl k, v)]) (es ++ [(k, d)])
  | _, _, .nil, r => .cons r .nil
  | _, _, .cons q l, r => .cons q (RpI.put_new l r)
theorem wipe_wipe (vs : List Nat) (σ : St) : wipe (wipe σ vs) vs = wipe σ vs := by
  have h : ∀ (ws : List Nat) (σ : St), (∀ v ∈ ws, v ∈ vs) → wipe (wipe σ ws) vs = wipe σ vs := by
    intro ws
    induction ws with
    | nil => intro σ _; rfl
    | cons w ws ih =>
      intro σ hw
      have := setsV_wipe (js := [w]) (vs := vs) (fun j hj => by rw [List.mem_singleton.mp hj]; exact hw w List.mem_cons_self)
      show wipe ((wipe σ ws).set w none) vs = wipe σ vs
      have one : ∀ (vs : List Nat) (σ : St), w ∈ vs → wipe (σ.set w none) vs = wipe σ vs := by
        intro vs
        induction vs with
        | nil => intro σ h; cases h
        | cons v vs ih2 =>
          intro σ h
          show (wipe (σ.set w none) vs).set v none = (wipe σ vs).set v none
          by_cases q : w ∈ vs
          · rw [ih2 σ q]
          · have e : w = v := (List.mem_cons.mp h).elim id fun z => absurd z q
            subst e
            have com : ∀ (vs : List Nat) (σ : St), w ∉ vs → wipe (σ.set w none) vs = (wipe σ vs).set w none := by
              intro vs
              induction vs with
              | nil => intro σ _; rfl
              | cons y vs ih3 =>
                intro σ hn
                show (wipe (σ.set w none) vs).set y none = ((wipe σ vs).set y none).set w none
                rw [ih3 σ fun z => hn (List.mem_cons_of_mem _ z)]
                exact List.set_comm _ _ fun z => hn (z ▸ List.mem_cons_self)
            rw [com vs σ q, List.set_set]
      rw [one vs _ (hw w List.mem_cons_self), ih σ fun v hv => hw v (List.mem_cons_of_mem _ hv)]
  exact h vs σ fun _ hv => hv
def ownI (es : List (Int × D)) : Cell where
  I := fun M H a => ∃ kvs, H a = some (.dK kvs) ∧ RpI M H kvs es
  dom := fun ⟨_, e, _⟩ z => by rw [e] at z; cases z
  stab := fun ⟨vs, e, r⟩ q k => ⟨vs, by rw [q, e], r.mono (keeps_of k)⟩
  grow := fun ⟨vs, e, r⟩ k => ⟨vs, e, r.mono (keeps_grow k)⟩
  shrink := fun ⟨vs, e, r⟩ k => ⟨vs, e, r.mono (keeps_shrink k)⟩
theorem RpI.length {M : Ms} {H : Hp} : ∀ {kvs : List (Key × V)} {es : List (Int × D)}, RpI M H kvs es → kvs.length = es.length
  | _, _, .nil => rfl
  | _, _, .cons q l => by rw [List.length_cons, List.length_cons, RpI.length l]
theorem RpI.fresh {M : Ms} {H : Hp} {k : Int} : ∀ {kvs : List (Key × V)} {es : List (Int × D)}, RpI M H kvs es → (∀ e ∈ es, e.1 ≠ k) → (kvs.any fun kv => decide (kv.1 = (.inl k : Key))) = false
  | _, _, .nil, _ => rfl
  | _, _, .cons (k := k1) q l, h => by
    have h1 : k1 ≠ k := h _ List.mem_cons_self
    have h2 : ¬ (Sum.inl k1 : Key) = .inl k := fun z => h1 (Sum.inl.inj z)
    rw [List.any_cons, RpI.fresh l fun e he => h e (List.mem_cons_of_mem _ he)]
    simp [h2]
theorem RpI.look {M : Ms} {H : Hp} {k : Int} {d : D} : ∀ {kvs : List (Key × V)} {es : List (Int × D)}, RpI M H kvs es → es.lookup k = some d → ∃ v, valV kvs (.inl k : Key) = some v ∧ Rp M H v d
  | _, _, .nil, h => by cases h
  | _, _, .cons (k := k1) (v := v1) (d := d1) q l, h => by
    by_cases e : k = k1
    · subst e
      rw [List.lookup, beq_self_eq_true] at h
      cases h
      exact ⟨v1, by simp [valV], q⟩
    · have e2 : (k == k1) = false := by simpa using e
      rw [List.lookup, e2] at h
      obtain ⟨v, h1, h2⟩ := RpI.look l h
      have e3 : ¬ (Sum.inl k1 : Key) = .inl k := fun z => e (Sum.inl.inj z).symm
      unfold valV at h1 ⊢
      exact ⟨v, by simpa [e3] using h1, h2⟩
section
variable {X : Cx} {B : Bs} {W : Res} {Γ : List (V × D)} {ρ ρ' : List (Option D)} {iter tg kx vx : Expr} {scope : Scope} {pos np : Pos} {n : Str} {own : List (Str × Nat)} {g : TG} {t : Tgt}
theorem ed_dcI {α : Type} (l : List α) (ga : α → D) (kf : α → Nat) (vd : α → D) (hc : X.calm = true) (hN : X.N.Nodup) (hI : ID X tg W ρ iter (fun z => z = l.map ga)) (ok : BlkOk X.N X.env.scope scope own) (hsub : ∀ j ∈ t.slots, j ∈ own.map (·.2)) (hT : GT g t) (hlen : l.length ≤ 50000) (hnd : (l.map kf).Nodup)
    (hd : ∀ a ∈ l, ∃ ρ', t.put (ga a) (wipeD ρ (own.map (·.2))) = some ρ')
    (hG : ∀ (s : Shared) (H : Hp) (C : Addr) (cl : List (Str × Addr)) (fp : List Addr), PG (X.blk s H scope (compEnvC scope cl C X.env) fp) tg g)
    (hk : ∀ a ∈ l, ∀ (es : List (Int × D)) (L : Addr) ρ', t.put (ga a) (wipeD ρ (own.map (·.2))) = some ρ' → ¬ W.m L → ∀ (s : Shared) (H : Hp) (C : Addr) (cl : List (Str × Addr)) (fp : List Addr), EE (X.blk s H scope (compEnvC scope cl C X.env) fp) (W.add L (ownI es)) ρ' kx (natD (kf a)))
    (hv : ∀ a ∈ l, ∀ (es : List (Int × D)) (L : Addr) ρ', t.put (ga a) (wipeD ρ (own.map (·.2))) = some ρ' → ¬ W.m L → ∀ (s : Shared) (H : Hp) (C : Addr) (cl : List (Str × Addr)) (fp : List Addr), EE (X.blk s H scope (compEnvC scope cl C X.env) fp) (W.add L (ownI es)) ρ' vx (vd a))
    (hs : ∀ x, foldedSetIterable iter X.env x = pure x := by intro _; rfl) : EE X W ρ (.DictComp kx vx [⟨tg, iter, [], 0⟩] scope pos) (.dii (l.map fun a => ((kf a : Int), vd a))) := by
  have kk : ∀ (s : Shared) (H : Hp) (C : Addr) (cl : List (Str × Addr)) (fp : List Addr), PE (X.blk s H scope (compEnvC scope cl C X.env) fp) kx (fun σ H Q => ∃ q : α × List (Int × D) × Addr × List (Option D), (q.1 ∈ l ∧ t.put (ga q.1) (wipeD ρ (own.map (·.2))) = some q.2.2.2 ∧ ¬ W.m q.2.2.1) ∧ tD (W.add q.2.2.1 (ownI q.2.1)) q.2.2.2 (fun z => z = natD (kf q.1)) σ H Q) := fun s H C cl fp => PEex fun q => by
    by_cases c : q.1 ∈ l ∧ t.put (ga q.1) (wipeD ρ (own.map (·.2))) = some q.2.2.2 ∧ ¬ W.m q.2.2.1
    · exact PEimp (hk q.1 c.1 q.2.1 q.2.2.1 q.2.2.2 c.2.1 c.2.2 s H C cl fp) fun _ _ _ z => z.2
    · exact PEimp PEnever fun _ _ _ z => c z.1
  have vv : ∀ (s : Shared) (H : Hp) (C : Addr) (cl : List (Str × Addr)) (fp : List Addr), PE (X.blk s H scope (compEnvC scope cl C X.env) fp) vx (fun σ H Q => ∃ q : α × List (Int × D) × Addr × List (Option D), (q.1 ∈ l ∧ t.put (ga q.1) (wipeD ρ (own.map (·.2))) = some q.2.2.2 ∧ ¬ W.m q.2.2.1) ∧ tD (W.add q.2.2.1 (ownI q.2.1)) q.2.2.2 (fun z => z = vd q.1) σ H Q) := fun s H C cl fp => PEex fun q => by
    by_cases c : q.1 ∈ l ∧ t.put (ga q.1) (wipeD ρ (own.map (·.2))) = some q.2.2.2 ∧ ¬ W.m q.2.2.1
    · exact PEimp (hv q.1 c.1 q.2.1 q.2.2.1 q.2.2.2 c.2.1 c.2.2 s H C cl fp) fun _ _ _ z => z.2
    · exact PEimp PEnever fun _ _ _ z => c z.1
  refine PEimp (pe_dc hc hN hI ok hG (fun _ _ _ _ _ => pts_nil) kk vv hs) fun σ H Q ⟨o, sl, q⟩ => ⟨o, sl, fun J H1 Δ xs px e1 o1 dr wk L hL => ?_⟩
  subst px
  have nL : ¬ W.m L := W.fresh o1 hL
  have at0 : At ⟨W.m, H1⟩ W Δ (wipeD ρ (own.map (·.2))) (wipe σ (own.map (·.2))) H1 := ⟨.refl, o1, (sl.ext e1).wiped _, dr, fun a m => .inl m⟩
  let ac := fun i => (l.take i).map fun a => ((kf a : Int), vd a)
  refine ⟨fun i m H => i + m = l.length ∧ At ⟨W.m, H1⟩ (W.add L (ownI (ac i))) Δ (wipeD ρ (own.map (·.2))) (wipe σ (own.map (·.2))) H, ⟨l.length, by omega, by rw [show ac 0 = [] from rfl]; exact at0.alloc (c := ownI []) hL ⟨[], upd_same, .nil⟩⟩, ?_⟩
  rintro i m H ⟨him, at1⟩
  by_cases hi : i < l.length
  · refine .inr ⟨wk.go _ H i at1.gh (by rw [List.length_map]; exact hi), fun H' => At ⟨W.m, H1⟩ (W.add L (ownI (ac (i + 1)))) Δ (wipeD ρ (own.map (·.2))) (wipe σ (own.map (·.2))) H', fun H' z => ⟨m - 1, by omega, by omega, z⟩, fun x H' y => ?_⟩
    obtain ⟨d, hdx, keep, dm, rp⟩ := wk.yld _ H i x H' at1.gh (by rw [List.length_map]; exact hi) y
    obtain ⟨a, ha, rfl, hm⟩ := map_at hdx
    have rx := rp fun b hb => (W.add L (ownI (ac i))).dom at1.ok hb
    have at2 := at1.go (H' := H') ⟨fun b u _ z => keep b u z, dm⟩ ((W.add L (ownI (ac i))).same at1.ok keep)
    obtain ⟨ρ', hρ'⟩ := hd a hm
    refine hT rx at2.sl hρ' _ fun σ' s' hσ => ⟨?_, ?_⟩
    · obtain ⟨us, rfl⟩ := hσ
      rw [setsV_wipe hsub, wipe_wipe]
    · simp only [tYes, if_true]
      refine ⟨(a, ac i, L, ρ'), ⟨hm, hρ', nL⟩, at2.ok, s', fun z v H3 e3 o3 hz r3 => ⟨(a, ac i, L, ρ'), ⟨hm, hρ', nL⟩, o3, s'.ext e3, fun z2 v2 H4 e4 o4 hz2 r4 => ?_⟩⟩
      subst hz hz2
      cases r3
      obtain ⟨kvs, he, rn⟩ := id o4.2
      have at4 := (at2.go e3 o3).go e4 o4
      have hln : kvs.length = (ac i).length := rn.length
      have hac : (ac i).length ≤ i := by simp only [ac]; rw [List.length_map, List.length_take]; omega
      refine ⟨kvs, .inl (kf a : Int), rfl, he, sz_lt (show kvs.length < 100000 by omega), ?_⟩
      have ex : Ext (W.add L (ownI (ac i))).m H4 (upd H4 L (.dK (putK kvs (.inl (kf a : Int) : Key) v2))) := .mut (.inr rfl) he
      have nk : ∀ e ∈ ac i, e.1 ≠ (kf a : Int) := fun e he' z => by
        obtain ⟨b, hb, rfl⟩ := List.mem_map.mp he'
        have e1 : kf b = kf a := Int.ofNat.inj z
        have h2 : (l.take (i + 1)).map kf = (l.take i).map kf ++ [kf a] := by rw [take_succ_get ha, List.map_append]; rfl
        have h3 : ((l.take (i + 1)).map kf).Nodup := by rw [List.map_take]; exact hnd.sublist (List.take_sublist _ _)
        rw [h2, List.nodup_append] at h3
        exact h3.2.2 (kf b) (List.mem_map_of_mem hb) (kf a) List.mem_cons_self e1
      have ep : putK kvs (.inl (kf a : Int) : Key) v2 = kvs ++ [(.inl (kf a : Int), v2)] := by
        unfold putK
        rw [rn.fresh nk]; rfl
      rw [ep] at ex ⊢
      have := at4.upd (c' := ownI (ac i ++ [((kf a : Int), vd a)])) nL ⟨_, upd_same, (rn.mono ex.keeps).put_new (r4.ext ex)⟩
      have ea : ac (i + 1) = ac i ++ [((kf a : Int), vd a)] := by simp only [ac]; rw [take_succ_get ha, List.map_append]; rfl
      rw [ea]
      exact this
  · have e : i = l.length := by omega
    subst e
    obtain ⟨kvs, he, rn⟩ := at1.ok.2
    have k : Keeps (W.add L (ownI (ac l.length))).m W.m H H := keeps_shrink fun b m => .inl m
    refine .inl ⟨by have := wk.stop _ H at1.gh; rw [List.length_map] at this; exact this, q _ _ H (e1.trans at1.ext) (W.shrink at1.ok.1 fun b m => .inl m) rfl ?_⟩
    have r := Rp.dii nL he (rn.mono k)
    simp only [ac] at r
    rw [List.take_length] at r
    exact r
theorem ed_iget {e a : Expr} {es : List (Int × D)} {k : Int} {d : D} (hu : X.A.units + 1 < cLine) (ha : EE X W ρ a (.dii es)) (hb : EE X W ρ e (.int k)) (h : es.lookup k = some d) (hs : NoSl e := by exact fun _ _ => rfl) : EE X W ρ (.Subscript a e pos) d :=
  PEimp (pe_dget hu ha hb hs) fun σ H Q ⟨ok, sl, q⟩ => ⟨ok, sl, fun z v H1 e1 ok1 hz r1 => ⟨ok1, sl.ext e1, fun z2 v2 H2 e2 ok2 hz2 r2 => by
    subst hz hz2
    obtain ⟨p, kvs, rfl, n, g, l⟩ := (r1.ext e2).diiI
    cases r2
    obtain ⟨u, hu, ru⟩ := l.look h
    exact ⟨p, u, rfl, .inl ⟨kvs, .inl k, .inl g, rfl, hu.symm⟩, q _ _ H2 (e1.trans e2) ok2 rfl ru⟩⟩⟩
end
end K14

set_option Elab.async false
set_option linter.all false
set_option maxRecDepth 100000
set_option maxHeartbeats 4000000
namespace K14
open PySem L2
section
variable {P : Program} {w : World} {K : PySem.W.Frag} {mg : Str → Option Value} {base : Heap} {f : Addr} {fd : FuncData}
theorem zip_look : ∀ {o : List Nat} {L : List (Option Nat)} {c : Nat}, c ∈ o → o.length = L.length → ((o.zip L).map fun q => ((q.1 : Int), D.bl q.2.isSome)).lookup (c : Int) = some (.bl (L.getD (o.idxOf c) none).isSome)
  | [], _, _, h, _ => by cases h
  | x :: o, [], _, _, h => by cases h
  | x :: o, y :: L, c, h, hl => by
    rw [List.zip_cons_cons, List.map_cons]
    by_cases e : x = c
    · subst e
      simp [List.lookup]
    · have e2 : ((c : Int) == (x : Int)) = false := by
        have : ¬ (c : Int) = (x : Int) := by omega
        simpa using this
      rw [List.lookup, e2, idx_ne_cons _ e, zip_look ((List.mem_cons.mp h).elim (fun z => absurd z.symm e) id) (by simpa using hl)]
      rw [List.getD_cons_succ]
def rowAt (row : List Str) (o : List Nat) : List Str := o.map fun i => row.getD i PySem.Str.empty
theorem row_at {row : List Str} {i : Nat} (h : i < row.length) : (row.map D.str)[((i : Int)).toNat]? = some (.str (row.getD i PySem.Str.empty)) := by
  rw [Int.toNat_natCast, List.getElem?_map, List.getD_eq_getElem?_getD, List.getElem?_eq_getElem h]; rfl
theorem flg_eq (has : Nat → Str → Bool) (m : Nat) (row : List Str) (o : List Nat) : flg has m row o = (List.range row.length).map fun c => ((ledP has (List.range m) (rowAt row o)).getD (o.idxOf c) none).isSome := rfl
theorem rngD_nat (n : Nat) : rngD 0 ((n : Int).toNat) = (List.range n).map natD := by
  unfold rngD
  rw [Int.toNat_natCast]
  refine List.map_congr_left fun i _ => ?_
  unfold natD
  rw [Int.zero_add]
def okFlags (ds : List D) (Q : D → Prop) : Prop := ∃ (ls : List (List Str)) (row : List Str) (o : List Nat), ds = [lotsD ls, .tup (row.map .str), .ord o] ∧ ls.length ≤ 1000 ∧ row.length ≤ 1000 ∧ o.Perm (List.range row.length) ∧ Q = fun d => d = .tup ((flg (hasL ls) ls.length row o).map .bl)
theorem ok33 (F : FnP K "flags_of" (top 33) f fd) (T : Tx mg) (C : Cal P w K mg base CX0 2 "led" A25 (spN okLed)) : FnOk P w K mg base CX0 3 f fd A33 (spN okFlags) := by
  refine fn_data F sc33 (fun ds Q ⟨_, _, _, h, _⟩ => by rw [h]; rfl) fun cdv A outer s H E W ds Q B hr h => ?_
  obtain ⟨ls, row, o, rfl, hl, hrw, hp, rfl⟩ := h
  have ho := perm_len hp
  have lenL : (ledP (hasL ls) (List.range ls.length) (rowAt row o)).length = o.length := by rw [ledP_len]; unfold rowAt; rw [List.length_map]
  refine ss_set 3 (d := .lst ((ledP (hasL ls) (List.range ls.length) (rowAt row o)).map oD)) (ed_ixP ix_tup (fun _ _ => rfl) (ed_cal C hr pass0 (ad_cons (ed_var 0) (ad_cons (EE.is (ed_map1A 5 o natD (fun i => .str (row.getD i PySem.Str.empty)) rfl sc33.nd (id_ord (ed_var 2)) (blkOk_by (N := N33) (sc := defScope (top 33)) (by decide +kernel))
      (by omega) (fun _ _ _ _ _ => pg_name sc33.nd rfl (Or.inl rfl)) fun c hc ys L nL s H C cl fp => ed_ixT (ed_var 1) (ed_var 5) (Int.natCast_nonneg c) (row_at ((perm_mem hp).mp hc))) (congrArg D.lst (show _ = (rowAt row o).map D.str by unfold rowAt; rw [List.map_map]; rfl))) ad_nil))
      ⟨ls, rowAt row o, rfl, hl, by unfold rowAt; rw [List.length_map]; omega, rfl⟩) ed_int fun x y h1 h2 => ?_) ?_ sc33.nd
  · obtain ⟨fr, rfl⟩ := h1
    subst h2
    exact rr_ixT (by decide) rfl
  generalize hL : ledP (hasL ls) (List.range ls.length) (rowAt row o) = L at lenL
  refine ss_set 4 (ed_dcI (t := .tup [5, 6]) (o.zip L) (fun q => .tup [natD q.1, oD q.2]) (fun q => q.1) (fun q => .bl q.2.isSome) rfl sc33.nd (PIimp (id_zipM (o := o) (ds := L.map oD) T.zip (ed_var 2) (ed_var 3) (by rw [List.length_map]; omega)) fun σ H R ⟨ok, sl, q⟩ => ⟨ok, sl, fun J H1 Δ xs hx => q J H1 Δ xs ?_⟩)
      (blkOk_by (own := [("comer", 5), ("seat", 6)]) (N := N33) (sc := defScope (top 33)) (by decide +kernel)) (fun k hk => hk) (gt_tup (K := K) [5, 6]) (by rw [List.length_zip]; omega) ?_ (fun a ha => ⟨_, rfl⟩)
      (fun s H C cl fp => (gd_tup (js := [5, 6]) rfl (gns_cons 5 (gns_cons 6 gns_nil sc33.nd) sc33.nd)).pg) (fun a ha es L' ρ' hρ nL s H C cl fp => by cases hρ; exact ed_var 5) (fun a ha es L' ρ' hρ nL s H C cl fp => by
        cases hρ
        exact EE.is (ed_notN (ed_var 6)) (by rw [isNon_oD]))) ?_ sc33.nd
  · rw [hx]
    unfold zipO
    rw [List.zip_map_right, List.map_map]
    rfl
  · show ((o.zip L).map Prod.fst).Nodup
    rw [List.map_fst_zip (by omega)]
    exact perm_nodup hp
  · have hu : (A.deeper (PyProof.Rows.envOfC "flags_of" (defScope (top 33)) s.heap.objs.size f cdv)).units + 1 < cLine := by have := hr.units; omega
    refine ss_ret (ed_tuple T.tuple (ed_map1A 5 (List.range row.length) natD (fun c => .bl (L.getD (o.idxOf c) none).isSome) rfl sc33.nd (PIimp (id_range1 T.range (ed_lenT T.len (ed_var 1)) (by rw [List.length_map]; omega)) fun σ H R ⟨ok, sl, q⟩ => ⟨ok, sl, fun J H1 Δ xs hx => q J H1 Δ xs ?_⟩) (blkOk_by (N := N33) (sc := defScope (top 33)) (by decide +kernel))
      (by rw [List.length_range]; omega) (fun _ _ _ _ _ => pg_name sc33.nd rfl (Or.inl rfl)) fun c hc ys L' nL s H C cl fp => ed_iget hu (ed_var 4) (ed_var 5) (zip_look ((perm_mem hp).mpr (List.mem_range.mp hc)) (by omega)))) rfl ?_
    · rw [hx, List.length_map, rngD_nat]
    · show D.tup _ = D.tup _
      rw [flg_eq, hL, List.map_map]; rfl
theorem ok58 (F : FnP K "_law_flags" (top 58) f fd) (T : Tx mg) (C : Cal P w K mg base CX0 1 "_law_led" A49 (spN okLedL')) : FnOk P w K mg base CX0 2 f fd A58 (spN okFlags) := by
  refine fn_data F sc58 (fun ds Q ⟨_, _, _, h, _⟩ => by rw [h]; rfl) fun cdv A outer s H E W ds Q B hr h => ?_
  obtain ⟨ls, row, o, rfl, hl, hrw, hp, rfl⟩ := h
  have ho := perm_len hp
  have lenL : (ledP (hasL ls) (List.range ls.length) (rowAt row o)).length = o.length := by rw [ledP_len]; unfold rowAt; rw [List.length_map]
  refine ss_set 3 (d := .lst ((ledP (hasL ls) (List.range ls.length) (rowAt row o)).map oD)) (ED.imp (ed_cal C hr pass0 (ad_cons (ed_var 0) (ad_cons (EE.is (ed_map1A 4 o natD (fun i => .str (row.getD i PySem.Str.empty)) rfl sc58.nd (id_ord (ed_var 2)) (blkOk_by (N := N58) (sc := defScope (top 58)) (by decide +kernel))
      (by omega) (fun _ _ _ _ _ => pg_name sc58.nd rfl (Or.inl rfl)) fun c hc ys L nL s H C cl fp => ed_ixT (ed_var 1) (ed_var 4) (Int.natCast_nonneg c) (row_at ((perm_mem hp).mp hc))) (congrArg D.lst (show _ = (rowAt row o).map D.str by unfold rowAt; rw [List.map_map]; rfl))) ad_nil))
      ⟨ls, rowAt row o, .inr rfl, hl, by unfold rowAt; rw [List.length_map]; omega, rfl⟩) fun d hd => by rw [hd, ledL_eq]) ?_ sc58.nd
  generalize hL : ledP (hasL ls) (List.range ls.length) (rowAt row o) = L at lenL
  refine ss_ret (ed_tuple T.tuple (ed_map1A 4 (List.range row.length) natD (fun c => .bl (L.getD (o.idxOf c) none).isSome) rfl sc58.nd (PIimp (id_range1 T.range (ed_lenT T.len (ed_var 1)) (by rw [List.length_map]; omega)) fun σ H R ⟨ok, sl, q⟩ => ⟨ok, sl, fun J H1 Δ xs hx => q J H1 Δ xs ?_⟩) (blkOk_by (N := N58) (sc := defScope (top 58)) (by decide +kernel))
      (by rw [List.length_range]; omega) (fun _ _ _ _ _ => pg_name sc58.nd rfl (Or.inl rfl)) fun c hc ys L' nL s H C cl fp => EE.is (ed_notN (ed_ixL (d := oD (L.getD (o.idxOf c) none)) (ed_var 3) (ed_indexO (ed_var 2) (ed_var 4) ((perm_mem hp).mpr (List.mem_range.mp hc))) (Int.natCast_nonneg _) ?_)) (by rw [isNon_oD]))) rfl ?_
  · rw [hx, List.length_map, rngD_nat]
  · have hi : o.idxOf c < L.length := by
      rw [lenL]
      exact List.idxOf_lt_length_of_mem ((perm_mem hp).mpr (List.mem_range.mp hc))
    rw [Int.toNat_natCast, List.getElem?_map, List.getD_eq_getElem?_getD, List.getElem?_eq_getElem hi]; rfl
  · show D.tup _ = D.tup _
    rw [flg_eq, hL, List.map_map]; rfl
end
end K14

set_option Elab.async false
set_option linter.all false
set_option maxRecDepth 100000
set_option maxHeartbeats 4000000
namespace K14
open PySem L2
/-- a comprehension read as a value, or as what a name is set to -/
structure LcJ (X : Cx) (elt tg iter : Expr) (ifs : List Expr) (scope : Scope) (own : List (Str × Nat)) (J : TE → Prop) : Prop where
  lc : ∀ {wi : TI} {g : TG} {tt : TT} {te : TE}, PI X tg iter wi → (∀ (s : Shared) (H : Hp) (C : Addr) (cl : List (Str × Addr)) (fp : List Addr), PG (X.blk s H scope (compEnvC scope cl C X.env) fp) tg g) →
    (∀ (s : Shared) (H : Hp) (C : Addr) (cl : List (Str × Addr)) (fp : List Addr), PTs (X.blk s H scope (compEnvC scope cl C X.env) fp) ifs tt) → (∀ (s : Shared) (H : Hp) (C : Addr) (cl : List (Str × Addr)) (fp : List Addr), PE (X.blk s H scope (compEnvC scope cl C X.env) fp) elt te) →
    J (tLc wi g tt te (own.map (·.2)))
  imp : ∀ {t t' : TE}, J t → (∀ σ H Q, t' σ H Q → t σ H Q) → J t'
theorem LcJ.tD {X : Cx} {elt tg iter : Expr} {ifs : List Expr} {scope : Scope} {own : List (Str × Nat)} {J : TE → Prop} (hJ : LcJ X elt tg iter ifs scope own J) {W : Res} {ρ : List (Option D)} {P P' : D → Prop} (h : J (K14.tD W ρ P)) (k : ∀ d, P d → P' d) : J (K14.tD W ρ P') :=
  hJ.imp h fun σ H Q ⟨ok, sl, q⟩ => ⟨ok, sl, fun d v H' e ok' p r => q d v H' e ok' (k d p) r⟩
theorem lcE {X : Cx} {elt tg iter : Expr} {ifs : List Expr} {scope : Scope} {own : List (Str × Nat)} {pos : Pos} (hc : X.calm = true) (hN : X.N.Nodup) (ok : BlkOk X.N X.env.scope scope own) (hs : ∀ x, foldedSetIterable iter X.env x = pure x := by intro _; rfl) :
    LcJ X elt tg iter ifs scope own (fun t => PE X (.ListComp elt [⟨tg, iter, ifs, 0⟩] scope pos) t) := ⟨fun hI hG ht he => pe_lc hc hN hI ok hG ht he hs, fun h k => PEimp h k⟩
theorem lcS {X : Cx} {elt tg iter : Expr} {ifs : List Expr} {scope : Scope} {own : List (Str × Nat)} {pos spos py : Pos} {y : Str} (i : Nat) (hN : X.N.Nodup) (ok : BlkOk X.N X.env.scope scope own) (hc : X.calm = true := by rfl) (hy : X.N[i]? = some y := by rfl) (hyl : X.env.scope.names.lookup y = some .local := by rfl)
    (hsw : swapsWith (.ListComp elt [⟨tg, iter, ifs, 0⟩] scope pos) (some (.Name y py)) spos.line X.env = pure true := by rfl) (hs : ∀ x, foldedSetIterable iter X.env x = pure x := by intro _; rfl) :
    LcJ X elt tg iter ifs scope own (fun t => PS X (.Assign [.Name y py] (.ListComp elt [⟨tg, iter, ifs, 0⟩] scope pos) spos) (tAsg t (gName i))) := ⟨fun hI hG ht he => ps_setLc hc hN hy hyl hsw hI ok hG ht he hs, fun h k => PSimp h fun D σ H q => k σ H _ q⟩
theorem ss_lc {X : Cx} {B : Bs} {W : Res} {Γ : List (V × D)} {ρ : List (Option D)} {P : D → Prop} {st : Stmt} {rest : List Stmt} {E : Ends} {i : Nat} (h : PS X st (tAsg (tD W ρ P) (gName i))) (h2 : ∀ d, P d → SS X (At B W Γ (ρ.set i (some d))) rest E) : SS X (At B W Γ ρ) (st :: rest) E :=
  ss_cons (Ψ := fun σ H => ∃ d, P d ∧ At B W Γ (ρ.set i (some d)) σ H) h (fun Dn σ H at_ kn _ _ _ => ⟨at_.ok, at_.sl, fun d v H' e1 ok' p r => kn _ _ ⟨d, p, (at_.go e1 ok').set i r⟩⟩) (SS.exP h2)
section
variable {X : Cx} {W : Res} {ρ : List (Option D)} {P : D → Prop} {iter tg elt c : Expr} {scope : Scope} {pos np : Pos} {own : List (Str × Nat)} {n : Str} {ifs : List Expr} {J : TE → Prop}
theorem lj_lcP {g : TG} {t : Tgt} {Px : List D → Prop} (inv : List D → Nat → List D → Prop) (pt : List D → Nat → Bool → Prop) (pe : List D → Nat → D → Prop) (hJ : LcJ X elt tg iter ifs scope own J) (hI : ID X tg W ρ iter Px)
    (hsub : ∀ j ∈ t.slots, j ∈ own.map (·.2)) (hT : GT g t) (hlen : ∀ xs, Px xs → xs.length ≤ 50000) (h0 : ∀ xs, Px xs → inv xs 0 [])
    (hd : ∀ xs, Px xs → ∀ (i : Nat) (d : D), xs[i]? = some d → ∃ ρ', t.put d (wipeD ρ (own.map (·.2))) = some ρ')
    (hG : ∀ (s : Shared) (H : Hp) (C : Addr) (cl : List (Str × Addr)) (fp : List Addr), PG (X.blk s H scope (compEnvC scope cl C X.env) fp) tg g)
    (ht : ∀ xs, Px xs → ∀ (i : Nat) (x : D) (ys : List D) (L : Addr) (ρ' : List (Option D)), xs[i]? = some x → inv xs i ys → ¬ W.m L → t.put x (wipeD ρ (own.map (·.2))) = some ρ' → ∀ (s : Shared) (H : Hp) (C : Addr) (cl : List (Str × Addr)) (fp : List Addr), PTs (X.blk s H scope (compEnvC scope cl C X.env) fp) ifs (tDt (W.add L (ownL ys)) ρ' (pt xs i)))
    (he : ∀ xs, Px xs → ∀ (i : Nat) (x : D) (ys : List D) (L : Addr) (ρ' : List (Option D)), xs[i]? = some x → inv xs i ys → ¬ W.m L → t.put x (wipeD ρ (own.map (·.2))) = some ρ' → pt xs i true → ∀ (s : Shared) (H : Hp) (C : Addr) (cl : List (Str × Addr)) (fp : List Addr), ED (X.blk s H scope (compEnvC scope cl C X.env) fp) (W.add L (ownL ys)) ρ' elt (pe xs i))
    (h1 : ∀ xs, Px xs → ∀ i ys d, i < xs.length → inv xs i ys → pt xs i true → pe xs i d → inv xs (i + 1) (ys ++ [d])) (h2 : ∀ xs, Px xs → ∀ i ys, i < xs.length → inv xs i ys → pt xs i false → inv xs (i + 1) ys)
    (hl : ∀ xs i ys, Px xs → inv xs i ys → ys.length ≤ i) : J (tD W ρ (fun z => ∃ xs ys, Px xs ∧ z = .lst ys ∧ inv xs xs.length ys)) := by
  have neverT : ∀ {Y : Cx} {ts : List Expr}, PTs Y ts (fun _ _ _ => False) := fun {Y ts} => ⟨fun _ _ _ _ _ _ z => z.elim⟩
  have tst : ∀ (s : Shared) (H : Hp) (C : Addr) (cl : List (Str × Addr)) (fp : List Addr), PTs (X.blk s H scope (compEnvC scope cl C X.env) fp) ifs (fun σ H Q => ∃ q : List D × Nat × D × List D × Addr × List (Option D),
      (Px q.1 ∧ q.1[q.2.1]? = some q.2.2.1 ∧ inv q.1 q.2.1 q.2.2.2.1 ∧ ¬ W.m q.2.2.2.2.1 ∧ t.put q.2.2.1 (wipeD ρ (own.map (·.2))) = some q.2.2.2.2.2) ∧ tDt (W.add q.2.2.2.2.1 (ownL q.2.2.2.1)) q.2.2.2.2.2 (pt q.1 q.2.1) σ H Q) := fun s H C cl fp => PTsex fun q => by
    by_cases c : Px q.1 ∧ q.1[q.2.1]? = some q.2.2.1 ∧ inv q.1 q.2.1 q.2.2.2.1 ∧ ¬ W.m q.2.2.2.2.1 ∧ t.put q.2.2.1 (wipeD ρ (own.map (·.2))) = some q.2.2.2.2.2
    · obtain ⟨c1, c2, c3, c4, c5⟩ := c
      have z := ht q.1 c1 q.2.1 q.2.2.1 q.2.2.2.1 q.2.2.2.2.1 q.2.2.2.2.2 c2 c3 c4 c5 s H C cl fp
      exact ⟨fun pins s σ H Q I w => z.run pins s σ H Q I w.2⟩
    · exact ⟨fun pins s σ H Q I w => (c w.1).elim⟩
  have elm : ∀ (s : Shared) (H : Hp) (C : Addr) (cl : List (Str × Addr)) (fp : List Addr), PE (X.blk s H scope (compEnvC scope cl C X.env) fp) elt (fun σ H Q => ∃ q : List D × Nat × D × List D × Addr × List (Option D),
      (Px q.1 ∧ q.1[q.2.1]? = some q.2.2.1 ∧ inv q.1 q.2.1 q.2.2.2.1 ∧ ¬ W.m q.2.2.2.2.1 ∧ t.put q.2.2.1 (wipeD ρ (own.map (·.2))) = some q.2.2.2.2.2 ∧ pt q.1 q.2.1 true) ∧ tD (W.add q.2.2.2.2.1 (ownL q.2.2.2.1)) q.2.2.2.2.2 (pe q.1 q.2.1) σ H Q) := fun s H C cl fp => PEex fun q => by
    by_cases c : Px q.1 ∧ q.1[q.2.1]? = some q.2.2.1 ∧ inv q.1 q.2.1 q.2.2.2.1 ∧ ¬ W.m q.2.2.2.2.1 ∧ t.put q.2.2.1 (wipeD ρ (own.map (·.2))) = some q.2.2.2.2.2 ∧ pt q.1 q.2.1 true
    · obtain ⟨c1, c2, c3, c4, c5, c6⟩ := c
      exact PEimp (he q.1 c1 q.2.1 q.2.2.1 q.2.2.2.1 q.2.2.2.2.1 q.2.2.2.2.2 c2 c3 c4 c5 c6 s H C cl fp) fun _ _ _ z => z.2
    · exact PEimp PEnever fun _ _ _ z => c z.1
  refine hJ.imp (hJ.lc hI hG tst elm) fun σ H Q ⟨o, sl, q⟩ => ⟨o, sl, fun J H1 Δ xs px e1 o1 dr wk L hL => ?_⟩
  have at0 : At ⟨W.m, H1⟩ W Δ (wipeD ρ (own.map (·.2))) (wipe σ (own.map (·.2))) H1 := ⟨.refl, o1, (sl.ext e1).wiped _, dr, fun a m => .inl m⟩
  have nL : ¬ W.m L := W.fresh o1 hL
  refine ⟨fun i m H => i + m = xs.length ∧ ∃ ys, inv xs i ys ∧ At ⟨W.m, H1⟩ (W.add L (ownL ys)) Δ (wipeD ρ (own.map (·.2))) (wipe σ (own.map (·.2))) H, ⟨xs.length, by omega, [], h0 xs px, at0.alloc (c := ownL []) hL ⟨[], upd_same, .nil⟩⟩, ?_⟩
  rintro i m H ⟨him, ys, iv, at1⟩
  by_cases hi : i < xs.length
  · refine .inr ⟨wk.go _ H i at1.gh hi, fun H' => ∃ ys, inv xs (i + 1) ys ∧ At ⟨W.m, H1⟩ (W.add L (ownL ys)) Δ (wipeD ρ (own.map (·.2))) (wipe σ (own.map (·.2))) H', fun H' z => ⟨m - 1, by omega, by omega, z⟩, fun x H' y => ?_⟩
    obtain ⟨d, hd', keep, dm, rp⟩ := wk.yld _ H i x H' at1.gh hi y
    have rx := rp fun b hb => (W.add L (ownL ys)).dom at1.ok hb
    have at2 := at1.go (H' := H') ⟨fun b u _ z => keep b u z, dm⟩ ((W.add L (ownL ys)).same at1.ok keep)
    obtain ⟨ρ', hρ'⟩ := hd xs px i d hd'
    refine hT rx at2.sl hρ' _ fun σ' s' hσ => ⟨?_, ⟨(xs, i, d, ys, L, ρ'), ⟨px, hd', iv, nL, hρ'⟩, at2.ok, s', fun b H3 e3 o3 pb => ?_⟩⟩
    · obtain ⟨us, rfl⟩ := hσ
      rw [setsV_wipe hsub]
      have ww : ∀ (vs ws : List Nat) (σ : St), (∀ v ∈ ws, v ∈ vs) → wipe (wipe σ ws) vs = wipe σ vs := by
        intro vs ws
        induction ws with
        | nil => intro σ _; rfl
        | cons w ws ih =>
          intro σ hw
          show wipe ((wipe σ ws).set w none) vs = wipe σ vs
          have one : ∀ (vs : List Nat) (σ : St), w ∈ vs → wipe (σ.set w none) vs = wipe σ vs := by
            intro vs
            induction vs with
            | nil => intro σ h; cases h
            | cons v vs ih2 =>
              intro σ h
              show (wipe (σ.set w none) vs).set v none = (wipe σ vs).set v none
              by_cases q : w ∈ vs
              · rw [ih2 σ q]
              · have e : w = v := by
                  rcases List.mem_cons.mp h with z | z
                  · exact z
                  · exact absurd z q
                subst e
                have com : ∀ (vs : List Nat) (σ : St), w ∉ vs → wipe (σ.set w none) vs = (wipe σ vs).set w none := by
                  intro vs
                  induction vs with
                  | nil => intro σ _; rfl
                  | cons y vs ih3 =>
                    intro σ hn
                    show (wipe (σ.set w none) vs).set y none = ((wipe σ vs).set y none).set w none
                    rw [ih3 σ fun z => hn (List.mem_cons_of_mem _ z)]
                    exact List.set_comm _ _ fun z => hn (z ▸ List.mem_cons_self)
                rw [com vs σ q, List.set_set]
          rw [one vs _ (hw w List.mem_cons_self), ih σ fun v hv => hw v (List.mem_cons_of_mem _ hv)]
      exact ww _ _ σ fun v hv => hv
    · have at3 := at2.go e3 o3
      cases b with
      | false => exact iteF ⟨ys, h2 xs px i ys hi iv pb, at3⟩
      | true =>
        refine iteT ⟨(xs, i, d, ys, L, ρ'), ⟨px, hd', iv, nL, hρ', pb⟩, o3, s'.ext e3, fun z v H4 e4 o4 pz rz => ?_⟩
        obtain ⟨acc, ea, ra⟩ := id o4.2
        have hacc := hl xs i ys px iv
        have hxs := hlen xs px
        have at4 := at3.go e4 o4
        have ex : Ext (W.add L (ownL ys)).m H4 (upd H4 L (.lst (acc ++ [v]))) := .mut (.inr rfl) ea
        exact ⟨acc, ea, by rw [ra.length]; exact sz_lt (show ys.length < 100000 by omega), ys ++ [z], h1 xs px i ys z hi iv pb pz, at4.upd (c' := ownL (ys ++ [z])) nL ⟨acc ++ [v], upd_same, (ra.ext ex).append (.cons (rz.ext ex) .nil)⟩⟩
  · have e : i = xs.length := by omega
    subst e
    obtain ⟨acc, ea, ra⟩ := at1.ok.2
    have k : Keeps (W.add L (ownL ys)).m W.m H H := keeps_shrink fun b m => .inl m
    exact .inl ⟨wk.stop _ H at1.gh, q _ _ H (e1.trans at1.ext) (W.shrink at1.ok.1 fun b m => .inl m) ⟨xs, ys, px, rfl, iv⟩ (.lst nL ea (ra.mono k))⟩
theorem lj_mapA {α : Type} {g : TG} {t : Tgt} (l : List α) (ga : α → D) (f : α → D) (hJ : LcJ X elt tg iter [] scope own J) (hI : ID X tg W ρ iter (fun z => z = l.map ga)) (hsub : ∀ j ∈ t.slots, j ∈ own.map (·.2)) (hT : GT g t) (hlen : l.length ≤ 50000)
    (hd : ∀ a ∈ l, ∃ ρ', t.put (ga a) (wipeD ρ (own.map (·.2))) = some ρ')
    (hG : ∀ (s : Shared) (H : Hp) (C : Addr) (cl : List (Str × Addr)) (fp : List Addr), PG (X.blk s H scope (compEnvC scope cl C X.env) fp) tg g)
    (he : ∀ a ∈ l, ∀ (ys : List D) (L : Addr) (ρ' : List (Option D)), ¬ W.m L → t.put (ga a) (wipeD ρ (own.map (·.2))) = some ρ' → ∀ (s : Shared) (H : Hp) (C : Addr) (cl : List (Str × Addr)) (fp : List Addr), EE (X.blk s H scope (compEnvC scope cl C X.env) fp) (W.add L (ownL ys)) ρ' elt (f a))
    : J (tD W ρ (fun z => z = .lst (l.map f))) :=
  hJ.tD (lj_lcP (Px := fun z => z = l.map ga) (inv := fun zs i ys => ys = (l.take i).map f) (pt := fun _ _ b => b = true) (pe := fun zs i d => ∀ a, l[i]? = some a → d = f a) hJ hI hsub hT (fun z h => by rw [h, List.length_map]; exact hlen) (fun _ _ => rfl)
      (fun z h i d hd' => by
        subst h
        obtain ⟨a, ha, rfl, _⟩ := map_pick l ga f (fun _ _ _ => True) (fun _ _ _ => trivial) i d hd'
        exact hd a ha) hG
      (fun z h i x ys L ρ' hx _ nL hp s H C cl fp => ⟨fun pins s σ H Q I q => pts_nil.run pins s σ H Q I (q.2.2 true H .refl q.1 rfl)⟩)
      (fun z h i x ys L ρ' hx _ nL hp _ s H C cl fp => by
        subst h
        rw [List.getElem?_map] at hx
        cases e : l[i]? with
        | none => rw [e] at hx; cases hx
        | some a =>
          rw [e] at hx
          cases hx
          exact ED.imp (he a (List.mem_of_getElem? e) ys L ρ' nL hp s H C cl fp) fun d hd a' ha' => by cases ha'; exact hd)
      (fun z h i ys d hi hy _ hd => by
        subst h
        rw [List.length_map] at hi
        obtain ⟨x, hx⟩ : ∃ x, l[i]? = some x := ⟨l[i], by simp [hi]⟩
        rw [take_succ_get hx, List.map_append, hy, hd x hx]; rfl)
      (fun z h i ys hi hy b => by cases b) (fun z i ys h hy => by rw [hy, List.length_map, List.length_take]; omega) )
    fun z ⟨xs', ys, h1, h2, h3⟩ => by rw [h2, h3, h1, List.length_map, List.take_length]
theorem lj_filterA {α : Type} {g : TG} {tt : Tgt} (l : List α) (ga : α → D) (t : α → Bool) (f : α → D) (hJ : LcJ X elt tg iter [c] scope own J) (hI : ID X tg W ρ iter (fun z => z = l.map ga)) (hsub : ∀ j ∈ tt.slots, j ∈ own.map (·.2)) (hT : GT g tt) (hlen : l.length ≤ 50000)
    (hd : ∀ a ∈ l, ∃ ρ', tt.put (ga a) (wipeD ρ (own.map (·.2))) = some ρ')
    (hG : ∀ (s : Shared) (H : Hp) (C : Addr) (cl : List (Str × Addr)) (fp : List Addr), PG (X.blk s H scope (compEnvC scope cl C X.env) fp) tg g)
    (ht : ∀ a ∈ l, ∀ (ys : List D) (L : Addr) (ρ' : List (Option D)), ¬ W.m L → tt.put (ga a) (wipeD ρ (own.map (·.2))) = some ρ' → ∀ (s : Shared) (H : Hp) (C : Addr) (cl : List (Str × Addr)) (fp : List Addr), TB (X.blk s H scope (compEnvC scope cl C X.env) fp) (W.add L (ownL ys)) ρ' c (t a))
    (he : ∀ a ∈ l, t a = true → ∀ (ys : List D) (L : Addr) (ρ' : List (Option D)), ¬ W.m L → tt.put (ga a) (wipeD ρ (own.map (·.2))) = some ρ' → ∀ (s : Shared) (H : Hp) (C : Addr) (cl : List (Str × Addr)) (fp : List Addr), EE (X.blk s H scope (compEnvC scope cl C X.env) fp) (W.add L (ownL ys)) ρ' elt (f a))
    : J (tD W ρ (fun z => z = .lst ((l.filter t).map f))) :=
  hJ.tD (lj_lcP (Px := fun z => z = l.map ga) (inv := fun zs i ys => ys = ((l.take i).filter t).map f) (pt := fun zs i b => ∀ a, l[i]? = some a → b = t a) (pe := fun zs i d => ∀ a, l[i]? = some a → d = f a) hJ hI hsub hT (fun z h => by rw [h, List.length_map]; exact hlen) (fun _ _ => rfl)
      (fun z h i d hd' => by
        subst h
        obtain ⟨a, ha, rfl, _⟩ := map_pick l ga f (fun _ _ _ => True) (fun _ _ _ => trivial) i d hd'
        exact hd a ha) hG
      (fun z h i x ys L ρ' hx _ nL hp s H C cl fp => by
        subst h
        rw [List.getElem?_map] at hx
        cases e : l[i]? with
        | none => rw [e] at hx; cases hx
        | some a =>
          rw [e] at hx
          cases hx
          exact pts_one (PTimp (ht a (List.mem_of_getElem? e) ys L ρ' nL hp s H C cl fp) fun σ H Q ⟨o, sl, q⟩ => ⟨o, sl, fun b H' e o' hb => q b H' e o' fun a' ha' => by cases ha'; exact hb⟩))
      (fun z h i x ys L ρ' hx _ nL hp hb s H C cl fp => by
        subst h
        rw [List.getElem?_map] at hx
        cases e : l[i]? with
        | none => rw [e] at hx; cases hx
        | some a =>
          rw [e] at hx
          cases hx
          exact ED.imp (he a (List.mem_of_getElem? e) (hb a e).symm ys L ρ' nL hp s H C cl fp) fun d hd a' ha' => by cases ha'; exact hd)
      (fun z h i ys d hi hy hb hd => by
        subst h
        rw [List.length_map] at hi
        obtain ⟨x, hx⟩ : ∃ x, l[i]? = some x := ⟨l[i], by simp [hi]⟩
        rw [take_succ_get hx, List.filter_append, List.map_append, hy, hd x hx, List.filter_cons, if_pos (hb x hx).symm]; rfl)
      (fun z h i ys hi hy hb => by
        subst h
        rw [List.length_map] at hi
        obtain ⟨x, hx⟩ : ∃ x, l[i]? = some x := ⟨l[i], by simp [hi]⟩
        rw [take_succ_get hx, List.filter_append, List.map_append, hy, List.filter_cons, if_neg (by rw [← hb x hx]; decide)]; simp)
      (fun z i ys h hy => by rw [hy, List.length_map]; exact Nat.le_trans (List.length_filter_le _ _) (by rw [List.length_take]; omega)) )
    fun z ⟨xs', ys, h1, h2, h3⟩ => by rw [h2, h3, h1, List.length_map, List.take_length]
theorem lj_map1A {α : Type} (j : Nat) (l : List α) (ga : α → D) (f : α → D) (hJ : LcJ X elt (.Name n np) iter [] scope [(n, j)] J) (hI : ID X (.Name n np) W ρ iter (fun z => z = l.map ga)) (hlen : l.length ≤ 50000)
    (hG : ∀ (s : Shared) (H : Hp) (C : Addr) (cl : List (Str × Addr)) (fp : List Addr), PG (X.blk s H scope (compEnvC scope cl C X.env) fp) (.Name n np) (gName j))
    (he : ∀ a ∈ l, ∀ (ys : List D) (L : Addr), ¬ W.m L → ∀ (s : Shared) (H : Hp) (C : Addr) (cl : List (Str × Addr)) (fp : List Addr), EE (X.blk s H scope (compEnvC scope cl C X.env) fp) (W.add L (ownL ys)) ((ρ.set j none).set j (some (ga a))) elt (f a))
    : J (tD W ρ (fun z => z = .lst (l.map f))) :=
  lj_mapA (t := .one j) l ga f hJ hI (fun k hk => hk) (gt_name j) hlen (fun d _ => ⟨_, rfl⟩) hG (fun a ha ys L ρ' nL hp s H C cl fp => by cases hp; exact he a ha ys L nL s H C cl fp)
theorem lj_filter1A {α : Type} (j : Nat) (l : List α) (ga : α → D) (t : α → Bool) (f : α → D) (hJ : LcJ X elt (.Name n np) iter [c] scope [(n, j)] J) (hI : ID X (.Name n np) W ρ iter (fun z => z = l.map ga)) (hlen : l.length ≤ 50000)
    (hG : ∀ (s : Shared) (H : Hp) (C : Addr) (cl : List (Str × Addr)) (fp : List Addr), PG (X.blk s H scope (compEnvC scope cl C X.env) fp) (.Name n np) (gName j))
    (ht : ∀ a ∈ l, ∀ (ys : List D) (L : Addr), ¬ W.m L → ∀ (s : Shared) (H : Hp) (C : Addr) (cl : List (Str × Addr)) (fp : List Addr), TB (X.blk s H scope (compEnvC scope cl C X.env) fp) (W.add L (ownL ys)) ((ρ.set j none).set j (some (ga a))) c (t a))
    (he : ∀ a ∈ l, t a = true → ∀ (ys : List D) (L : Addr), ¬ W.m L → ∀ (s : Shared) (H : Hp) (C : Addr) (cl : List (Str × Addr)) (fp : List Addr), EE (X.blk s H scope (compEnvC scope cl C X.env) fp) (W.add L (ownL ys)) ((ρ.set j none).set j (some (ga a))) elt (f a))
    : J (tD W ρ (fun z => z = .lst ((l.filter t).map f))) :=
  lj_filterA (tt := .one j) l ga t f hJ hI (fun k hk => hk) (gt_name j) hlen (fun d _ => ⟨_, rfl⟩) hG (fun a ha ys L ρ' nL hp s H C cl fp => by cases hp; exact ht a ha ys L nL s H C cl fp)
    (fun a ha hta ys L ρ' nL hp s H C cl fp => by cases hp; exact he a ha hta ys L nL s H C cl fp)
end
end K14

set_option Elab.async false
set_option linter.all false
set_option maxRecDepth 100000
set_option maxHeartbeats 4000000
namespace K14
open PySem L2
section
variable {P : Program} {w : World} {K : PySem.W.Frag} {mg : Str → Option Value} {base : Heap} {f : Addr} {fd : FuncData}
theorem ed_eqB {X : Cx} {W : Res} {ρ : List (Option D)} {a b : Expr} {pos : Pos} {i j : Bool} (ha : EE X W ρ a (.bl i)) (hb : EE X W ρ b (.bl j)) : EE X W ρ (.Compare a [.Eq] [b] pos) (.bl (decide (i = j))) := by
  have e : decide (V.bl i = V.bl j) = decide (i = j) := by by_cases h : i = j <;> simp [h]
  rw [← e]; exact ed_cmp op_eq (nomark b) ha hb (rr_eq rfl rfl rfl)
def okFlag (ds : List D) (Q : D → Prop) : Prop := ∃ b c : Bool, ds = [.bl b, .bl c] ∧ Q = fun d => d = .bl (decide (b = c))
theorem ok41 (F : FnP K "_law_flag" (top 41) f fd) (T : Tx mg) : FnOk P w K mg base CX0 1 f fd A41 (spN okFlag) := by
  refine fn_data F sc41 (fun ds Q ⟨_, _, h, _⟩ => by rw [h]; rfl) fun cdv A outer s H E W ds Q B hr h => ?_
  obtain ⟨b, c, rfl, rfl⟩ := h
  exact ss_ret (ed_and (ed_isBl T.isinst T.bool (ed_var 0) rfl) fun _ => ed_one (ed_eqB (ed_var 0) (ed_var 1))) rfl (show D.bl _ = D.bl _ by simp [isBl])
theorem ok51 (F : FnP K "_law_is_int" (top 51) f fd) (T : Tx mg) : FnOk P w K mg base CX0 1 f fd A51 (spN okWithin) := by
  refine fn_data F sc51 (fun ds Q ⟨_, _, _, h, _⟩ => by rw [h]; rfl) fun cdv A outer s H E W ds Q B hr h => ?_
  obtain ⟨d, lo, hi, rfl, hk, rfl⟩ := h
  by_cases q : (isInt d && !isBl d) = true
  · obtain ⟨i, rfl⟩ := integer_is q
    exact ss_ret (ed_and (ed_isInt T.isinst T.int (ed_var 0) hk) fun _ => ed_and (ed_not (ed_isBl T.isinst T.bool (ed_var 0) hk)) fun _ => ed_and (ed_le (ed_var 1) (ed_var 0)) fun _ => ed_one (ed_le (ed_var 0) (ed_var 2))) rfl (show D.bl _ = D.bl _ by simp [isInt, isBl, withinD])
  · have z : D.bl (withinD d lo hi) = .bl (isInt d && ((!isBl d) && false)) := by cases d <;> first | rfl | (exfalso; exact q rfl)
    rw [z]
    exact ss_ret (ed_and (ed_isInt T.isinst T.int (ed_var 0) hk) fun h1 => ed_and (ed_not (ed_isBl T.isinst T.bool (ed_var 0) hk)) fun h2 => absurd (by rw [h1, h2]; rfl) q)
/-! ### parted -/
def ordsL (S : List (List Nat)) : D := .lst (S.map .ord)
def ordsT (S : List (List Nat)) : D := .tup (S.map .ord)
def okParted (ds : List D) (Q : D → Prop) : Prop := ∃ (n : Nat) (S : List (List Nat)) (a b : Nat), ds = [ordsL S, natD a, natD b] ∧ Perms n S ∧ a < n ∧ b < n ∧ S.length ≤ 1000 ∧ Q = fun d => d = .tup [ordsL (K14.fst S a b), ordsL (K14.fst S b a)]
theorem fst_le (S : List (List Nat)) (a b : Nat) : (K14.fst S a b).length ≤ S.length := List.length_filter_le _ _
theorem ok59 (F : FnP K "_law_parted" (top 59) f fd) (T : Tx mg) : FnOk P w K mg base CX0 1 f fd A59 (spN okParted) := by
  refine fn_data F sc59 (fun ds Q ⟨_, _, _, _, h, _⟩ => by rw [h]; rfl) fun cdv A outer s H E W ds Q B hr h => ?_
  obtain ⟨n, S, a, b, rfl, hp, ha, hb, hl, rfl⟩ := h
  refine ss_lc (i := 3) (lj_filter1A 4 S .ord (fun o => decide (o.idxOf a < o.idxOf b)) .ord (lcS 3 sc59.nd (blkOk_by (N := N59) (sc := defScope (top 59)) (by decide +kernel))) (id_lst (ed_var 0)) (by omega) (fun _ _ _ _ _ => pg_name sc59.nd rfl (Or.inl rfl))
    (fun o ho ys L nL s H C cl fp => tb_ltN (ed_indexO (ed_var 4) (ed_var 1) ((perm_mem (hp o ho)).mpr ha)) (ed_indexO (ed_var 4) (ed_var 2) ((perm_mem (hp o ho)).mpr hb))) (fun o ho _ ys L nL s H C cl fp => ed_var 4)) fun d hd => ?_
  subst hd
  exact ss_ret (ed_tup (ad_cons (ed_var 3) (ad_cons (ed_filter1A 4 S .ord (fun o => decide (o.idxOf b < o.idxOf a)) .ord rfl sc59.nd (id_lst (ed_var 0)) (blkOk_by (N := N59) (sc := defScope (top 59)) (by decide +kernel)) (by omega) (fun _ _ _ _ _ => pg_name sc59.nd rfl (Or.inl rfl))
    (fun o ho ys L nL s H C cl fp => tb_gtN (ed_indexO (ed_var 4) (ed_var 1) ((perm_mem (hp o ho)).mpr ha)) (ed_indexO (ed_var 4) (ed_var 2) ((perm_mem (hp o ho)).mpr hb))) (fun o ho _ ys L nL s H C cl fp => ed_var 4)) ad_nil)) (Nat.le_of_ble_eq_true rfl))
/-! ### all orders -/
theorem allL_len : ∀ n, (allL (n + 1)).length = (n + 1) * (allL n).length := by
  intro n
  have h : ∀ o ∈ allL n, (ins1 n o).length = n + 1 := fun o ho => by
    unfold ins1
    rw [List.length_map, List.length_range, perm_len (mem_allL.mp ho)]
  have go : ∀ S : List (List Nat), (∀ o ∈ S, (ins1 n o).length = n + 1) → (S.flatMap (ins1 n)).length = (n + 1) * S.length := by
    intro S
    induction S with
    | nil => intro _; rfl
    | cons o S ih =>
      intro hS
      rw [List.flatMap_cons, List.length_append, ih fun x hx => hS x (List.mem_cons_of_mem _ hx), hS o List.mem_cons_self, List.length_cons, Nat.mul_succ, Nat.add_comm]
  exact go (allL n) h
theorem allL_le {n : Nat} (h : n ≤ 5) : (allL n).length ≤ 120 := by
  have h0 : (allL 0).length = 1 := rfl
  have h1 := allL_len 0
  have h2 := allL_len 1
  have h3 := allL_len 2
  have h4 := allL_len 3
  have h5 := allL_len 4
  rw [h0] at h1
  rw [h1] at h2
  rw [h2] at h3
  rw [h3] at h4
  rw [h4] at h5
  match n, h with
  | 0, _ => rw [h0]; decide
  | 1, _ => rw [h1]; decide
  | 2, _ => rw [h2]; decide
  | 3, _ => rw [h3]; decide
  | 4, _ => rw [h4]; decide
  | 5, _ => rw [h5]; decide

def prsD (prs : List (Nat × Nat)) : List D := prs.map fun p => .tup [natD p.1, natD p.2]
def okOrders (ds : List D) (Q : D → Prop) : Prop := ∃ (n : Nat) (prs : List (Nat × Nat)), (ds = [natD n, .tup (prsD prs)] ∨ ds = [natD n, .lst (prsD prs)]) ∧ n ≤ 5 ∧ prs.length ≤ 1000 ∧ (∀ p ∈ prs, p.1 < n ∧ p.2 < n) ∧ Q = fun d => d = ordsL (ordL n prs)
theorem filter_snoc {α : Type} {p : α → Bool} {l : List α} {i : Nat} {x : α} (h : l[i]? = some x) : (l.take (i + 1)).filter p = (l.take i).filter p ++ if p x then [x] else [] := by
  rw [take_succ_get h, List.filter_append]
  cases hp : p x <;> simp [hp]
theorem ok57 (F : FnP K "_law_orders" (top 57) f fd) (T : Tx mg) : FnOk P w K mg base CX0 1 f fd A57 (spN okOrders) := by
  refine fn_data F sc57 (fun ds Q ⟨_, _, h, _⟩ => by rcases h with h | h <;> (rw [h]; rfl)) fun cdv A outer s H E W ds Q B hr h => ?_
  obtain ⟨n, prs, hds, hn, hpl, hpb, rfl⟩ := h
  obtain ⟨pd, rfl, hit⟩ : ∃ pd : D, ds = [natD n, pd] ∧ (pd = .tup (prsD prs) ∨ pd = .lst (prsD prs)) := by
    rcases hds with h | h
    · exact ⟨_, h, .inl rfl⟩
    · exact ⟨_, h, .inr rfl⟩
  clear hds
  refine ss_set 2 (d := ordsL [[]]) (ed_lst (ad_cons ed_ord0 ad_nil)) ?_ sc57.nd
  refine ss_for (α := Nat) (fun _ i a => a = i ∧ i ≤ n) (fun _ => W) (fun a => [some (natD n), some pd, some (ordsL (allL a)), none, none, none, none, none, none]) 0 rfl rfl (At B W [] [some (natD n), some pd, some (ordsL (allL n)), none, none, none, none, none, none]) PassesOwn.never rfl
    (id_range1 T.range (ed_var 0) (by omega)) (gd_name 3 sc57.nd) (fun xs _ => ⟨rfl, Nat.zero_le _⟩) (fun xs i a _ _ d _ => ⟨_, rfl⟩) (fun xs hx Γ' i x a ρ' hxi hR hp => ?_) (fun xs hx a σ H hR at_ => ?_) ?_
  · cases hp
    obtain ⟨rfl, _⟩ := hR
    subst hx
    rw [rngD_nat] at hxi
    obtain ⟨t, ht, rfl, htm⟩ := map_at hxi
    have htn : t < n := List.mem_range.mp htm
    have e : t = a := by
      have h2 := (List.getElem?_eq_some_iff.mp ht).2
      rw [List.getElem_range] at h2
      exact h2.symm
    subst e
    have hlen := allL_le (n := t) (by omega)
    have hlen2 := allL_le (n := t + 1) (by omega)
    refine ss_set 4 (d := ordsL []) (ed_lst ad_nil) ?_ sc57.nd
    refine ss_for (α := Nat) (fun _ j b => b = j) (fun _ => W) (fun b => [some (natD n), some pd, some (ordsL (allL t)), some (natD t), some (ordsL (((allL t).take b).flatMap (ins1 t))), none, none, none, none]) 0 rfl rfl
      (At B W Γ' [some (natD n), some pd, some (ordsL (allL t)), some (natD t), some (ordsL (allL (t + 1))), none, none, none, none]) PassesOwn.never rfl
      (id_lst (ed_var 2)) (gd_name 5 sc57.nd) (fun xs _ => rfl) (fun xs i a _ _ d _ => ⟨_, rfl⟩) (fun xs hx Γ2 j x b ρ' hxj hR hp => ?_) (fun xs hx b σ H hR at_ => ?_) ?_
    · cases hp
      subst hR
      subst hx
      obtain ⟨o, ho, rfl, hom⟩ := map_at hxj
      have hol := perm_len (mem_allL.mp hom)
      have hpart : (((allL t).take b).flatMap (ins1 t)).length ≤ 120 := by
        have e1 : allL (t + 1) = ((allL t).take b).flatMap (ins1 t) ++ ((allL t).drop b).flatMap (ins1 t) := by
          rw [← List.flatMap_append, List.take_append_drop]; rfl
        rw [e1, List.length_append] at hlen2
        omega
      refine ss_set 4 (d := ordsL (((allL t).take (b + 1)).flatMap (ins1 t))) (EE.is (ed_cat (ed_var 4) (ed_map1A 7 (List.range (o.length + 1)) natD (fun k => .ord (o.take k ++ [t] ++ o.drop k)) rfl sc57.nd (PIimp (id_range1 (i := (o.length : Int) + 1) T.range (ed_add (ed_lenO T.len (ed_var 5)) ed_int) (by omega)) fun σ H R ⟨ok, sl, q⟩ => ⟨ok, sl, fun J H1 Δ xs hx => q J H1 Δ xs ?_⟩) (blkOk_by (N := N57) (sc := defScope (top 57)) (by decide +kernel))
        (by rw [List.length_range]; omega) (fun _ _ _ _ _ => pg_name sc57.nd rfl (Or.inl rfl)) fun k hk ys L nL s H C cl fp => ?_) ?_) ?_) ?_ sc57.nd
      · rw [hx, show (o.length : Int) + 1 = ((o.length + 1 : Nat) : Int) by omega, rngD_nat]
      · have hk2 := List.mem_range.mp hk
        refine EE.is (ed_catO (ed_catO (ed_sliceO (ed_var 5) od_none (od_some (ed_var 7))) (ed_ord1 (ed_var 3)) ?_) (ed_sliceO (ed_var 5) (od_some (ed_var 7)) od_none) ?_) ?_
        · rw [cutN_take _ _ (by omega), List.length_take]; simp only [List.length_cons, List.length_nil]; omega
        · rw [cutN_take _ _ (by omega), cutN_drop _ _ (by omega)]; simp only [List.length_append, List.length_take, List.length_drop, List.length_cons, List.length_nil]; omega
        · rw [cutN_take _ _ (by omega), cutN_drop _ _ (by omega)]
      · rw [List.length_map, List.length_map, List.length_range]; omega
      · unfold ordsL
        rw [take_succ_get ho, List.flatMap_append, List.map_append]
        refine congrArg D.lst (congrArg (_ ++ ·) ?_)
        rw [List.flatMap_cons, List.flatMap_nil, List.append_nil]
        unfold ins1
        rw [List.map_map]; rfl
      · exact ss_nil fun σ H at_ => ⟨_, rfl, at_.forget (by repeat (first | exact Wk.nil | refine Wk.keep ?_ | refine Wk.drop ?_))⟩
    · subst hR
      subst hx
      rw [List.length_map, List.take_length] at at_
      exact at_
    · refine ss_set 2 (ed_var 4) (ss_nil fun σ H at_ => ⟨t + 1, ⟨rfl, by omega⟩, at_.forget (by repeat (first | exact Wk.nil | refine Wk.keep ?_ | refine Wk.drop ?_))⟩) sc57.nd
  · obtain ⟨rfl, _⟩ := hR
    subst hx
    rw [rngD_nat, List.length_map, List.length_range] at at_
    exact at_
  · refine ss_newL 6 (fun lr nr => ?_) sc57.nd
    have hlen := allL_le (n := n) hn
    refine ss_for (α := List (List Nat)) (fun _ i R => R = ((allL n).take i).filter (keepsB prs)) (fun R => W.add lr (ownL (R.map .ord))) (fun _ => [some (natD n), some pd, some (ordsL (allL n)), none, none, none, some (.obj lr), none, none]) [] rfl rfl
      (At B (W.add lr (ownL ((ordL n prs).map .ord))) [] [some (natD n), some pd, some (ordsL (allL n)), none, none, none, some (.obj lr), none, none]) PassesOwn.never rfl
      (id_lst (ed_var 2)) (gd_name 5 sc57.nd) (fun xs _ => rfl) (fun xs i a _ _ d _ => ⟨_, rfl⟩) (fun xs hx Γ2 j x R ρ' hxj hR hp => ?_) (fun xs hx R σ H hR at_ => ?_) ?_
    · cases hp
      subst hx
      obtain ⟨o, ho, rfl, hom⟩ := map_at hxj
      have hpo := mem_allL.mp hom
      have hRl : R.length ≤ 120 := by rw [hR]; exact Nat.le_trans (List.length_filter_le _ _) (Nat.le_trans (by rw [List.length_take]; omega) hlen)
      let bad : Nat × Nat → Bool := fun p => decide (o.idxOf p.2 ≤ o.idxOf p.1)
      have hkb : (decide (((prs.filter bad).map fun p => D.tup [natD p.1, natD p.2]).length = 0)) = keepsB prs o := by
        unfold keepsB
        rw [List.length_map]
        cases hall : prs.all fun p => decide (o.idxOf p.1 < o.idxOf p.2) with
        | true =>
          refine decide_eq_true ?_
          rw [List.length_eq_zero_iff, List.filter_eq_nil_iff]
          intro p hp hb
          have h1 := of_decide_eq_true (List.all_eq_true.mp hall p hp)
          have h2 := of_decide_eq_true hb
          omega
        | false =>
          refine decide_eq_false fun hz => ?_
          rw [List.length_eq_zero_iff, List.filter_eq_nil_iff] at hz
          have : (prs.all fun p => decide (o.idxOf p.1 < o.idxOf p.2)) = true := List.all_eq_true.mpr fun p hp => by
            have := hz p hp
            simp only [bad, decide_eq_true_eq, Nat.not_le] at this
            exact decide_eq_true this
          rw [this] at hall
          cases hall
      refine ss_if (At B (W.add lr (ownL ((((allL n).take (j + 1)).filter (keepsB prs)).map .ord))) Γ2 [some (natD n), some pd, some (ordsL (allL n)), none, none, some (.ord o), some (.obj lr), none, none])
        (tb_eqI (j := 0) (ed_lenL T.len (ed_filter1A 8 prs (fun p => D.tup [natD p.1, natD p.2]) bad (fun p => D.tup [natD p.1, natD p.2]) rfl sc57.nd (by
          rcases hit with rfl | rfl
          · exact id_tup (ed_var 1)
          · exact id_lst (ed_var 1)) (blkOk_by (N := N57) (sc := defScope (top 57)) (by decide +kernel)) (by omega) (fun _ _ _ _ _ => pg_name sc57.nd rfl (Or.inl rfl))
          (fun p hp ys L nL s H C cl fp => tb_geN (ed_indexO (ed_var 5) (ed_ixT (ed_var 8) ed_int (by decide) rfl) ((perm_mem hpo).mpr (hpb p hp).1)) (ed_indexO (ed_var 5) (ed_ixT (ed_var 8) ed_int (by decide) rfl) ((perm_mem hpo).mpr (hpb p hp).2)))
          (fun p hp _ ys L nL s H C cl fp => ed_var 8))) ed_int) (fun h => ?_) (fun h => ?_) ?_
      · refine ss_append 6 nr (ed_var 5) (by rw [List.length_map]; omega) fun d hd => ss_nil fun σ H at_ => ?_
        subst hd
        have hk : keepsB prs o = true := by
          rw [← hkb]; exact decide_eq_true (by have := of_decide_eq_true h.symm; omega)
        rw [filter_snoc ho, if_pos hk, ← hR, List.map_append]
        exact at_.forget (by repeat (first | exact Wk.nil | refine Wk.keep ?_ | refine Wk.drop ?_))
      · have hk : keepsB prs o = false := by
          rw [← hkb]; exact decide_eq_false (by have := of_decide_eq_false h.symm; omega)
        refine ss_nil fun σ H at_ => ?_
        rw [filter_snoc ho, hk, if_neg Bool.false_ne_true, List.append_nil, ← hR]
        exact at_.forget (by repeat (first | exact Wk.nil | refine Wk.keep ?_ | refine Wk.drop ?_))
      · exact ss_nil fun σ H at_ => ⟨_, rfl, at_.forget (by repeat (first | exact Wk.nil | refine Wk.keep ?_ | refine Wk.drop ?_))⟩
    · subst hx
      rw [List.length_map, List.take_length] at hR
      subst hR
      exact at_
    · refine ss_freeze 6 nr ?_
      exact ss_ret (ed_var 6)
end
end K14

set_option Elab.async false
set_option linter.all false
set_option maxRecDepth 100000
set_option maxHeartbeats 4000000
namespace K14
open PySem L2
section
variable {P : Program} {w : World} {K : PySem.W.Frag} {mg : Str → Option Value} {base : Heap} {f : Addr} {fd : FuncData}
/-! ### known pairs -/
def pairIn (n : Nat) : D → Bool
  | .tup [a, b] => withinD a 0 ((n : Int) - 1) && withinD b 0 ((n : Int) - 1)
  | _ => false
def knownB (n : Nat) : D → Bool
  | .tup ds => ds.all isPair && ds.all (pairIn n)
  | _ => false
def Fit (d : D) : Prop := kn d = true ∧ ∀ ds, d = .tup ds → ds.length ≤ 200 ∧ ∀ x ∈ ds, kn x = true ∧ ∀ ys, x = .tup ys → ∀ y ∈ ys, kn y = true
def okKnown (ds : List D) (Q : D → Prop) : Prop := ∃ (n : Nat) (d : D), ds = [natD n, d] ∧ Fit d ∧ n ≤ 1000 ∧ Q = fun z => z = .bl (knownB n d)
theorem all_pairs : ∀ {ds : List D}, ds.all isPair = true → ∃ l : List (D × D), ds = l.map fun p => .tup [p.1, p.2]
  | [], _ => ⟨[], rfl⟩
  | d :: ds, h => by
    rw [List.all_cons, Bool.and_eq_true] at h
    obtain ⟨l, rfl⟩ := all_pairs h.2
    have h1 := h.1
    unfold isPair at h1
    split at h1
    · rename_i a b
      exact ⟨(a, b) :: l, rfl⟩
    · cases h1
theorem ok29 (F : FnP K "is_known" (top 29) f fd) (T : Tx mg) (C1 : Cal P w K mg base CX0 1 "is_pair" A13 (spN okPair)) (C2 : Cal P w K mg base CX0 2 "is_within" A12 (spN okWithin)) : FnOk P w K mg base CX0 3 f fd A29 (spN okKnown) := by
  refine fn_data F sc29 (fun ds Q ⟨_, _, h, _⟩ => by rw [h]; rfl) fun cdv A outer s H E W ds Q B hr h => ?_
  obtain ⟨n, d, rfl, ⟨hk, hfit⟩, hn, rfl⟩ := h
  obtain ⟨t5, m5⟩ := T.mPairs
  by_cases hT : isTup d = true
  · obtain ⟨ds, rfl⟩ : ∃ ds, d = .tup ds := by cases d <;> first | exact ⟨_, rfl⟩ | cases hT
    obtain ⟨hl, hx⟩ := hfit ds rfl
    refine ss_skip (WB.tb (wb_or (tb_not (tb_val (ed_isTup T.isinst T.tuple (ed_var 1) hk))) fun _ => wb_or1 (tb_gt (ed_lenT T.len (ed_var 1)) (ed_gint m5)))) ?_ ?_
    · show (false || decide ((200 : Int) < ds.length)) = false
      rw [decide_eq_false (by omega)]; rfl
    · refine ss_ifr (tb_not (tb_val (ed_all (bs := ds.map isPair) rfl T.all (EE.is (ed_map1A 4 ds id (fun x => .bl (isPair x)) rfl sc29.nd (PIimp (id_tup (ed_var 1)) fun σ H R ⟨ok, sl, q⟩ => ⟨ok, sl, fun J H1 Δ xs hx => q J H1 Δ xs (by rw [hx, List.map_id])⟩) (blkOk_by (N := N29) (sc := defScope (top 29)) (by decide +kernel))
        (by omega) (fun _ _ _ _ _ => pg_name sc29.nd rfl (Or.inl rfl)) fun x hxm ys L nL s H C cl fp => ed_cal C1 (hr.mono (by decide)) pass0 (ad_cons (ed_var 4) ad_nil) ⟨x, rfl, (hx x hxm).1, rfl⟩) (congrArg D.lst (by rw [List.map_map]; rfl)))))) (fun h => ?_) fun h => ?_
      · refine ss_ret ed_bl rfl (show D.bl _ = D.bl _ from congrArg D.bl ?_)
        have : ds.all isPair = false := by
          rw [List.all_map] at h
          simpa using h
        show false = (ds.all isPair && ds.all (pairIn n))
        rw [this]; rfl
      · have hall : ds.all isPair = true := by
          rw [List.all_map] at h
          simpa using h
        obtain ⟨l, rfl⟩ := all_pairs hall
        refine ss_ret (ed_all (bs := l.map fun p => withinD p.1 0 ((n : Int) - 1) && withinD p.2 0 ((n : Int) - 1)) rfl T.all (EE.is (ed_mapA (t := .tup [2, 3]) l (fun p => .tup [p.1, p.2]) (fun p => .bl (withinD p.1 0 ((n : Int) - 1) && withinD p.2 0 ((n : Int) - 1))) rfl sc29.nd (id_tup (ed_var 1)) (blkOk_by (own := [("one", 2), ("other", 3)]) (N := N29) (sc := defScope (top 29)) (by decide +kernel))
          (fun k hk => hk) (gt_tup (K := K) [2, 3]) (by rw [List.length_map] at hl; omega) (fun a ha => ⟨_, rfl⟩) (fun s H C cl fp => (gd_tup (js := [2, 3]) rfl (gns_cons 2 (gns_cons 3 gns_nil sc29.nd) sc29.nd)).pg) fun p hp ys L ρ' nL hρ s H C cl fp => ?_) (congrArg D.lst (by rw [List.map_map]; rfl)))) rfl (show D.bl _ = D.bl _ from congrArg D.bl ?_)
        · cases hρ
          have hkp := (hx _ (List.mem_map_of_mem hp)).2 _ rfl
          exact ed_and (ed_cal C2 hr pass0 (ad_cons (ed_var 2) (ad_cons ed_int (ad_cons (ed_sub (ed_var 0) ed_int) ad_nil))) ⟨p.1, 0, _, rfl, hkp p.1 (by simp), rfl⟩) fun _ => ed_one (ed_cal C2 hr pass0 (ad_cons (ed_var 3) (ad_cons ed_int (ad_cons (ed_sub (ed_var 0) ed_int) ad_nil))) ⟨p.2, 0, _, rfl, hkp p.2 (by simp), rfl⟩)
        · show _ = ((l.map fun p => D.tup [p.1, p.2]).all isPair && (l.map fun p => D.tup [p.1, p.2]).all (pairIn n))
          rw [hall, Bool.true_and, List.all_map, List.all_map]
          rfl
  · have e : knownB n d = false := by cases d <;> first | rfl | (exfalso; exact hT rfl)
    rw [e]
    refine ss_take (WB.tb (wb_or (tb_not (tb_val (ed_isTup T.isinst T.tuple (ed_var 1) hk))) fun h => absurd (by simpa using h) hT) (u := (!isTup d) || true)) (by simp) (ss_ret ed_bl)
/-! ### what follows -/
def cOf (es : List (NestedKey × D)) (a b : Nat) : Bool := (es.lookup (prK a b)).isSome
theorem cOf_put {es : List (NestedKey × D)} {a b x y : Nat} {d : D} : cOf (putN es (prK a b) d) x y = (decide (x = a ∧ y = b) || cOf es x y) := by
  unfold cOf
  rw [putN_look]
  by_cases h : prK x y = prK a b
  · obtain ⟨h1, h2⟩ := prK_inj h
    rw [if_pos h, decide_eq_true ⟨h1, h2⟩]; rfl
  · rw [if_neg h, decide_eq_false (fun ⟨h1, h2⟩ => h (by rw [h1, h2])), Bool.false_or]
def okClosed (ds : List D) (Q : D → Prop) : Prop := ∃ (n : Nat) (prs : List (Nat × Nat)), ds = [natD n, .tup (prsD prs)] ∧ n ≤ 10 ∧ prs.length ≤ 200 ∧ (∀ p ∈ prs, p.1 < n ∧ p.2 < n) ∧
  Q = fun d => ∃ es, d = .dnk es ∧ Clo n prs (cOf es) ∧ ∀ a b c, (a, b) ∈ prs → (b, c) ∈ prs → cOf es a c = true
theorem Clo.put {n : Nat} {prs : List (Nat × Nat)} {es : List (NestedKey × D)} {a b c : Nat} {d : D} (h : Clo n prs (cOf es)) (h1 : cOf es a b = true) (h2 : cOf es b c = true) : Clo n prs (cOf (putN es (prK a c) d)) where
  all := fun p hp => by rw [cOf_put, h.all p hp, Bool.or_true]
  bnd := fun x y hxy => by
    rw [cOf_put, Bool.or_eq_true] at hxy
    rcases hxy with q | q
    · obtain ⟨rfl, rfl⟩ := of_decide_eq_true q
      exact ⟨(h.bnd _ _ h1).1, (h.bnd _ _ h2).2⟩
    · exact h.bnd x y q
  tr := fun R hR ht x y hxy => by
    rw [cOf_put, Bool.or_eq_true] at hxy
    rcases hxy with q | q
    · obtain ⟨rfl, rfl⟩ := of_decide_eq_true q
      exact ht _ _ _ (h.tr R hR ht _ _ h1) (h.tr R hR ht _ _ h2)
    · exact h.tr R hR ht x y q
theorem Clo.start {n : Nat} {prs : List (Nat × Nat)} (hb : ∀ p ∈ prs, p.1 < n ∧ p.2 < n) : Clo n prs (cOf (accN (fun p : Nat × Nat => prK p.1 p.2) (fun _ => .bl true) prs)) := by
  have hl : ∀ a b, cOf (accN (fun p : Nat × Nat => prK p.1 p.2) (fun _ => .bl true) prs) a b = true ↔ (a, b) ∈ prs := fun a b => by
    unfold cOf
    rw [accN_look (d := .bl true) prs fun _ _ _ => rfl]
    constructor
    · intro h
      split at h
      · rename_i c
        obtain ⟨p, hp, e⟩ := c
        obtain ⟨e1, e2⟩ := prK_inj e
        have : p = (a, b) := by rw [← e1, ← e2]
        rw [← this]; exact hp
      · cases h
    · intro h
      rw [if_pos ⟨(a, b), h, rfl⟩]; rfl
  exact ⟨fun p hp => (hl _ _).mpr hp, fun a b h => hb _ ((hl a b).mp h), fun R hR _ a b h => hR _ ((hl a b).mp h)⟩
theorem rng_at {n i : Nat} {x : D} (h : ((List.range n).map natD)[i]? = some x) : x = natD i ∧ i < n := by
  obtain ⟨t, ht, rfl, htm⟩ := map_at h
  have h1 := List.mem_range.mp htm
  obtain ⟨h2, h3⟩ := List.getElem?_eq_some_iff.mp ht
  rw [List.getElem_range] at h3
  subst h3
  exact ⟨rfl, h1⟩
theorem id_rangeN {X : Cx} {tg a : Expr} {W : Res} {ρ : List (Option D)} {n : Nat} {p pos : Pos} (hm : X.mg "range" = none) (ha : EE X W ρ a (natD n)) (hn : n ≤ 100000) (hg : Gl X "range" := by rfl) (hs : starEach [a] X.env = [(false, eval a X.env)] := by rfl) :
    ID X tg W ρ (.Call (.Name "range" p) [a] [] pos) (fun z => z = (List.range n).map natD) :=
  PIimp (id_range1 hm ha (by omega) hg hs) fun σ H R ⟨ok, sl, q⟩ => ⟨ok, sl, fun J H1 Δ xs hx => q J H1 Δ xs (by rw [hx, rngD_nat])⟩
/-- what the pairs to one middle have given so far -/
def Got (n : Nat) (prs : List (Nat × Nat)) (es : List (NestedKey × D)) (m a c : Nat) : Prop := ∀ x y z, (x, y) ∈ prs → (y, z) ∈ prs → (y < m ∨ (y = m ∧ (x < a ∨ (x = a ∧ z < c)))) → cOf es x z = true
theorem Got.put {n : Nat} {prs : List (Nat × Nat)} {es : List (NestedKey × D)} {m a c x y : Nat} {d : D} (g : Got n prs es m a c) : Got n prs (putN es (prK x y) d) m a c := fun p q r h1 h2 h3 => by rw [cOf_put, g p q r h1 h2 h3, Bool.or_true]
theorem ok30 (F : FnP K "closed_pairs" (top 30) f fd) (T : Tx mg) : FnOk P w K mg base CX0 1 f fd A30 (spN okClosed) := by
  refine fn_data F sc30 (fun ds Q ⟨_, _, h, _⟩ => by rw [h]; rfl) fun cdv A outer s H E W ds Q B hr h => ?_
  obtain ⟨n, prs, rfl, hn, hpl, hb, rfl⟩ := h
  have hu : (A.deeper (PyProof.Rows.envOfC "closed_pairs" (defScope (top 30)) s.heap.objs.size f cdv)).units + 9 < cLine := by have := hr.units; omega
  refine ss_dcOwn (i := 2) (dj_dcN1A 6 prs (fun p => D.tup [natD p.1, natD p.2]) (fun p => prK p.1 p.2) (fun p => D.tup [natD p.1, natD p.2]) (fun _ => .bl true) (dcS 2 hu sc30.nd (blkOk_by (N := N30) (sc := defScope (top 30)) (by decide +kernel))) (id_tup (ed_var 1)) (by omega) (fun _ _ _ _ _ => pg_name sc30.nd rfl (Or.inl rfl))
    (fun p _ => keyD_pr p.1 p.2) (fun p hp es L nL s H C cl fp => ed_var 6) (fun p hp es L nL s H C cl fp => ed_bl)) fun lf c hc nf => ?_
  subst hc
  have len0 := accN_len (kf := fun p : Nat × Nat => prK p.1 p.2) (vd := fun _ => D.bl true) prs
  refine ss_for (α := List (NestedKey × D)) (fun _ m es => Clo n prs (cOf es) ∧ Got n prs es m 0 0 ∧ es.length ≤ 200 + m * 100 ∧ m ≤ n) (fun es => W.add lf (ownN es)) (fun _ => [some (natD n), some (.tup (prsD prs)), some (.obj lf), none, none, none, none]) (accN (fun p : Nat × Nat => prK p.1 p.2) (fun _ => .bl true) prs) rfl rfl
    (fun σ H => ∃ es : List (NestedKey × D), (Clo n prs (cOf es) ∧ Got n prs es n 0 0) ∧ At B (W.add lf (ownN es)) [] [some (natD n), some (.tup (prsD prs)), some (.obj lf), none, none, none, none] σ H) PassesOwn.never rfl
    (id_rangeN T.range (ed_var 0) (by omega)) (gd_name 3 sc30.nd) (fun xs _ => ⟨Clo.start hb, fun x y z _ _ h => by omega, by omega, Nat.zero_le _⟩) (fun xs i a _ _ d _ => ⟨_, rfl⟩) (fun xs hx Γ1 m x es ρ' hxi hR hp => ?_) (fun xs hx es σ H hR at_ => ?_) ?_
  · cases hp
    subst hx
    obtain ⟨rfl, hm⟩ := rng_at hxi
    obtain ⟨r1, r2, r3, r4⟩ := hR
    refine ss_for (α := List (NestedKey × D)) (fun _ a es => Clo n prs (cOf es) ∧ Got n prs es m a 0 ∧ es.length ≤ 200 + m * 100 + a * 10 ∧ a ≤ n) (fun es => W.add lf (ownN es)) (fun _ => [some (natD n), some (.tup (prsD prs)), some (.obj lf), some (natD m), none, none, none]) es rfl rfl
      (fun σ H => ∃ es : List (NestedKey × D), (Clo n prs (cOf es) ∧ Got n prs es m n 0 ∧ es.length ≤ 200 + m * 100 + n * 10) ∧ At B (W.add lf (ownN es)) Γ1 [some (natD n), some (.tup (prsD prs)), some (.obj lf), some (natD m), none, none, none] σ H) PassesOwn.never rfl
      (id_rangeN T.range (ed_var 0) (by omega)) (gd_name 4 sc30.nd) (fun xs _ => ⟨r1, r2, by omega, Nat.zero_le _⟩) (fun xs i a _ _ d _ => ⟨_, rfl⟩) (fun xs hx Γ2 a x es ρ' hxi hR hp => ?_) (fun xs hx es σ H hR at_ => ?_) ?_
    · cases hp
      subst hx
      obtain ⟨rfl, ha⟩ := rng_at hxi
      obtain ⟨r1, r2, r3, r4⟩ := hR
      refine ss_for (α := List (NestedKey × D)) (fun _ c es => Clo n prs (cOf es) ∧ Got n prs es m a c ∧ es.length ≤ 200 + m * 100 + a * 10 + c ∧ c ≤ n) (fun es => W.add lf (ownN es)) (fun _ => [some (natD n), some (.tup (prsD prs)), some (.obj lf), some (natD m), some (natD a), none, none]) es rfl rfl
        (fun σ H => ∃ es : List (NestedKey × D), (Clo n prs (cOf es) ∧ Got n prs es m a n ∧ es.length ≤ 200 + m * 100 + a * 10 + n) ∧ At B (W.add lf (ownN es)) Γ2 [some (natD n), some (.tup (prsD prs)), some (.obj lf), some (natD m), some (natD a), none, none] σ H) PassesOwn.never rfl
        (id_rangeN T.range (ed_var 0) (by omega)) (gd_name 5 sc30.nd) (fun xs _ => ⟨r1, r2, by omega, Nat.zero_le _⟩) (fun xs i a _ _ d _ => ⟨_, rfl⟩) (fun xs hx Γ3 c x es ρ' hxi hR hp => ?_) (fun xs hx es σ H hR at_ => ?_) ?_
      · cases hp
        subst hx
        obtain ⟨rfl, hc⟩ := rng_at hxi
        obtain ⟨r1, r2, r3, r4⟩ := hR
        have hel : es.length < 16000000 := by omega
        refine ss_if (fun σ H => ∃ es : List (NestedKey × D), (Clo n prs (cOf es) ∧ Got n prs es m a (c + 1) ∧ es.length ≤ 200 + m * 100 + a * 10 + (c + 1)) ∧ At B (W.add lf (ownN es)) Γ3 [some (natD n), some (.tup (prsD prs)), some (.obj lf), some (natD m), some (natD a), some (natD c), none] σ H)
          (WB.tb (wb_and (tb_pc (pc_nin hu (ed_tup (ad_cons (ed_var 4) (ad_cons (ed_var 3) ad_nil)) (Nat.le_of_ble_eq_true rfl)) (nd_own (ed_var 2) fun H ok => ok.2) (keyD_pr a m))) fun _ => wb_and1 (tb_pc (pc_nin hu (ed_tup (ad_cons (ed_var 3) (ad_cons (ed_var 5) ad_nil)) (Nat.le_of_ble_eq_true rfl)) (nd_own (ed_var 2) fun H ok => ok.2) (keyD_pr m c)))))
          (fun h => ?_) (fun h => ?_) (SS.exP fun es' he => ss_nil fun σ H at_ => ⟨es', ⟨he.1, he.2.1, he.2.2, hc⟩, at_.forget (by repeat (first | exact Wk.nil | refine Wk.keep ?_ | refine Wk.drop ?_))⟩)
        · have h' : cOf es a m = true ∧ cOf es m c = true := by
            have := h.symm
            rw [Bool.and_eq_true] at this
            exact this
          refine ss_nput hu nf (ed_var 2) (ed_tup (ad_cons (ed_var 4) (ad_cons (ed_var 5) ad_nil)) (Nat.le_of_ble_eq_true rfl)) (keyD_pr a c) ed_bl hel (ss_nil fun σ H at_ => ⟨_, ⟨r1.put h'.1 h'.2, fun x y z h1 h2 h3 => ?_, ?_⟩, at_⟩)
          · by_cases e : y = m ∧ x = a ∧ z = c
            · obtain ⟨_, rfl, rfl⟩ := e
              rw [cOf_put, decide_eq_true ⟨rfl, rfl⟩, Bool.true_or]
            · exact r2.put x y z h1 h2 (by omega)
          · have := putN_len (es := es) (k := prK a c) (d := D.bl true)
            omega
        · refine ss_nil fun σ H at_ => ⟨es, ⟨r1, fun x y z h1 h2 h3 => ?_, by omega⟩, at_⟩
          by_cases e : y = m ∧ x = a ∧ z = c
          · obtain ⟨rfl, rfl, rfl⟩ := e
            have e1 := r1.all _ h1
            have e2 := r1.all _ h2
            have := h.symm
            rw [show (List.lookup (prK x y) es).isSome = true from e1, show (List.lookup (prK y z) es).isSome = true from e2] at this
            cases this
          · exact r2 x y z h1 h2 (by omega)
      · subst hx
        obtain ⟨r1, r2, r3, r4⟩ := hR
        rw [List.length_map, List.length_range] at r2 r3
        exact ⟨es, ⟨r1, r2, r3⟩, at_⟩
      · refine SS.exP fun es' ⟨e1, e2, e3⟩ => ss_nil fun σ H at_ => ⟨es', ⟨e1, fun x y z h1 h2 h3 => ?_, by omega, by omega⟩, at_.forget (by repeat (first | exact Wk.nil | refine Wk.keep ?_ | refine Wk.drop ?_))⟩
        have := (hb _ h2).2
        exact e2 x y z h1 h2 (by omega)
    · subst hx
      obtain ⟨r1, r2, r3, r4⟩ := hR
      rw [List.length_map, List.length_range] at r2 r3
      exact ⟨es, ⟨r1, r2, r3⟩, at_⟩
    · refine SS.exP fun es' ⟨e1, e2, e3⟩ => ss_nil fun σ H at_ => ⟨es', ⟨e1, fun x y z h1 h2 h3 => ?_, by omega, by omega⟩, at_.forget (by repeat (first | exact Wk.nil | refine Wk.keep ?_ | refine Wk.drop ?_))⟩
      have := (hb _ h1).1
      exact e2 x y z h1 h2 (by omega)
  · subst hx
    obtain ⟨r1, r2, r3, r4⟩ := hR
    rw [List.length_map, List.length_range] at r2
    exact ⟨es, ⟨r1, r2⟩, at_⟩
  · refine SS.exP fun es ⟨e1, e2⟩ => ss_freezeN 2 nf (ss_ret (ed_var 2) rfl ⟨es, rfl, e1, fun a b c h1 h2 => ?_⟩)
    have := (hb _ h1).2
    exact e2 a b c h1 h2 (by omega)

/-! ### orders_of -/
theorem nxt_le (n : Nat) (C : Nat → Nat → Bool) (o : List Nat) : (nxt n C o).length ≤ n := by
  unfold nxt rst
  refine Nat.le_trans (List.length_filter_le _ _) (Nat.le_trans (List.length_filter_le _ _) ?_)
  rw [List.length_range]; exact Nat.le_refl _
def stepO (n : Nat) (C : Nat → Nat → Bool) (o : List Nat) : List (List Nat) := (nxt n C o).map fun c => o ++ [c]
theorem flat_le (n : Nat) (C : Nat → Nat → Bool) (S : List (List Nat)) : (S.flatMap (stepO n C)).length ≤ n * S.length := by
  induction S with
  | nil => simp
  | cons o S ih =>
    have h1 : (stepO n C o).length ≤ n := by unfold stepO; rw [List.length_map]; exact nxt_le n C o
    rw [List.flatMap_cons, List.length_append, List.length_cons, Nat.mul_succ]
    omega
theorem ordP_le {n : Nat} {C : Nat → Nat → Bool} (hn : n ≤ 5) : ∀ t, t ≤ 5 → (ordP n C t).length ≤ 5 ^ t := by
  intro t
  induction t with
  | zero => intro _; exact Nat.le_refl _
  | succ t ih =>
    intro ht
    have h1 := ih (by omega)
    have h2 : (ordP n C (t + 1)).length ≤ n * (ordP n C t).length := flat_le n C _
    have h3 : n * (ordP n C t).length ≤ 5 * 5 ^ t := Nat.mul_le_mul hn h1
    rw [Nat.pow_succ]
    omega
theorem ordP_le2 {n : Nat} {C : Nat → Nat → Bool} (hn : n ≤ 5) {t : Nat} (ht : t ≤ 5) : (ordP n C t).length ≤ 3125 := by
  have h1 := ordP_le (C := C) hn t ht
  have h2 : 5 ^ t ≤ 5 ^ 5 := Nat.pow_le_pow_right (by decide) ht
  omega
def okOrdP (ds : List D) (Q : D → Prop) : Prop := ∃ (n : Nat) (es : List (NestedKey × D)), ds = [natD n, .dnk es] ∧ n ≤ 5 ∧ Q = fun d => d = ordsL (ordP n (cOf es) n)
theorem ok32 (F : FnP K "orders_of" (top 32) f fd) (T : Tx mg) : FnOk P w K mg base CX0 1 f fd A32 (spN okOrdP) := by
  refine fn_data F sc32 (fun ds Q ⟨_, _, h, _⟩ => by rw [h]; rfl) fun cdv A outer s H E W ds Q B hr h => ?_
  obtain ⟨n, es, rfl, hn, rfl⟩ := h
  have hu : (A.deeper (PyProof.Rows.envOfC "orders_of" (defScope (top 32)) s.heap.objs.size f cdv)).units + 9 < cLine := by have := hr.units; omega
  refine ss_set 2 (d := ordsL [[]]) (ed_lst (ad_cons ed_ord0 ad_nil)) ?_ sc32.nd
  refine ss_for (α := Nat) (fun _ i a => a = i ∧ i ≤ n) (fun _ => W) (fun a => [some (natD n), some (.dnk es), some (ordsL (ordP n (cOf es) a)), none, none, none, none, none, none]) 0 rfl rfl (At B W [] [some (natD n), some (.dnk es), some (ordsL (ordP n (cOf es) n)), none, none, none, none, none, none]) PassesOwn.never rfl
    (id_rangeN T.range (ed_var 0) (by omega)) (gd_name 3 sc32.nd) (fun xs _ => ⟨rfl, Nat.zero_le _⟩) (fun xs i a _ _ d _ => ⟨_, rfl⟩) (fun xs hx Γ' i x a ρ' hxi hR hp => ?_) (fun xs hx a σ H hR at_ => ?_) (ss_ret (ed_var 2))
  · cases hp
    obtain ⟨rfl, _⟩ := hR
    subst hx
    obtain ⟨rfl, htn⟩ := rng_at hxi
    have hlen := ordP_le2 (C := cOf es) hn (t := a) (by omega)
    refine ss_newL 4 (fun ll nl => ?_) sc32.nd
    refine ss_for (α := Nat) (fun _ j b => b = j) (fun b => W.add ll (ownL ((((ordP n (cOf es) a).take b).flatMap (stepO n (cOf es))).map .ord))) (fun b => [some (natD n), some (.dnk es), some (ordsL (ordP n (cOf es) a)), some (natD a), some (.obj ll), none, none, none, none]) 0 rfl rfl
      (At B (W.add ll (ownL ((ordP n (cOf es) (a + 1)).map .ord))) Γ' [some (natD n), some (.dnk es), some (ordsL (ordP n (cOf es) a)), some (natD a), some (.obj ll), none, none, none, none]) PassesOwn.never rfl
      (id_lst (ed_var 2)) (gd_name 5 sc32.nd) (fun xs _ => rfl) (fun xs i a _ _ d _ => ⟨_, rfl⟩) (fun xs hx Γ2 j x b ρ' hxj hR hp => ?_) (fun xs hx b σ H hR at_ => ?_) ?_
    · cases hp
      subst hR
      subst hx
      obtain ⟨o, ho, rfl, hom⟩ := map_at hxj
      have hol := (mem_ordP.mp hom).1
      refine ss_lc (i := 6) (lj_filter1A 7 (List.range n) natD (fun c => !decide (c ∈ o)) natD (lcS 6 sc32.nd (blkOk_by (N := N32) (sc := defScope (top 32)) (by decide +kernel))) (id_rangeN T.range (ed_var 0) (by omega)) (by rw [List.length_range]; omega) (fun _ _ _ _ _ => pg_name sc32.nd rfl (Or.inl rfl))
        (fun c hc ys L nL s H C cl fp => tb_notInN (ed_var 7) (ed_var 5)) (fun c hc _ ys L nL s H C cl fp => ed_var 7)) fun dr hdr => ?_
      replace hdr : dr = .lst ((rst n o).map natD) := hdr
      subst hdr
      have hrl : (rst n o).length ≤ 5 := by
        unfold rst
        refine Nat.le_trans (List.length_filter_le _ _) ?_
        rw [List.length_range]; exact hn
      let ac : Nat → List (List Nat) := fun k => ((ordP n (cOf es) a).take b).flatMap (stepO n (cOf es)) ++ (((rst n o).take k).filter fun c => !((rst n o).any fun x => cOf es x c)).map fun c => o ++ [c]
      have hpart : (((ordP n (cOf es) a).take b).flatMap (stepO n (cOf es))).length ≤ 5 * 3125 := by
        refine Nat.le_trans (flat_le n (cOf es) _) (Nat.mul_le_mul hn ?_)
        rw [List.length_take]; omega
      refine ss_for (α := Nat) (fun _ k c => c = k) (fun c => W.add ll (ownL ((ac c).map .ord))) (fun c => [some (natD n), some (.dnk es), some (ordsL (ordP n (cOf es) a)), some (natD a), some (.obj ll), some (.ord o), some (.lst ((rst n o).map natD)), none, none]) 0
        (by simp only [ac, List.take_zero, List.filter_nil, List.map_nil, List.append_nil]) rfl
        (At B (W.add ll (ownL ((((ordP n (cOf es) a).take (b + 1)).flatMap (stepO n (cOf es))).map .ord))) Γ2 [some (natD n), some (.dnk es), some (ordsL (ordP n (cOf es) a)), some (natD a), some (.obj ll), some (.ord o), some (.lst ((rst n o).map natD)), none, none]) PassesOwn.never rfl
        (id_lst (ed_var 6)) (gd_name 7 sc32.nd) (fun xs _ => rfl) (fun xs i a _ _ d _ => ⟨_, rfl⟩) (fun xs hx Γ3 k x c ρ' hxk hR hp => ?_) (fun xs hx c σ H hR at_ => ?_) (ss_nil fun σ H at_ => ⟨_, rfl, at_.forget (by repeat (first | exact Wk.nil | refine Wk.keep ?_ | refine Wk.drop ?_))⟩)
      · cases hp
        subst hR
        subst hx
        obtain ⟨y, hy, rfl, hym⟩ := map_at hxk
        refine ss_if (At B (W.add ll (ownL ((ac (c + 1)).map .ord))) Γ3 [some (natD n), some (.dnk es), some (ordsL (ordP n (cOf es) a)), some (natD a), some (.obj ll), some (.ord o), some (.lst ((rst n o).map natD)), some (natD y), none])
          (tb_not (tb_val (ed_any (bs := (rst n o).map fun x => cOf es x y) rfl T.any (EE.is (ed_map1A 8 (rst n o) natD (fun x => .bl (cOf es x y)) rfl sc32.nd (id_lst (ed_var 6)) (blkOk_by (N := N32) (sc := defScope (top 32)) (by decide +kernel)) (by omega) (fun _ _ _ _ _ => pg_name sc32.nd rfl (Or.inl rfl))
            fun x hx ys L nL s H C cl fp => ed_pc (pc_nin hu (ed_tup (ad_cons (ed_var 8) (ad_cons (ed_var 7) ad_nil)) (Nat.le_of_ble_eq_true rfl)) (nd_is (ed_var 1)) (keyD_pr x y))) (congrArg D.lst (by rw [List.map_map]; rfl)))))) (fun h => ?_) (fun h => ?_)
          (ss_nil fun σ H at_ => ⟨_, rfl, at_.forget (by repeat (first | exact Wk.nil | refine Wk.keep ?_ | refine Wk.drop ?_))⟩)
        · rw [List.any_map] at h
          have hac : ac (c + 1) = ac c ++ [o ++ [y]] := by
            simp only [ac]
            rw [filter_snoc hy, if_pos (show (!((rst n o).any fun x => cOf es x y)) = true from h.symm), List.map_append, List.append_assoc]; rfl
          refine ss_append 4 nl (ed_catO (ed_var 5) (ed_ord1 (ed_var 7)) (by simp only [List.length_cons, List.length_nil]; omega)) ?_ fun d hd => ss_nil fun σ H at_ => ?_
          · show ((ac c).map D.ord).length < 100000
            simp only [ac]
            have : (((rst n o).take c).filter fun c => !((rst n o).any fun x => cOf es x c)).length ≤ 5 := Nat.le_trans (List.length_filter_le _ _) (by rw [List.length_take]; omega)
            rw [List.length_map, List.length_append, List.length_map]
            omega
          · subst hd
            rw [hac, List.map_append]
            exact at_
        · rw [List.any_map] at h
          have hac : ac (c + 1) = ac c := by
            simp only [ac]
            have h' : (!((rst n o).any fun x => cOf es x y)) = false := h.symm
            rw [filter_snoc hy, h', if_neg Bool.false_ne_true, List.append_nil]
          rw [hac]
          exact ss_nil fun σ H at_ => at_
      · subst hR
        subst hx
        rw [List.length_map] at at_
        have e : ac (rst n o).length = ((ordP n (cOf es) a).take (b + 1)).flatMap (stepO n (cOf es)) := by
          simp only [ac]
          rw [List.take_length, take_succ_get ho, List.flatMap_append, List.flatMap_cons, List.flatMap_nil, List.append_nil]
          rfl
        rw [e] at at_
        exact at_
    · subst hR
      subst hx
      rw [List.length_map, List.take_length] at at_
      exact at_
    · refine ss_freeze 4 nl (ss_set 2 (ed_var 4) (ss_nil fun σ H at_ => ⟨a + 1, ⟨rfl, by omega⟩, at_.forget (by repeat (first | exact Wk.nil | refine Wk.keep ?_ | refine Wk.drop ?_))⟩) sc32.nd)
  · obtain ⟨rfl, _⟩ := hR
    subst hx
    rw [List.length_map, List.length_range] at at_
    exact at_
end
end K14

set_option Elab.async false
set_option linter.all false
set_option maxRecDepth 100000
set_option maxHeartbeats 4000000
namespace K14
open PySem L2
/-! ### == of data -/
mutual
inductive PyR : D → PyData → Prop
  | non : PyR .non .none
  | bl (b : Bool) : PyR (.bl b) (.bool b)
  | int (i : Int) : PyR (.int i) (.int i)
  | str (x : Str) : PyR (.str x) (.str x)
  | tup {ds : List D} {ps : List PyData} : PyRs ds ps → PyR (.tup ds) (.tuple ps)
inductive PyRs : List D → List PyData → Prop
  | nil : PyRs [] []
  | cons {d : D} {p : PyData} {ds : List D} {ps : List PyData} : PyR d p → PyRs ds ps → PyRs (d :: ds) (p :: ps)
end
mutual
theorem PyR.dp {K : PySem.W.Frag} {M : Ms} {H : Hp} : ∀ {d : D} {p : PyData} {v : V}, PyR d p → Rp M H v d → Dp K H v p
  | _, _, _, .non, .non => .non
  | _, _, _, .bl b, .bl _ => .bl b
  | _, _, _, .int b, .int _ => .int b
  | _, _, _, .str b, .str _ => .str b
  | _, _, _, .tup l, .tup _ e r => .tup (.inl (.inl e)) (PyRs.dps l r)
theorem PyRs.dps {K : PySem.W.Frag} {M : Ms} {H : Hp} : ∀ {d : List D} {p : List PyData} {v : List V}, PyRs d p → RpL M H v d → DpAll K H v p
  | _, _, _, .nil, .nil => .nil
  | _, _, _, .cons l ls, .cons r rs => .cons (PyR.dp l r) (PyRs.dps ls rs)
end
theorem rr_eqP {K : PySem.W.Frag} {W : Res} {x y : D} {p q : PyData} (hx : PyR x p) (hy : PyR y q) (sp : SeqAt.shaped p = true) (sq : SeqAt.shaped q = true) : RR W (rEqD K) x y (fun z => z = .bl (PyData.eqv p q)) :=
  fun v1 v2 H ok r1 r2 Q k => ⟨p, q, hx.dp r1, hy.dp r2, sp, sq, k _ _ H .refl ok rfl (.bl _)⟩
theorem rr_neP {K : PySem.W.Frag} {W : Res} {x y : D} {p q : PyData} (hx : PyR x p) (hy : PyR y q) (sp : SeqAt.shaped p = true) (sq : SeqAt.shaped q = true) : RR W (rNeD K) x y (fun z => z = .bl (!PyData.eqv p q)) :=
  fun v1 v2 H ok r1 r2 Q k => ⟨p, q, hx.dp r1, hy.dp r2, sp, sq, k _ _ H .refl ok rfl (.bl _)⟩
theorem pyR_bs : ∀ bs : List Bool, PyRs (bs.map .bl) (bs.map .bool)
  | [] => .nil
  | b :: bs => .cons (.bl b) (pyR_bs bs)
theorem eqv_bs : ∀ bs cs : List Bool, PyData.eqvAll (bs.map .bool) (cs.map .bool) = decide (bs = cs)
  | [], [] => by simp [PyData.eqvAll]
  | [], _ :: _ => by simp [PyData.eqvAll]
  | _ :: _, [] => by simp [PyData.eqvAll]
  | b :: bs, c :: cs => by
    simp only [List.map_cons, PyData.eqvAll, PyData.eqv, eqv_bs bs cs]
    by_cases h : b = c <;> by_cases h2 : bs = cs <;> simp [h, h2]
theorem lay_bs : ∀ bs : List Bool, PyData.canLayAll0 (bs.map .bool) = true
  | [] => rfl
  | b :: bs => by simp [PyData.canLayAll0, PyData.canLay0, lay_bs bs]
theorem dep_bs : ∀ bs : List Bool, PyData.depthAll (bs.map .bool) = 0
  | [] => by simp [PyData.depthAll]
  | b :: bs => by simp [PyData.depthAll, PyData.depth, dep_bs bs]
theorem shaped_bs (bs : List Bool) : SeqAt.shaped (.tuple (bs.map .bool)) = true := by
  unfold SeqAt.shaped
  rw [PyData.canLay0, lay_bs, PyData.depth, dep_bs]
  decide
section
variable {X : Cx} {W : Res} {ρ : List (Option D)} {a b : Expr} {pos : Pos} {bs cs : List Bool}
theorem ed_eqBs (hu : X.A.units + 64 < cLine) (ha : EE X W ρ a (.tup (bs.map .bl))) (hb : EE X W ρ b (.tup (cs.map .bl))) : EE X W ρ (.Compare a [.Eq] [b] pos) (.bl (decide (bs = cs))) := by
  have := ed_cmp (pos := pos) (op_eqD hu) (nomark b) ha hb (rr_eqP (.tup (pyR_bs bs)) (.tup (pyR_bs cs)) (shaped_bs bs) (shaped_bs cs))
  rw [PyData.eqv, eqv_bs] at this
  exact this
theorem tb_neBs (hu : X.A.units + 64 < cLine) (ha : EE X W ρ a (.tup (bs.map .bl))) (hb : EE X W ρ b (.tup (cs.map .bl))) : TB X W ρ (.Compare a [.NotEq] [b] pos) (!decide (bs = cs)) := by
  have := tb_cmp (pos := pos) (op_neD hu) (nomark b) ha hb (rr_neP (.tup (pyR_bs bs)) (.tup (pyR_bs cs)) (shaped_bs bs) (shaped_bs cs))
  rw [PyData.eqv, eqv_bs] at this
  exact this
theorem ed_eqNB (hu : X.A.units + 64 < cLine) (ha : EE X W ρ a .non) (hb : EE X W ρ b (.tup (cs.map .bl))) : EE X W ρ (.Compare a [.Eq] [b] pos) (.bl false) :=
  ed_cmp (pos := pos) (op_eqD hu) (nomark b) ha hb (rr_eqP .non (.tup (pyR_bs cs)) (by decide) (shaped_bs cs))
theorem tb_eqII (hu : X.A.units + 64 < cLine) {i j k l : Int} (ha : EE X W ρ a (.tup [.int i, .int j])) (hb : EE X W ρ b (.tup [.int k, .int l])) : TB X W ρ (.Compare a [.Eq] [b] pos) (decide (i = k) && decide (j = l)) := by
  have sh : ∀ i j : Int, SeqAt.shaped (.tuple [.int i, .int j]) = true := fun i j => by
    unfold SeqAt.shaped
    simp [PyData.canLay0, PyData.canLayAll0, PyData.depth, PyData.depthAll]
  have := tb_cmp (pos := pos) (op_eqD hu) (nomark b) ha hb (rr_eqP (.tup (.cons (.int i) (.cons (.int j) .nil))) (.tup (.cons (.int k) (.cons (.int l) .nil))) (sh i j) (sh k l))
  simp only [PyData.eqv, PyData.eqvAll, Bool.and_true] at this
  rw [show (i == k) = decide (i = k) from rfl, show (j == l) = decide (j = l) from rfl] at this
  exact this
end
/-! ### promises that tell of the world -/
def spW (ok : Res → List D → (D → Prop) → Prop) : Sp := fun vs H Q _ => ∃ (W : Res) (ds : List D) (P : D → Prop), W.ok H ∧ RpL W.m H vs ds ∧ ok W ds P ∧ ∀ d v H', Ext W.m H H' → W.ok H' → P d → Rp W.m H' v d → Q v H'
section
variable {P : Program} {w : World} {K : PySem.W.Frag} {mg : Str → Option Value} {base : Heap} {x qual : Str} {params : Arguments} {body : List Stmt} {scope : Scope} {f : Addr} {fd : FuncData}
theorem fn_dataW {N ps : List Str} {k : Nat} {ok : Res → List D → (D → Prop) → Prop} (F : FunD K x qual params body scope [] [] f fd) (S : FnScope N ps scope) (hlen : ∀ W ds Q, ok W ds Q → ds.length = ps.length)
    (hb : ∀ (cdv : Value) (A : Around) (outer : List Env) (s : Shared) (H : Hp) (E : XK) (W : Res) (ds : List D) (Q : D → Prop) (B : Bs), Room k (A.deeper (PyProof.Rows.envOfC qual scope s.heap.objs.size f cdv)) → ok W ds Q →
      SS (cxOf CX0 P w K mg base N qual scope f cdv A outer s H E).nox (At B W [] (ds.map some ++ List.replicate (N.length - ds.length) none)) body (FE B W Q)) : FnOk P w K mg base CX0 (k + 1) f fd ps (spW ok) := by
  refine F.ok S (fun vs H Q E h => ?_) (fun cdv A outer s H vs Q E hr h => ?_)
  · obtain ⟨W, ds, P, o, l, q, _⟩ := h
    rw [l.length]; exact hlen _ _ _ q
  · obtain ⟨W, ds, P, o, l, q, kq⟩ := h
    have z := hb cdv A outer s H E W ds P ⟨W.m, H⟩ hr q
    refine ⟨_, z.nox, ⟨.refl, o, start_sl l, fun p hp => (by cases hp), fun a m => .inl m⟩, fun σ H' h => ?_, fun v H' h => ?_, fun _ _ h => h, fun _ _ h => h⟩
    · obtain ⟨d, p, e, o', r⟩ := h
      exact kq d _ H' e o' p r
    · obtain ⟨d, p, e, o', r⟩ := h
      exact kq d _ H' e o' p r
/-- a class's method by name -/
structure CalM (P : Program) (w : World) (K : PySem.W.Frag) (mg : Str → Option Value) (base : Heap) (CX : CXT) (k : Nat) (C : Addr) (m : Str) (ps : List Str) (sp : Sp) : Prop where
  ex : ∃ f fd, FnOk P w K mg base CX k f fd ps sp ∧ Meth K C m f ∧ Binds K fd ps []
theorem CalM.mono {CX : CXT} {j k : Nat} {C : Addr} {m : Str} {ps : List Str} {sp : Sp} (c : CalM P w K mg base CX j C m ps sp) (h : j ≤ k) : CalM P w K mg base CX k C m ps sp :=
  let ⟨f, fd, a, b⟩ := c.ex; ⟨f, fd, a.mono h, b⟩
end
section
variable {X : Cx} {W : Res} {ρ : List (Option D)} {P : D → Prop} {o e : Expr} {es : List Expr} {pos apos p : Pos} {CX : CXT} {k : Nat} {ps : List Str} {okW : Res → List D → (D → Prop) → Prop} {E : XK} {m x : Str} {C : Addr} {gs : List (Str × D)} {ds : List D}
/-- o.m(e, ..) -/
theorem ed_meth {pl : Sem Bool} (c : CalM X.prog X.w X.K X.mg X.base CX k C m ps (spW okW)) (hC : Cls X.K C) (hr : Room k X.A) (hx : Passes CX X E) (ho : EE X W ρ o (.ins C gs)) (hm : gs.lookup m = none) (ha : AE X W ρ (e :: es) ds) (hok : okW W (.ins C gs :: ds) P)
    (hst : starEach (e :: es) X.env = (false, eval e X.env) :: starEach es X.env := by rfl) (hpl : (backTo pos (starEach es X.env)).any (·.1) = false := by rfl)
    (ht : eval (.Call (.Attribute o m apos) (e :: es) [] pos) X.env = (do
      let ov ← eval o X.env
      standAt apos.atName
      let (f, first) ← holding [ov] (getMethod ov m pl)
      callWith pos f first (backTo pos (starEach (e :: es) X.env)) (backToKw pos (keywordEach [] X.env))) := by rfl) : ED X W ρ (.Call (.Attribute o m apos) (e :: es) [] pos) P := by
  obtain ⟨f, fd, F, hM, hb⟩ := c.ex
  exact PEimp (pe_meth (pl := pl) ho hC hM F hr hb .nil hx ha hst hpl ht) fun σ H Q ⟨ok, sl, q⟩ => ⟨ok, sl, fun z v H1 e1 ok1 hz r1 => by
    subst hz
    obtain ⟨a, dx, fs, rfl, n, he, l⟩ := id r1.insI
    refine ⟨a, dx, fs, rfl, he, l.none hm, ok1, sl.ext e1, fun zs vs H2 e2 ok2 hz r2 => ?_⟩
    subst hz
    rw [List.append_nil]
    exact ⟨W, _, P, ok2, .cons (r1.ext e2) r2, hok, fun d v H3 e3 ok3 p r => q d v H3 ((e1.trans e2).trans e3) ok3 p r⟩⟩
theorem ed_calW (c : Cal X.prog X.w X.K X.mg X.base CX k x ps (spW okW)) (hr : Room k X.A) (hx : Passes CX X E) (ha : AE X W ρ (e :: es) ds) (hok : okW W ds P)
    (hg : Gl X x := by rfl) (hdb : (x == ("__debug__" : Str)) = false := by decide) (he : starEach (e :: es) X.env = (false, eval e X.env) :: starEach es X.env := by rfl) (hpl : (backTo pos (starEach es X.env)).any (·.1) = false := by rfl) : ED X W ρ (.Call (.Name x p) (e :: es) [] pos) P := by
  obtain ⟨f, fd, F, hm, hk, hb⟩ := c.ex
  exact PEimp (pe_call F hr hg hm hk hb .nil hx ha hdb he hpl) fun σ H Q ⟨o, sl, q⟩ => ⟨o, sl, fun ds' vs H1 e1 ok1 hd r1 => by
    subst hd
    rw [List.append_nil]
    exact ⟨W, ds', P, ok1, r1, hok, fun d v H2 e2 ok2 p r => q d v H2 (e1.trans e2) ok2 p r⟩⟩
/-- t[i], t only some tuple -/
theorem ed_ixTP {a b : Expr} {P1 : D → Prop} {i : Nat} (ha : ED X W ρ a P1) (hb : EE X W ρ b (.int (i : Int))) (h : ∀ d, P1 d → ∃ ds e, d = .tup ds ∧ ds[i]? = some e ∧ P e) (hs : PlainIx b := by exact fun _ _ => rfl) : ED X W ρ (.Subscript a b pos) P :=
  ed_ixP ix_tup hs ha hb fun x y h1 h2 => by
    subst h2
    obtain ⟨ds, e, rfl, he, pe⟩ := h x h1
    intro v1 v2 H ok r1 r2 Q q
    exact rr_ixT (Int.natCast_nonneg i) (by rw [Int.toNat_natCast]; exact he) v1 v2 H ok r1 r2 Q fun z v H' e' ok' hz r => q z v H' e' ok' (by rw [hz]; exact pe) r
end
section
variable {X : Cx} {B : Bs} {W : Res} {Γ : List (V × D)} {ρ : List (Option D)} {l : Addr} {c c' : Cell} {rest : List Stmt} {E : Ends}
theorem At.recell {σ : St} {H : Hp} (a : At B (W.add l c) Γ ρ σ H) (h : c.I (W.add l c).m H l → c'.I (W.add l c').m H l) : At B (W.add l c') Γ ρ σ H := ⟨a.ext, ⟨a.ok.1, h a.ok.2⟩, a.sl, a.gh, a.own⟩
/-- a cell that holds some one of a kind -/
def someN (Inv : List (NestedKey × D) → Prop) : Cell where
  I := fun M H a => ∃ es, Inv es ∧ (ownN es).I M H a
  dom := fun ⟨es, _, h⟩ => (ownN es).dom h
  stab := fun ⟨es, i, h⟩ q k => ⟨es, i, (ownN es).stab h q k⟩
  grow := fun ⟨es, i, h⟩ k => ⟨es, i, (ownN es).grow h k⟩
  shrink := fun ⟨es, i, h⟩ k => ⟨es, i, (ownN es).shrink h k⟩
theorem ss_open {Inv : List (NestedKey × D) → Prop} (h : ∀ es, Inv es → SS X (At B (W.add l (ownN es)) Γ ρ) rest E) : SS X (At B (W.add l (someN Inv)) Γ ρ) rest E :=
  SS.pre (Ψ := fun σ H => ∃ es, Inv es ∧ At B (W.add l (ownN es)) Γ ρ σ H) (SS.exP h) fun σ H a => by
    obtain ⟨es, i, q⟩ := id a.ok.2
    exact ⟨es, i, ⟨a.ext, ⟨a.ok.1, q⟩, a.sl, a.gh, a.own⟩⟩
theorem At.close {Inv : List (NestedKey × D) → Prop} {es : List (NestedKey × D)} {σ : St} {H : Hp} (a : At B (W.add l (ownN es)) Γ ρ σ H) (i : Inv es) : At B (W.add l (someN Inv)) Γ ρ σ H := a.recell fun h => ⟨es, i, h⟩
theorem ss_close {Inv : List (NestedKey × D) → Prop} {es : List (NestedKey × D)} (i : Inv es) (h : SS X (At B (W.add l (someN Inv)) Γ ρ) rest E) : SS X (At B (W.add l (ownN es)) Γ ρ) rest E := h.pre fun σ H a => a.close i
end
end K14

set_option Elab.async false
set_option linter.all false
set_option maxRecDepth 100000
set_option maxHeartbeats 4000000
namespace K14
open PySem L2
/-! ### how many parts there can be -/
theorem nodup_le {α : Type} [DecidableEq α] : ∀ {l L : List α}, l.Nodup → (∀ x ∈ l, x ∈ L) → l.length ≤ L.length
  | [], L, _, _ => Nat.zero_le _
  | x :: l, L, nd, h => by
    have hx : x ∈ L := h x List.mem_cons_self
    have ih := nodup_le (l := l) (L := L.erase x) (List.nodup_cons.mp nd).2 fun y hy => by
      have ne : y ≠ x := fun z => (List.nodup_cons.mp nd).1 (z ▸ hy)
      exact (List.mem_erase_of_ne ne).mpr (h y (List.mem_cons_of_mem _ hy))
    have hl := List.length_erase_of_mem hx
    have hp : 0 < L.length := List.length_pos_of_mem hx
    rw [List.length_cons]
    omega
def subs {α : Type} : List α → List (List α)
  | [] => [[]]
  | x :: l => subs l ++ (subs l).map (x :: ·)
theorem subs_len {α : Type} : ∀ l : List α, (subs l).length = 2 ^ l.length
  | [] => rfl
  | x :: l => by
    rw [subs, List.length_append, List.length_map, subs_len l, List.length_cons, Nat.pow_succ]
    omega
theorem mem_subs {α : Type} (p : α → Bool) : ∀ l : List α, l.filter p ∈ subs l
  | [] => List.mem_cons_self
  | x :: l => by
    rw [subs, List.mem_append, List.filter_cons]
    split
    · exact .inr (List.mem_map_of_mem (mem_subs p l))
    · exact .inl (mem_subs p l)
def univ (n : Nat) : List (Nat × Nat) := (List.range n).flatMap fun a => ((List.range n).filter fun b => !decide (a = b)).map fun b => (a, b)
theorem mem_univ {n : Nat} {p : Nat × Nat} : p ∈ univ n ↔ p.1 < n ∧ p.2 < n ∧ p.1 ≠ p.2 := by
  unfold univ
  rw [List.mem_flatMap]
  constructor
  · rintro ⟨a, ha, hp⟩
    obtain ⟨b, hb, rfl⟩ := List.mem_map.mp hp
    rw [List.mem_filter] at hb
    exact ⟨List.mem_range.mp ha, List.mem_range.mp hb.1, by simpa using hb.2⟩
  · rintro ⟨h1, h2, h3⟩
    exact ⟨p.1, List.mem_range.mpr h1, List.mem_map.mpr ⟨p.2, List.mem_filter.mpr ⟨List.mem_range.mpr h2, by simpa using h3⟩, rfl⟩⟩
theorem univ_le {n : Nat} (h : n ≤ 5) : (univ n).length ≤ 20 := by
  match n, h with
  | 0, _ => decide
  | 1, _ => decide
  | 2, _ => decide
  | 3, _ => decide
  | 4, _ => decide
  | 5, _ => decide
inductive Reach (n : Nat) (S0 : List (List Nat)) : List (List Nat) → Prop
  | base : Reach n S0 S0
  | step {S : List (List Nat)} {a b : Nat} : Reach n S0 S → a < n → b < n → a ≠ b → Reach n S0 (K14.fst S a b)
def satB (ps : List (Nat × Nat)) (o : List Nat) : Bool := ps.all fun p => decide (o.idxOf p.1 < o.idxOf p.2)
def cands (n : Nat) (S0 : List (List Nat)) : List (List (List Nat)) := (subs (univ n)).map fun ps => S0.filter (satB ps)
theorem cands_len {n : Nat} {S0 : List (List Nat)} (h : n ≤ 5) : (cands n S0).length ≤ 1048576 := by
  unfold cands
  rw [List.length_map, subs_len]
  exact Nat.le_trans (Nat.pow_le_pow_right (n := 2) (by decide) (univ_le h)) (by decide)
theorem Reach.form {n : Nat} {S0 S : List (List Nat)} (r : Reach n S0 S) : ∃ ps : List (Nat × Nat), (∀ p ∈ ps, p ∈ univ n) ∧ S = S0.filter (satB ps) := by
  induction r with
  | base => exact ⟨[], fun p h => (by cases h), (List.filter_eq_self.mpr fun o _ => rfl).symm⟩
  | step _ ha hb hab ih =>
    rename_i S a b _
    obtain ⟨ps, h1, rfl⟩ := ih
    refine ⟨(a, b) :: ps, fun p hp => ?_, ?_⟩
    · rcases List.mem_cons.mp hp with rfl | hp
      · exact mem_univ.mpr ⟨ha, hb, hab⟩
      · exact h1 p hp
    · unfold K14.fst
      rw [List.filter_filter]
      rfl
theorem Reach.cand {n : Nat} {S0 S : List (List Nat)} (r : Reach n S0 S) : S ∈ cands n S0 := by
  obtain ⟨ps, h1, rfl⟩ := r.form
  unfold cands
  refine List.mem_map.mpr ⟨(univ n).filter fun p => decide (p ∈ ps), mem_subs _ _, ?_⟩
  congr 1
  funext o
  unfold satB
  rw [Bool.eq_iff_iff, List.all_eq_true, List.all_eq_true]
  constructor
  · intro h p hp
    exact h p (List.mem_filter.mpr ⟨h1 p hp, decide_eq_true hp⟩)
  · intro h p hp
    exact h p (of_decide_eq_true (List.mem_filter.mp hp).2)
theorem Reach.perms {n : Nat} {S0 S : List (List Nat)} (h : Perms n S0) (r : Reach n S0 S) : Perms n S := by
  induction r with
  | base => exact h
  | step _ _ _ _ ih => exact ih.fst _ _
theorem Reach.le {n : Nat} {S0 S : List (List Nat)} (r : Reach n S0 S) : S.length ≤ S0.length := by
  induction r with
  | base => exact Nat.le_refl _
  | step _ _ _ _ ih => exact Nat.le_trans (List.length_filter_le _ _) ih
theorem keys_le {κ : Type} [DecidableEq κ] {n : Nat} {S0 : List (List Nat)} {ks : List κ} {f : List (List Nat) → κ} (hn : n ≤ 5) (nd : ks.Nodup) (h : ∀ k ∈ ks, ∃ S, Reach n S0 S ∧ k = f S) : ks.length ≤ 1048576 := by
  refine Nat.le_trans (nodup_le (L := (cands n S0).map f) nd fun k hk => ?_) (by rw [List.length_map]; exact cands_len hn)
  obtain ⟨S, r, rfl⟩ := h k hk
  exact List.mem_map_of_mem r.cand
/-! ### parts of orders -/
theorem fst_two {n : Nat} {S : List (List Nat)} (p : Perms n S) {a b : Nat} (ha : a < n) (hb : b < n) (hab : a ≠ b) : (K14.fst S a b).length + (K14.fst S b a).length = S.length := by
  induction S with
  | nil => rfl
  | cons o S ih =>
    have h := ih fun x hx => p x (List.mem_cons_of_mem _ hx)
    have po := p o List.mem_cons_self
    have ne : o.idxOf a ≠ o.idxOf b := idx_ne po ha hab
    unfold K14.fst at h ⊢
    rw [List.filter_cons, List.filter_cons]
    by_cases q : o.idxOf a < o.idxOf b
    · rw [decide_eq_true q, decide_eq_false (by omega), if_pos rfl, if_neg Bool.false_ne_true]
      simp only [List.length_cons]; omega
    · rw [decide_eq_false q, decide_eq_true (by omega), if_neg Bool.false_ne_true, if_pos rfl]
      simp only [List.length_cons]; omega
def splits (n : Nat) (S : List (List Nat)) (p : Nat × Nat) : Prop := p.1 < p.2 ∧ p.2 < n ∧ K14.fst S p.1 p.2 ≠ [] ∧ K14.fst S p.2 p.1 ≠ []
/-- what is kept of a set of orders -/
def partD (S : List (List Nat)) (p : Nat × Nat) : D := .tup [natD p.1, natD p.2, .tup ((K14.fst S p.1 p.2).map .ord), .tup ((K14.fst S p.2 p.1).map .ord)]
def BestOf (fl : List Nat → List Bool) (n : Nat) (S : List (List Nat)) (d : D) : Prop :=
  (Const fl S ∧ d = .tup [natD (lst fl n S), .non]) ∨ (¬ Const fl S ∧ ∃ p, splits n S p ∧ lst fl n S = worth fl n S p.1 p.2 ∧ d = .tup [natD (lst fl n S), partD S p])
theorem BestOf.shape {fl : List Nat → List Bool} {n : Nat} {S : List (List Nat)} {d : D} (h : BestOf fl n S d) : ∃ ds, d = .tup ds ∧ ds[0]? = some (natD (lst fl n S)) := by
  rcases h with ⟨_, rfl⟩ | ⟨_, p, _, _, rfl⟩ <;> exact ⟨_, rfl, rfl⟩
/-- what the memory holds -/
structure Memo (fl : List Nat → List Bool) (n : Nat) (S0 : List (List Nat)) (es : List (NestedKey × D)) : Prop where
  nd : (es.map (·.1)).Nodup
  keys : ∀ k ∈ es.map (·.1), ∃ S, Reach n S0 S ∧ k = ordsK S
  good : ∀ S d, es.lookup (ordsK S) = some d → BestOf fl n S d
theorem putN_keys {α : Type} {es : List (NestedKey × α)} {k : NestedKey} {d : α} : (putN es k d).map (·.1) = if (es.lookup k).isSome then es.map (·.1) else es.map (·.1) ++ [k] := by
  unfold putN
  split
  · rw [List.map_map]
    refine List.map_congr_left fun x _ => ?_
    show (if x.1 = k then (x.1, d) else x).1 = x.1
    split <;> rfl
  · rw [List.map_append]; rfl
theorem look_none {α : Type} {es : List (NestedKey × α)} {k : NestedKey} (h : (es.lookup k).isSome = false) : k ∉ es.map (·.1) := by
  induction es with
  | nil => intro z; cases z
  | cons x es ih =>
    obtain ⟨k1, d1⟩ := x
    cases h3 : (k == k1)
    · simp only [List.lookup, h3] at h
      intro z
      rcases List.mem_cons.mp z with z | z
      · have : (k == k1) = true := by simpa using z
        rw [h3] at this; cases this
      · exact ih h z
    · simp only [List.lookup, h3] at h
      cases h
theorem Memo.put {fl : List Nat → List Bool} {n : Nat} {S0 S : List (List Nat)} {es : List (NestedKey × D)} {d : D} (m : Memo fl n S0 es) (r : Reach n S0 S) (b : BestOf fl n S d) : Memo fl n S0 (putN es (ordsK S) d) where
  nd := by
    rw [putN_keys]
    split
    · exact m.nd
    · rename_i h
      have := look_none (es := es) (k := ordsK S) (eq_false_of_ne_true h)
      exact List.nodup_append.mpr ⟨m.nd, List.nodup_cons.mpr ⟨List.not_mem_nil, List.nodup_nil⟩, fun a ha b hb => by rw [List.mem_singleton.mp hb]; exact fun z => this (z ▸ ha)⟩
  keys := fun k hk => by
    rw [putN_keys] at hk
    split at hk
    · exact m.keys k hk
    · rcases List.mem_append.mp hk with hk | hk
      · exact m.keys k hk
      · exact ⟨S, r, List.mem_singleton.mp hk⟩
  good := fun S' d' h => by
    rw [putN_look] at h
    split at h
    · rename_i e
      cases h
      rw [ordsK_inj e]
      exact b
    · exact m.good S' d' h
theorem Memo.len {fl : List Nat → List Bool} {n : Nat} {S0 : List (List Nat)} {es : List (NestedKey × D)} (hn : n ≤ 5) (m : Memo fl n S0 es) : es.length ≤ 1048576 := by
  have := keys_le hn m.nd m.keys
  rwa [List.length_map] at this
theorem Memo.start {fl : List Nat → List Bool} {n : Nat} {S0 : List (List Nat)} : Memo fl n S0 [] := ⟨List.nodup_nil, fun k h => (by cases h), fun S d h => (by cases h)⟩
end K14

set_option Elab.async false
set_option linter.all false
set_option maxRecDepth 100000
set_option maxHeartbeats 4000000
namespace K14
open PySem L2
/-- the class Asking -/
structure AskC (K : PySem.W.Frag) (C : Addr) : Prop where
  cl : Cls K C
  nR : NoAttr K C "row"
  nF : NoAttr K C "flags"
  nL : NoAttr K C "least"
def askF (row : List Str) (es : List (NestedKey × D)) (l : Addr) : List (Str × D) := [(("row" : Str), .tup (row.map .str)), (("flags" : Str), .dnk es), (("least" : Str), .obj l)]
abbrev askD (C : Addr) (row : List Str) (es : List (NestedKey × D)) (l : Addr) : D := .ins C (askF row es l)
theorem askF_row {row : List Str} {es : List (NestedKey × D)} {l : Addr} : (askF row es l).lookup ("row" : Str) = some (.tup (row.map .str)) := rfl
theorem askF_flags {row : List Str} {es : List (NestedKey × D)} {l : Addr} : (askF row es l).lookup ("flags" : Str) = some (.dnk es) := rfl
theorem askF_least {row : List Str} {es : List (NestedKey × D)} {l : Addr} : (askF row es l).lookup ("least" : Str) = some (.obj l) := rfl
def Flagged (fl : List Nat → List Bool) (es : List (NestedKey × D)) (S : List (List Nat)) : Prop := ∀ o ∈ S, es.lookup (ordK o) = some (.tup ((fl o).map .bl)) ∧ (fl o).length ≤ 10
section
variable {X : Cx} {W : Res} {ρ : List (Option D)} {a b c : Expr} {pos : Pos}
theorem tb_chain {u w : Bool} {op op' : CmpOp} {r r' : R2} {x y z : D} (ho : OpR X (compareOp op) r) (ho' : OpR X (compareOp op') r') (ha : EE X W ρ a x) (hb : EE X W ρ b y) (hc : EE X W ρ c z) (hr : RR W r x y (fun d => d = .bl u)) (hr' : RR W r' y z (fun d => d = .bl w)) (hm : lastMarks [op, op'] [b, c] = false) :
    TB X W ρ (.Compare a [op, op'] [b, c] pos) (u && w) :=
  PTimp (pt_chain ho ho' ha hb hc hm) fun σ H Q ⟨ok, sl, q⟩ => ⟨ok, sl, fun d1 v1 H1 e1 ok1 h1 r1 => ⟨ok1, sl.ext e1, fun d2 v2 H2 e2 ok2 h2 r2 => by
    subst h1 h2
    refine hr v1 v2 H2 ok2 (r1.ext e2) r2 _ fun d v H3 e3 ok3 hd rd => ?_
    subst hd
    cases rd
    refine ⟨u, rfl, ?_⟩
    cases u with
    | true => exact iteT ⟨ok3, ((sl.ext e1).ext e2).ext e3, fun d4 v4 H4 e4 ok4 h4 r4 => by
        subst h4
        refine hr' v2 v4 H4 ok4 ((r2.ext e3).ext e4) r4 _ fun d v H5 e5 ok5 hd rd => ?_
        subst hd
        cases rd
        exact ⟨w, rfl, q _ H5 ((((e1.trans e2).trans e3).trans e4).trans e5) ok5 (Bool.true_and w).symm⟩⟩
    | false => exact iteF ⟨false, rfl, q _ H3 ((e1.trans e2).trans e3) ok3 rfl⟩⟩⟩
theorem tb_ltLt {i j k : Int} (ha : EE X W ρ a (.int i)) (hb : EE X W ρ b (.int j)) (hc : EE X W ρ c (.int k)) (hm : lastMarks [.Lt, .Lt] [b, c] = false := by rfl) : TB X W ρ (.Compare a [.Lt, .Lt] [b, c] pos) (decide (i < j) && decide (j < k)) := tb_chain op_lt op_lt ha hb hc rr_cmp rr_cmp hm
end
section
variable {P : Program} {w : World} {K : PySem.W.Frag} {mg : Str → Option Value} {base : Heap} {f C : Addr} {fd : FuncData}
abbrev FnM (K : PySem.W.Frag) (x q : Str) (st : Stmt) (f : Addr) (fd : FuncData) : Prop := FunD K x q (defArgs st) (defBody st) (defScope st) [] [] f fd
def ToldOf (fl : List Nat → List Bool) (S : List (List Nat)) (d : D) : Prop := (Const fl S ∧ ∃ o ∈ S, d = .tup ((fl o).map .bl)) ∨ (¬ Const fl S ∧ d = .non)
def okTold (C : Addr) (ds : List D) (Q : D → Prop) : Prop := ∃ (row : List Str) (es : List (NestedKey × D)) (l : Addr) (fl : List Nat → List Bool) (S : List (List Nat)), ds = [askD C row es l, ordsT S] ∧ S ≠ [] ∧ S.length ≤ 5000 ∧ Flagged fl es S ∧ Q = ToldOf fl S
theorem ok34_1 (F : FnM K "told" "Asking.told" (inClass (top 34) 1) f fd) (T : Tx mg) (TC : AskC K C) : FnOk P w K mg base CX0 1 f fd A34_1 (spN (okTold C)) := by
  refine fn_data F sc34_1 (fun ds Q ⟨_, _, _, _, _, h, _⟩ => by rw [h]; rfl) fun cdv A outer s H E W ds Q B hr h => ?_
  obtain ⟨row, es, l, fl, S, rfl, hS, hlen, hfl, rfl⟩ := h
  have hu : (A.deeper (PyProof.Rows.envOfC "Asking.told" (defScope (inClass (top 34) 1)) s.heap.objs.size f cdv)).units + 64 < cLine := hr.units
  have hu9 : (A.deeper (PyProof.Rows.envOfC "Asking.told" (defScope (inClass (top 34) 1)) s.heap.objs.size f cdv)).units + 9 < cLine := by have := hr.units; omega
  obtain ⟨o0, S', rfl⟩ : ∃ o0 S', S = o0 :: S' := by
    cases S with
    | nil => exact absurd rfl hS
    | cons o S => exact ⟨o, S, rfl⟩
  have h0 : o0 ∈ o0 :: S' := List.mem_cons_self
  refine ss_set 2 (d := .tup ((fl o0).map .bl)) (ed_nget hu9 (nd_is (ed_fld (ed_var 0) TC.cl TC.nF askF_flags)) (ed_ixT (ed_var 1) ed_int (by decide) rfl) (keyD_ord o0) (hfl o0 h0).1) ?_ sc34_1.nd
  refine ss_retP2 (ed_if (P := ToldOf fl (o0 :: S')) (tb_val (ed_all (bs := (o0 :: S').map fun o => decide (fl o = fl o0)) rfl T.all (EE.is (ed_map1A 3 (o0 :: S') .ord (fun o => .bl (decide (fl o = fl o0))) rfl sc34_1.nd (id_tup (ed_var 1)) (blkOk_by (N := N34_1) (sc := defScope (inClass (top 34) 1)) (by decide +kernel)) (by omega) (fun _ _ _ _ _ => pg_name sc34_1.nd rfl (Or.inl rfl))
    fun o ho ys L nL s H C' cl fp => ed_eqBs hu (ed_nget hu9 (nd_is (ed_fld (ed_var 0) TC.cl TC.nF askF_flags)) (ed_var 3) (keyD_ord o) (hfl o ho).1) (ed_var 2)) (congrArg D.lst (by rw [List.map_map]; rfl))))) (fun h => ?_) (fun h => ?_)) (fun d hd => hd) .refl
  · refine ED.imp (ed_var 2) fun d hd => ?_
    subst hd
    refine .inl ⟨fun o ho o' ho' => ?_, o0, h0, rfl⟩
    rw [List.all_map, List.all_eq_true] at h
    rw [of_decide_eq_true (h o ho), of_decide_eq_true (h o' ho')]
  · refine ED.imp ed_non fun d hd => ?_
    subst hd
    refine .inr ⟨fun c => ?_, rfl⟩
    rw [List.all_map] at h
    have : ((o0 :: S').all (id ∘ fun o => decide (fl o = fl o0))) = true := List.all_eq_true.mpr fun o ho => decide_eq_true (c o ho o0 h0)
    rw [this] at h
    cases h
/-! ### parts -/
def PartsOf (n : Nat) (S : List (List Nat)) (d : D) : Prop := ∃ l : List (Nat × Nat), d = .lst (l.map (partD S)) ∧ l.length ≤ 100 ∧ ∀ p, p ∈ l ↔ splits n S p
def okParts (C : Addr) (ds : List D) (Q : D → Prop) : Prop := ∃ (row : List Str) (es : List (NestedKey × D)) (l : Addr) (S : List (List Nat)), ds = [askD C row es l, ordsT S] ∧ row.length ≤ 5 ∧ S.length ≤ 5000 ∧ Perms row.length S ∧ Q = PartsOf row.length S
theorem rngD_from (a n : Nat) : rngD ((a : Int) + 1) (((n : Int) - ((a : Int) + 1)).toNat) = ((List.range (n - (a + 1))).map fun i => a + 1 + i).map natD := by
  unfold rngD
  rw [show ((n : Int) - ((a : Int) + 1)).toNat = n - (a + 1) by omega, List.map_map]
  refine List.map_congr_left fun i _ => ?_
  exact congrArg D.int (show (a : Int) + 1 + (i : Nat) = ((a + 1 + i : Nat) : Int) by omega)
theorem ok34_2 (F : FnM K "parts" "Asking.parts" (inClass (top 34) 2) f fd) (T : Tx mg) (TC : AskC K C) : FnOk P w K mg base CX0 1 f fd A34_2 (spN (okParts C)) := by
  refine fn_data F sc34_2 (fun ds Q ⟨_, _, _, _, h, _⟩ => by rw [h]; rfl) fun cdv A outer s H E W ds Q B hr h => ?_
  obtain ⟨row, es, l, S, rfl, hrow, hlen, hp, rfl⟩ := h
  generalize hn : row.length = n at hrow hp
  have erow : (((row.map D.str).length : Nat) : Int) = (n : Int) := by rw [List.length_map, hn]
  refine ss_newL 2 (fun lf nf => ?_) sc34_2.nd
  refine ss_for (α := List (Nat × Nat)) (fun _ i l => (∀ p, p ∈ l ↔ splits n S p ∧ p.1 < i) ∧ l.length ≤ i * 10 ∧ i ≤ n) (fun l => W.add lf (ownL (l.map (partD S)))) (fun _ => [some (askD C row es l), some (ordsT S), some (.obj lf), none, none, none, none, none]) [] rfl rfl
    (fun σ H => ∃ l' : List (Nat × Nat), ((∀ p, p ∈ l' ↔ splits n S p) ∧ l'.length ≤ 100) ∧ At B (W.add lf (ownL (l'.map (partD S)))) [] [some (askD C row es l), some (ordsT S), some (.obj lf), none, none, none, none, none] σ H) PassesOwn.never rfl
    (PIimp (id_range1 T.range (ed_lenT T.len (ed_fld (ed_var 0) TC.cl TC.nR askF_row)) (by omega)) fun σ H R ⟨ok, sl, q⟩ => ⟨ok, sl, fun J H1 Δ xs hx => q J H1 Δ xs (show xs = (List.range n).map natD by rw [hx, erow, rngD_nat])⟩) (gd_name 3 sc34_2.nd) (fun xs _ => ⟨fun p => ⟨fun h => (by cases h), fun h => (by omega)⟩, Nat.zero_le _, Nat.zero_le _⟩) (fun xs i a _ _ d _ => ⟨_, rfl⟩) (fun xs hx Γ1 i x l1 ρ' hxi hR hp' => ?_) (fun xs hx l1 σ H hR at_ => ?_) ?_
  · cases hp'
    subst hx
    obtain ⟨rfl, ha⟩ := rng_at hxi
    obtain ⟨r1, r2, r3⟩ := hR
    refine ss_for (α := List (Nat × Nat)) (fun _ j l => (∀ p, p ∈ l ↔ splits n S p ∧ (p.1 < i ∨ (p.1 = i ∧ p.2 < i + 1 + j))) ∧ l.length ≤ i * 10 + j ∧ i + 1 + j ≤ n) (fun l => W.add lf (ownL (l.map (partD S)))) (fun _ => [some (askD C row es l), some (ordsT S), some (.obj lf), some (natD i), none, none, none, none]) l1 rfl rfl
      (fun σ H => ∃ l' : List (Nat × Nat), ((∀ p, p ∈ l' ↔ splits n S p ∧ p.1 < i + 1) ∧ l'.length ≤ (i + 1) * 10) ∧ At B (W.add lf (ownL (l'.map (partD S)))) Γ1 [some (askD C row es l), some (ordsT S), some (.obj lf), some (natD i), none, none, none, none] σ H) PassesOwn.never rfl
      (PIimp (id_range2 (i := (i : Int) + 1) (j := (n : Int)) T.range (ed_add (ed_var 3) ed_int) (EE.is (ed_lenT T.len (ed_fld (ed_var 0) TC.cl TC.nR askF_row)) (congrArg D.int erow)) (by omega)) fun σ H R ⟨ok, sl, q⟩ => ⟨ok, sl, fun J H1 Δ xs hx => q J H1 Δ xs (show xs = ((List.range (n - (i + 1))).map fun k => i + 1 + k).map natD by rw [hx, rngD_from])⟩)
      (gd_name 4 sc34_2.nd) (fun xs _ => ⟨fun p => ⟨fun h => ?_, fun h => ?_⟩, by omega, by omega⟩) (fun xs i a _ _ d _ => ⟨_, rfl⟩) (fun xs hx Γ2 j x l2 ρ' hxj hR hp' => ?_) (fun xs hx l2 σ H hR at_ => ?_) ?_
    · obtain ⟨h1, h2⟩ := (r1 p).mp h
      exact ⟨h1, .inl h2⟩
    · refine (r1 p).mpr ⟨h.1, ?_⟩
      obtain ⟨⟨h1, _⟩, h2⟩ := h
      omega
    · cases hp'
      subst hx
      obtain ⟨b, hb, rfl, hbm⟩ := map_at hxj
      obtain ⟨k, hk, rfl⟩ := List.mem_map.mp hbm
      have ek : k = j := by
        rw [List.getElem?_map] at hb
        obtain ⟨k', hk', e'⟩ := Option.map_eq_some_iff.mp hb
        obtain ⟨h2, h3⟩ := List.getElem?_eq_some_iff.mp hk'
        rw [List.getElem_range] at h3
        omega
      subst ek
      have hkn := List.mem_range.mp hk
      obtain ⟨q1, q2, q3⟩ := hR
      have hbn : i + 1 + k < n := by omega
      refine ss_set 5 (d := .tup ((K14.fst S i (i + 1 + k)).map .ord)) (ed_tuple T.tuple (ed_filter1A 7 S .ord (fun o => decide (o.idxOf i < o.idxOf (i + 1 + k))) .ord rfl sc34_2.nd (id_tup (ed_var 1)) (blkOk_by (N := N34_2) (sc := defScope (inClass (top 34) 2)) (by decide +kernel)) (by omega) (fun _ _ _ _ _ => pg_name sc34_2.nd rfl (Or.inl rfl))
        (fun o ho ys L nL s H C' cl fp => tb_ltN (ed_indexO (ed_var 7) (ed_var 3) ((perm_mem (hp o ho)).mpr ha)) (ed_indexO (ed_var 7) (ed_var 4) ((perm_mem (hp o ho)).mpr hbn))) (fun o ho _ ys L nL s H C' cl fp => ed_var 7))) ?_ sc34_2.nd
      have two := fst_two hp ha hbn (by omega : i ≠ i + 1 + k)
      have hspl : (decide ((0 : Int) < (((K14.fst S i (i + 1 + k)).map D.ord).length : Nat)) && decide (((((K14.fst S i (i + 1 + k)).map D.ord).length : Nat) : Int) < (((S.map D.ord).length : Nat) : Int))) = true ↔ splits n S (i, i + 1 + k) := by
        rw [List.length_map, List.length_map, Bool.and_eq_true, decide_eq_true_iff, decide_eq_true_iff]
        unfold splits
        have e1 : ∀ T : List (List Nat), T ≠ [] ↔ 0 < T.length := fun T => (List.length_pos_iff).symm
        rw [e1, e1]
        show (_ ∧ _) ↔ (i < i + 1 + k ∧ i + 1 + k < n ∧ 0 < (K14.fst S i (i + 1 + k)).length ∧ 0 < (K14.fst S (i + 1 + k) i).length)
        omega
      refine ss_if (fun σ H => ∃ l' : List (Nat × Nat), ((∀ p, p ∈ l' ↔ splits n S p ∧ (p.1 < i ∨ (p.1 = i ∧ p.2 < i + 1 + (k + 1)))) ∧ l'.length ≤ i * 10 + (k + 1)) ∧ At B (W.add lf (ownL (l'.map (partD S)))) Γ2 [some (askD C row es l), some (ordsT S), some (.obj lf), some (natD i), none, none, none, none] σ H)
        (tb_ltLt ed_int (ed_lenT T.len (ed_var 5)) (ed_lenT T.len (ed_var 1))) (fun h => ?_) (fun h => ?_) (SS.exP fun l' hl' => ss_nil fun σ H at_ => ⟨l', ⟨hl'.1, hl'.2, by omega⟩, at_⟩)
      · have hs := hspl.mp h.symm
        refine ss_set 6 (d := .tup ((K14.fst S (i + 1 + k) i).map .ord)) (ed_tuple T.tuple (ed_filter1A 7 S .ord (fun o => decide (o.idxOf (i + 1 + k) < o.idxOf i)) .ord rfl sc34_2.nd (id_tup (ed_var 1)) (blkOk_by (N := N34_2) (sc := defScope (inClass (top 34) 2)) (by decide +kernel)) (by omega) (fun _ _ _ _ _ => pg_name sc34_2.nd rfl (Or.inl rfl))
          (fun o ho ys L nL s H C' cl fp => tb_gtN (ed_indexO (ed_var 7) (ed_var 3) ((perm_mem (hp o ho)).mpr ha)) (ed_indexO (ed_var 7) (ed_var 4) ((perm_mem (hp o ho)).mpr hbn))) (fun o ho _ ys L nL s H C' cl fp => ed_var 7))) ?_ sc34_2.nd
        refine ss_append 2 nf (ed_tup (ad_cons (ed_var 3) (ad_cons (ed_var 4) (ad_cons (ed_var 5) (ad_cons (ed_var 6) ad_nil)))) (Nat.le_of_ble_eq_true rfl)) (by rw [List.length_map]; omega) fun d hd => ?_
        subst hd
        refine ss_nil fun σ H at_ => ⟨l2 ++ [(i, i + 1 + k)], ⟨fun p => ?_, by rw [List.length_append]; simp only [List.length_cons, List.length_nil]; omega⟩, ?_⟩
        · rw [List.mem_append, q1 p, List.mem_singleton]
          constructor
          · rintro (⟨h1, h2⟩ | rfl)
            · exact ⟨h1, by omega⟩
            · exact ⟨hs, .inr ⟨rfl, by show i + 1 + k < i + 1 + (k + 1); omega⟩⟩
          · rintro ⟨h1, h2⟩
            by_cases e : p.1 = i ∧ p.2 = i + 1 + k
            · exact .inr (Prod.ext e.1 e.2)
            · exact .inl ⟨h1, by omega⟩
        · rw [List.map_append]
          exact at_.forget (by repeat (first | exact Wk.nil | refine Wk.keep ?_ | refine Wk.drop ?_))
      · refine ss_nil fun σ H at_ => ⟨l2, ⟨fun p => ?_, by omega⟩, at_.forget (by repeat (first | exact Wk.nil | refine Wk.keep ?_ | refine Wk.drop ?_))⟩
        rw [q1 p]
        constructor
        · rintro ⟨h1, h2⟩
          exact ⟨h1, by omega⟩
        · rintro ⟨h1, h2⟩
          refine ⟨h1, ?_⟩
          by_cases e : p.1 = i ∧ p.2 = i + 1 + k
          · exfalso
            have e2 : p = (i, i + 1 + k) := Prod.ext e.1 e.2
            rw [e2] at h1
            have := hspl.mpr h1
            rw [this] at h
            cases h
          · omega
    · subst hx
      obtain ⟨q1, q2, q3⟩ := hR
      rw [List.length_map, List.length_map, List.length_range] at q1 q2 q3
      refine ⟨l2, ⟨fun p => ?_, by omega⟩, at_⟩
      rw [q1 p]
      constructor
      · rintro ⟨h1, h2⟩
        exact ⟨h1, by omega⟩
      · rintro ⟨h1, h2⟩
        have := h1.2.1
        exact ⟨h1, by omega⟩
    · exact SS.exP fun l' hl' => ss_nil fun σ H at_ => ⟨l', ⟨hl'.1, hl'.2, by omega⟩, at_.forget (by repeat (first | exact Wk.nil | refine Wk.keep ?_ | refine Wk.drop ?_))⟩
  · subst hx
    obtain ⟨q1, q2, q3⟩ := hR
    rw [List.length_map, List.length_range] at q1 q2
    refine ⟨l1, ⟨fun p => ?_, by omega⟩, at_⟩
    rw [q1 p]
    constructor
    · exact fun h => h.1
    · intro h1
      have h2 := h1.1
      have h3 := h1.2.1
      exact ⟨h1, by omega⟩
  · refine SS.exP fun l' hl' => ss_freeze 2 nf (ss_retP2 (ed_var 2) (fun d hd => ?_) .refl)
    subst hd
    exact ⟨l', rfl, hl'.2, hl'.1⟩
end
end K14

set_option Elab.async false
set_option linter.all false
set_option maxRecDepth 100000
set_option maxHeartbeats 4000000
namespace K14
open PySem L2
section
variable {X : Cx} {W : Res} {ρ : List (Option D)} {a : Expr} {pos : Pos} {P : D → Prop}
theorem td_isNP (ha : ED X W ρ a P) {j : Nat} {p2 : Pos} : TD X W ρ (.Compare a [.Is] [.Constant .none j p2] pos) (fun b => ∃ d, P d ∧ b = isNon d) :=
  PTimp (pt_cmp (pc_isN ha) rfl) fun σ H Q ⟨ok, sl, q⟩ => ⟨ok, sl, fun z v H' e ok' p r => ⟨_, by rw [isNon_rp r], q _ H' e ok' ⟨z, p, rfl⟩⟩⟩
end
theorem RLe.memo {W : Res} {l : Addr} {Inv : List (NestedKey × D) → Prop} {es : List (NestedKey × D)} (i : Inv es) : RLe (W.add l (someN Inv)) (W.add l (ownN es)) := ⟨fun _ h => h, fun _ _ h => ⟨h.1, es, i, h.2⟩⟩
theorem worth_int {fl : List Nat → List Bool} {n : Nat} {S : List (List Nat)} {a b : Nat} : D.int (1 + max ((lst fl n (K14.fst S a b) : Nat) : Int) ((lst fl n (K14.fst S b a) : Nat) : Int)) = natD (worth fl n S a b) := by
  unfold worth natD
  refine congrArg D.int ?_
  omega
section
variable {P : Program} {w : World} {K : PySem.W.Frag} {mg : Str → Option Value} {base : Heap} {f C : Addr} {fd : FuncData}
structure BestIn (C : Addr) (m : Nat) (W : Res) (ds : List D) (n : Nat) (fl : List Nat → List Bool) (S : List (List Nat)) : Prop where
  ex : ∃ (W0 : Res) (l : Addr) (row : List Str) (es : List (NestedKey × D)) (S0 : List (List Nat)), W = W0.add l (someN (Memo fl n S0)) ∧ ¬ W0.m l ∧ ds = [askD C row es l, ordsT S] ∧ row.length = n ∧ n ≤ 5 ∧ S0.length ≤ 5000 ∧ Perms n S0 ∧ Reach n S0 S ∧ S ≠ [] ∧ Flagged fl es S0 ∧ sp n S ≤ m
def okBest (C : Addr) (m : Nat) (W : Res) (ds : List D) (Q : D → Prop) : Prop := ∃ (n : Nat) (fl : List Nat → List Bool) (S : List (List Nat)), BestIn C m W ds n fl S ∧ Q = BestOf fl n S
noncomputable def foundD (fl : List Nat → List Bool) (n : Nat) (S : List (List Nat)) : Option (Nat × Nat) → D
  | none => .non
  | some p => .tup [natD (worth fl n S p.1 p.2), partD S p]
theorem Flagged.reach {fl : List Nat → List Bool} {n : Nat} {es : List (NestedKey × D)} {S0 S : List (List Nat)} (h : Flagged fl es S0) (r : Reach n S0 S) : Flagged fl es S := by
  induction r with
  | base => exact h
  | step _ _ _ _ ih => exact fun o ho => ih o (mem_fst.mp ho).1
def BestStep (fl : List Nat → List Bool) (n : Nat) (S : List (List Nat)) (xs : List D) (i : Nat) (a : Option (Nat × Nat)) : Prop :=
  ∃ l : List (Nat × Nat), xs = l.map (partD S) ∧ (∀ p, p ∈ l ↔ splits n S p) ∧ ((a = none ∧ i = 0) ∨ ∃ p, a = some p ∧ p ∈ l ∧ ∀ q ∈ l.take i, worth fl n S p.1 p.2 ≤ worth fl n S q.1 q.2)
theorem ok34_3 (F : FnM K "best" "Asking.best" (inClass (top 34) 3) f fd) (T : Tx mg) (TC : AskC K C) (hM : Meth K C "best" f) (hB : Binds K fd A34_3 []) (CT : CalM P w K mg base CX0 1 C "told" A34_1 (spN (okTold C))) (CP : CalM P w K mg base CX0 1 C "parts" A34_2 (spN (okParts C))) :
    ∀ m, FnOk P w K mg base CX0 (2 + m) f fd A34_3 (spW (okBest C m)) := by
  intro m
  induction m with
  | zero => exact step 0 fun m' h => (by cases h)
  | succ m ih => exact step (m + 1) fun m' h => (by cases h; exact ih)
where
  step (m : Nat) (ih : ∀ m', m = m' + 1 → FnOk P w K mg base CX0 (2 + m') f fd A34_3 (spW (okBest C m'))) : FnOk P w K mg base CX0 (2 + m) f fd A34_3 (spW (okBest C m)) := by
    rw [show 2 + m = (1 + m) + 1 by omega]
    refine fn_dataW F sc34_3 (fun W ds Q ⟨_, _, _, ⟨_, _, _, _, _, _, _, h, _⟩, _⟩ => by rw [h]; rfl) fun cdv A outer s H E W ds Q B hr h => ?_
    obtain ⟨n, fl, S, ⟨W0, l, row, es, S0, rfl, nl, rfl, hrow, hn, hlen, hp0, hre, hS, hfl, hsp⟩, rfl⟩ := h
    have hp := hre.perms hp0
    have hle : S.length ≤ 5000 := Nat.le_trans hre.le hlen
    have hflS := hfl.reach hre
    have hr1 := hr.mono (show 1 ≤ 1 + m by omega)
    have hu9 : (A.deeper (PyProof.Rows.envOfC "Asking.best" (defScope (inClass (top 34) 3)) s.heap.objs.size f cdv)).units + 9 < cLine := by have := hr.units; omega
    refine ss_open fun es0 m0 => ?_
    refine ss_if (fun σ H => ∃ es' : List (NestedKey × D), (Memo fl n S0 es' ∧ ∃ d, es'.lookup (ordsK S) = some d) ∧ At B (W0.add l (ownN es')) [] [some (askD C row es l), some (ordsT S), none, none, none] σ H)
      (tb_pc (pc_nnot hu9 (ed_var 1) (nd_own (ed_fld (ed_var 0) TC.cl TC.nL askF_least) fun H ok => ok.2) (keyD_ords S))) (fun _ => ?_) (fun h => ?_) (SS.exP fun es' hes' => ?_)
    · refine ss_close m0 (ss_set 2 (d := .tup [.int 0, .non]) (ed_tup (ad_cons ed_int (ad_cons ed_non ad_nil)) (Nat.le_of_ble_eq_true rfl)) ?_ sc34_3.nd)
      refine ss_if (fun σ H => ∃ d, BestOf fl n S d ∧ At B (W0.add l (someN (Memo fl n S0))) [] [some (askD C row es l), some (ordsT S), some d, none, none] σ H)
        (td_isNP (ed_meth CT TC.cl hr1 pass0 (ed_var 0) rfl (ad_cons (ed_var 1) ad_nil) (P := ToldOf fl S) ⟨row, es, l, fl, S, rfl, hS, hle, hflS, rfl⟩)) (fun ht => ?_) (fun ht => ?_) (SS.exP fun d hd => ?_)
      · obtain ⟨dt, pt, et⟩ := ht
        have nc : ¬ Const fl S := by
          rcases pt with ⟨_, o, _, rfl⟩ | ⟨nc, _⟩
          · cases et
          · exact nc
        obtain ⟨x, y, hxy, hyn, hx1, hy1⟩ := exists_spl hp nc
        have hpos : 0 < sp n S := Nat.lt_of_le_of_lt (Nat.zero_le _) (sp_lt hxy hyn hx1 hy1).1
        obtain ⟨m', rfl⟩ : ∃ m', m = m' + 1 := ⟨m - 1, by omega⟩
        have CB : CalM P w K mg base CX0 (2 + m') C "best" A34_3 (spW (okBest C m')) := ⟨f, fd, ih m' rfl, hM, hB⟩
        have hr2 := hr.mono (show 2 + m' ≤ 1 + (m' + 1) by omega)
        refine ss_set 2 ed_non ?_ sc34_3.nd
        refine ss_for (α := Option (Nat × Nat)) (BestStep fl n S) (fun _ => W0.add l (someN (Memo fl n S0))) (fun a => [some (askD C row es l), some (ordsT S), some (foundD fl n S a), none, none]) none rfl rfl
          (fun σ H => ∃ d, BestOf fl n S d ∧ At B (W0.add l (someN (Memo fl n S0))) [] [some (askD C row es l), some (ordsT S), some d, none, none] σ H) PassesOwn.never rfl
          (id_lstP (P := fun xs => ∃ ll : List (Nat × Nat), xs = ll.map (partD S) ∧ ∀ p, p ∈ ll ↔ splits n S p) (ED.imp (ed_meth CP TC.cl hr1 pass0 (ed_var 0) rfl (ad_cons (ed_var 1) ad_nil) (P := PartsOf n S) ⟨row, es, l, S, rfl, by omega, hle, by rw [hrow]; exact hp, by rw [hrow]⟩) fun d ⟨ll, h1, _, h2⟩ => ⟨_, h1, ll, rfl, h2⟩)) (gd_name 3 sc34_3.nd)
          (fun xs ⟨ll, h1, h2⟩ => ⟨ll, h1, h2, .inl ⟨rfl, rfl⟩⟩) (fun xs i a _ _ d _ => ⟨_, rfl⟩) (fun xs hx Γ1 i x a ρ' hxi hR hpt => ?_) (fun xs hx a σ H hR at_ => ?_) (SS.exP fun d hd => ss_nil fun σ H at_ => ⟨d, hd, at_⟩)
        · cases hpt
          obtain ⟨ll, rfl, hll, hst⟩ := hR
          obtain ⟨p, hpi, rfl, hpm⟩ := map_at hxi
          obtain ⟨s1, s2, s3, s4⟩ := (hll p).mp hpm
          have lt1 := sp_lt s1 s2 s3 s4
          refine ss_set 4 (d := natD (worth fl n S p.1 p.2)) (EE.is (ed_add ed_int (ed_max rfl T.max
            (ed_ixTP (i := 0) (P := fun z => z = natD (lst fl n (K14.fst S p.1 p.2))) (ed_meth CB TC.cl hr2 pass0 (ed_var 0) rfl (ad_cons (ed_ixT (d := ordsT (K14.fst S p.1 p.2)) (ed_var 3) ed_int (by decide) rfl) ad_nil) (P := BestOf fl n (K14.fst S p.1 p.2)) ⟨n, fl, _, ⟨W0, l, row, es, S0, rfl, nl, rfl, hrow, hn, hlen, hp0, hre.step (by omega) s2 (by omega), s3, hfl, by omega⟩, rfl⟩) ed_int fun d hd => let ⟨ds, h1, h2⟩ := hd.shape; ⟨ds, _, h1, h2, rfl⟩)
            (ed_ixTP (i := 0) (P := fun z => z = natD (lst fl n (K14.fst S p.2 p.1))) (ed_meth CB TC.cl hr2 pass0 (ed_var 0) rfl (ad_cons (ed_ixT (d := ordsT (K14.fst S p.2 p.1)) (ed_var 3) ed_int (by decide) rfl) ad_nil) (P := BestOf fl n (K14.fst S p.2 p.1)) ⟨n, fl, _, ⟨W0, l, row, es, S0, rfl, nl, rfl, hrow, hn, hlen, hp0, hre.step s2 (by omega) (by omega), s4, hfl, by omega⟩, rfl⟩) ed_int fun d hd => let ⟨ds, h1, h2⟩ := hd.shape; ⟨ds, _, h1, h2, rfl⟩))) worth_int) ?_ sc34_3.nd
          have found : ∀ σ H, At B (W0.add l (someN (Memo fl n S0))) Γ1 [some (askD C row es l), some (ordsT S), some (foundD fl n S a), some (partD S p), some (natD (worth fl n S p.1 p.2))] σ H → (∃ q, a = some q ∧ worth fl n S q.1 q.2 ≤ worth fl n S p.1 p.2) → Lp B (BestStep fl n S (ll.map (partD S))) (fun _ => W0.add l (someN (Memo fl n S0))) (fun a => [some (askD C row es l), some (ordsT S), some (foundD fl n S a), none, none]) Γ1 (i + 1) σ H := fun σ H at_ ⟨q, ea, hq⟩ => by
            refine ⟨a, ⟨ll, rfl, hll, .inr ⟨q, ea, ?_⟩⟩, at_.forget (by repeat (first | exact Wk.nil | refine Wk.keep ?_ | refine Wk.drop ?_))⟩
            rcases hst with ⟨e1, _⟩ | ⟨q', e1, h1, h2⟩
            · rw [e1] at ea; cases ea
            · rw [e1] at ea
              cases ea
              refine ⟨h1, fun r hr => ?_⟩
              rcases (mem_take_succ hpi).mp hr with hr | rfl
              · exact h2 r hr
              · exact hq
          have took : ∀ σ H, At B (W0.add l (someN (Memo fl n S0))) Γ1 [some (askD C row es l), some (ordsT S), some (foundD fl n S (some p)), some (partD S p), some (natD (worth fl n S p.1 p.2))] σ H → (∀ q, a = some q → worth fl n S p.1 p.2 ≤ worth fl n S q.1 q.2) → Lp B (BestStep fl n S (ll.map (partD S))) (fun _ => W0.add l (someN (Memo fl n S0))) (fun a => [some (askD C row es l), some (ordsT S), some (foundD fl n S a), none, none]) Γ1 (i + 1) σ H := fun σ H at_ hq => by
            refine ⟨some p, ⟨ll, rfl, hll, .inr ⟨p, rfl, hpm, fun r hr => ?_⟩⟩, at_.forget (by repeat (first | exact Wk.nil | refine Wk.keep ?_ | refine Wk.drop ?_))⟩
            rcases (mem_take_succ hpi).mp hr with hr | rfl
            · rcases hst with ⟨_, e1⟩ | ⟨q', e1, h1, h2⟩
              · rw [e1] at hr; simp at hr
              · exact Nat.le_trans (hq q' e1) (h2 r hr)
            · exact Nat.le_refl _
          cases a with
          | none =>
            refine ss_if (Lp B (BestStep fl n S (ll.map (partD S))) (fun _ => W0.add l (someN (Memo fl n S0))) (fun a => [some (askD C row es l), some (ordsT S), some (foundD fl n S a), none, none]) Γ1 (i + 1)) (WB.tb (wb_or0 (tb_isN (ed_var 2)))) (fun _ => ?_) (fun h => (by cases h)) (ss_nil fun σ H z => z)
            exact ss_set 2 (d := foundD fl n S (some p)) (ed_tup (ad_cons (ed_var 4) (ad_cons (ed_var 3) ad_nil)) (Nat.le_of_ble_eq_true rfl)) (ss_nil fun σ H at_ => took σ H at_ fun q e => (by cases e)) sc34_3.nd
          | some q =>
            refine ss_if (Lp B (BestStep fl n S (ll.map (partD S))) (fun _ => W0.add l (someN (Memo fl n S0))) (fun a => [some (askD C row es l), some (ordsT S), some (foundD fl n S a), none, none]) Γ1 (i + 1)) (WB.tb (wb_or (tb_isN (ed_var 2)) fun _ => wb_or1 (tb_ltN (ed_var 4) (ed_ixT (d := natD (worth fl n S q.1 q.2)) (ed_var 2) ed_int (by decide) rfl)))) (fun h => ?_) (fun h => ?_) (ss_nil fun σ H z => z)
            · have h' : worth fl n S p.1 p.2 < worth fl n S q.1 q.2 := by
                have : decide (worth fl n S p.1 p.2 < worth fl n S q.1 q.2) = true := h.symm
                exact of_decide_eq_true this
              exact ss_set 2 (d := foundD fl n S (some p)) (ed_tup (ad_cons (ed_var 4) (ad_cons (ed_var 3) ad_nil)) (Nat.le_of_ble_eq_true rfl)) (ss_nil fun σ H at_ => took σ H at_ fun r e => by cases e; omega) sc34_3.nd
            · have h' : ¬ worth fl n S p.1 p.2 < worth fl n S q.1 q.2 := by
                have : decide (worth fl n S p.1 p.2 < worth fl n S q.1 q.2) = false := h.symm
                exact of_decide_eq_false this
              exact ss_nil fun σ H at_ => found σ H at_ ⟨q, rfl, by omega⟩
        · obtain ⟨ll, rfl, hll, hst⟩ := hR
          rw [List.length_map] at hst
          rcases hst with ⟨_, e1⟩ | ⟨p, rfl, hpm, hmin⟩
          · have : (x, y) ∈ ll := (hll (x, y)).mpr ⟨hxy, hyn, hx1, hy1⟩
            rw [List.eq_nil_of_length_eq_zero e1] at this
            exact absurd this List.not_mem_nil
          · obtain ⟨s1, s2, s3, s4⟩ := (hll p).mp hpm
            have hl : lst fl n S = worth fl n S p.1 p.2 := lst_min hp nc s1 s2 s3 s4 fun c d g1 g2 g3 g4 => hmin (c, d) (by rw [List.take_length]; exact (hll (c, d)).mpr ⟨g1, g2, g3, g4⟩)
            exact ⟨_, .inr ⟨nc, p, ⟨s1, s2, s3, s4⟩, hl, by rw [hl]⟩, at_.forget (by repeat (first | exact Wk.nil | refine Wk.keep ?_ | refine Wk.drop ?_))⟩
      · obtain ⟨dt, pt, et⟩ := ht
        rcases pt with ⟨c, _⟩ | ⟨_, rfl⟩
        · exact ss_nil fun σ H at_ => ⟨_, .inl ⟨c, by rw [lst_const hp c]; rfl⟩, at_⟩
        · cases et
      · refine ss_open fun es1 m1 => ?_
        have hlen1 := m1.len hn
        refine ss_nput hu9 nl (ed_fld (ed_var 0) TC.cl TC.nL askF_least) (ed_var 1) (keyD_ords S) (ed_var 2) (by omega) (ss_nil fun σ H at_ => ⟨_, ⟨m1.put hre hd, d, putN_same⟩, at_.forget (by repeat (first | exact Wk.nil | refine Wk.keep ?_ | refine Wk.drop ?_))⟩)
    · have hsome : (es0.lookup (ordsK S)).isSome = true := by
        cases q : (es0.lookup (ordsK S)).isSome with
        | true => rfl
        | false => rw [q] at h; cases h
      obtain ⟨d, hd⟩ := Option.isSome_iff_exists.mp hsome
      exact ss_nil fun σ H at_ => ⟨es0, ⟨m0, d, hd⟩, at_⟩
    · obtain ⟨m1, d, hd⟩ := hes'
      exact ss_retP2 (P' := fun z => z = d) (P := BestOf fl n S) (ed_nget hu9 (nd_own (ed_fld (ed_var 0) TC.cl TC.nL askF_least) fun H ok => ok.2) (ed_var 1) (keyD_ords S) hd) (fun z hz => by rw [hz]; exact m1.good S d hd) (RLe.memo m1)
end
end K14

set_option Elab.async false
set_option linter.all false
set_option maxRecDepth 100000
set_option maxHeartbeats 4000000
namespace K14
open PySem L2
/-! ### things -/
mutual
def fitD : D → Bool
  | .non => true
  | .bl _ => true
  | .int _ => true
  | .str _ => true
  | .tup l => fitL l
  | .lst l => fitL l
  | .dic [] => true
  | _ => false
def fitL : List D → Bool
  | [] => true
  | d :: l => fitD d && fitL l
end
/-! how wide -/
mutual
def wd : D → Nat
  | .tup xs => max xs.length (wdL xs)
  | .lst xs => max xs.length (wdL xs)
  | _ => 0
def wdL : List D → Nat
  | [] => 0
  | x :: xs => max (wd x) (wdL xs)
end
theorem wdL_bls : ∀ bs : List Bool, wdL (bs.map .bl) = 0
  | [] => by simp [wdL]
  | b :: bs => by rw [List.map_cons, wdL, wdL_bls bs]; simp [wd]
theorem wdL_mem : ∀ {l : List D} {k : Nat}, wdL l ≤ k → ∀ x ∈ l, wd x ≤ k
  | [], _, _, x, h => by cases h
  | d :: l, k, h, x, hx => by
    rw [wdL] at h
    rcases List.mem_cons.mp hx with rfl | hx
    · omega
    · exact wdL_mem (by omega) x hx
theorem wdL_of : ∀ {l : List D} {k : Nat}, (∀ x ∈ l, wd x ≤ k) → wdL l ≤ k
  | [], _, _ => by simp [wdL]
  | d :: l, k, h => by
    have h1 := h d List.mem_cons_self
    have h2 := wdL_of (l := l) (k := k) fun x hx => h x (List.mem_cons_of_mem _ hx)
    rw [wdL]; omega
theorem depL_mem : ∀ {l : List D} {k : Nat}, depL l ≤ k → ∀ x ∈ l, dep x ≤ k
  | [], _, _, x, h => by cases h
  | d :: l, k, h, x, hx => by
    rw [depL] at h
    rcases List.mem_cons.mp hx with rfl | hx
    · omega
    · exact depL_mem (by omega) x hx
theorem depL_of : ∀ {l : List D} {k : Nat}, (∀ x ∈ l, dep x ≤ k) → depL l ≤ k
  | [], _, _ => by simp [depL]
  | d :: l, k, h => by
    have h1 := h d List.mem_cons_self
    have h2 := depL_of (l := l) (k := k) fun x hx => h x (List.mem_cons_of_mem _ hx)
    rw [depL]; omega
theorem fitL_mem : ∀ {l : List D}, fitL l = true → ∀ x ∈ l, fitD x = true
  | [], _, x, h => by cases h
  | d :: l, h, x, hx => by
    rw [fitL, Bool.and_eq_true] at h
    rcases List.mem_cons.mp hx with rfl | hx
    · exact h.1
    · exact fitL_mem h.2 x hx
theorem fitL_of : ∀ {l : List D}, (∀ x ∈ l, fitD x = true) → fitL l = true
  | [], _ => rfl
  | d :: l, h => by
    rw [fitL, h d List.mem_cons_self, fitL_of fun x hx => h x (List.mem_cons_of_mem _ hx)]; rfl
theorem fit_kn {d : D} (h : fitD d = true) : kn d = true := by cases d <;> first | rfl | cases h
theorem fit_bls : ∀ bs : List Bool, fitL (bs.map .bl) = true
  | [] => rfl
  | b :: bs => by rw [List.map_cons, fitL, fit_bls bs]; rfl
theorem dep_bls : ∀ bs : List Bool, depL (bs.map .bl) = 0
  | [] => by simp [depL]
  | b :: bs => by rw [List.map_cons, depL, dep_bls bs]; simp [dep]
section
variable {P : Program} {w : World} {K : PySem.W.Frag} {mg : Str → Option Value} {base : Heap} {f C : Addr} {fd : FuncData}
def TreeOf (fl : List Nat → List Bool) (n : Nat) (S : List (List Nat)) (d : D) : Prop := dpt fl n S d = some (lst fl n S) ∧ fitD d = true ∧ dep d ≤ sp n S + 2 ∧ wd d ≤ 10
def okTree (C : Addr) (m : Nat) (W : Res) (ds : List D) (Q : D → Prop) : Prop := ∃ (n : Nat) (fl : List Nat → List Bool) (S : List (List Nat)), BestIn C m W ds n fl S ∧ Q = TreeOf fl n S
theorem ok34_4 (F : FnM K "tree" "Asking.tree" (inClass (top 34) 4) f fd) (T : Tx mg) (TC : AskC K C) (hM : Meth K C "tree" f) (hB : Binds K fd A34_4 []) (CT : CalM P w K mg base CX0 1 C "told" A34_1 (spN (okTold C))) (CB : ∀ m, CalM P w K mg base CX0 (2 + m) C "best" A34_3 (spW (okBest C m))) :
    ∀ m, FnOk P w K mg base CX0 (3 + m) f fd A34_4 (spW (okTree C m)) := by
  intro m
  induction m with
  | zero => exact step 0 fun m' h => (by cases h)
  | succ m ih => exact step (m + 1) fun m' h => (by cases h; exact ih)
where
  step (m : Nat) (ih : ∀ m', m = m' + 1 → FnOk P w K mg base CX0 (3 + m') f fd A34_4 (spW (okTree C m'))) : FnOk P w K mg base CX0 (3 + m) f fd A34_4 (spW (okTree C m)) := by
    rw [show 3 + m = (2 + m) + 1 by omega]
    refine fn_dataW F sc34_4 (fun W ds Q ⟨_, _, _, ⟨_, _, _, _, _, _, _, h, _⟩, _⟩ => by rw [h]; rfl) fun cdv A outer s H E W ds Q B hr h => ?_
    obtain ⟨n, fl, S, ⟨W0, l, row, es, S0, rfl, nl, rfl, hrow, hn, hlen, hp0, hre, hS, hfl, hsp⟩, rfl⟩ := h
    have hp := hre.perms hp0
    have hle : S.length ≤ 5000 := Nat.le_trans hre.le hlen
    have hflS := hfl.reach hre
    refine ss_setP 2 (P := fun z => (Const fl S ∧ z = .non) ∨ (¬ Const fl S ∧ ∃ p, splits n S p ∧ lst fl n S = worth fl n S p.1 p.2 ∧ z = partD S p)) (ed_ixTP (i := 1) (ed_meth (CB m) TC.cl hr pass0 (ed_var 0) rfl (ad_cons (ed_var 1) ad_nil) (P := BestOf fl n S) ⟨n, fl, S, ⟨W0, l, row, es, S0, rfl, nl, rfl, hrow, hn, hlen, hp0, hre, hS, hfl, hsp⟩, rfl⟩) ed_int fun d hd => ?_) (fun d hd => ?_) sc34_4.nd
    · rcases hd with ⟨c, rfl⟩ | ⟨nc, p, h1, h2, rfl⟩
      · exact ⟨_, _, rfl, rfl, .inl ⟨c, rfl⟩⟩
      · exact ⟨_, _, rfl, rfl, .inr ⟨nc, p, h1, h2, rfl⟩⟩
    · rcases hd with ⟨c, rfl⟩ | ⟨nc, p, ⟨s1, s2, s3, s4⟩, h2, rfl⟩
      · refine ss_take (tb_isN (ed_var 2)) rfl (ss_retP2 (P' := fun d => ∃ ds, d = .tup ds ∧ ∃ d1 r, ds = d1 :: r ∧ d1 = .str toldS ∧ ∃ d2 r2, r = d2 :: r2 ∧ ToldOf fl S d2 ∧ r2 = []) (ed_tupP (ad_consP (P1 := fun z => z = .str toldS) ed_str (ad_consP (P1 := ToldOf fl S) (ed_meth CT TC.cl (hr.mono (by omega)) pass0 (ed_var 0) rfl (ad_cons (ed_var 1) ad_nil) ⟨row, es, l, fl, S, rfl, hS, hle, hflS, rfl⟩) ad_nil)) fun ds ⟨d1, r, h1, _, d2, r2, h2, _, h3⟩ => ?_) (fun d ⟨ds, h1, d1, r, h2, h3, d2, r2, h4, h5, h6⟩ => ?_) .refl)
        · rw [h1, h2, h3]; exact Nat.le_of_ble_eq_true rfl
        · subst h1 h2 h3 h4 h6
          rcases h5 with ⟨_, o, ho, rfl⟩ | ⟨nc, _⟩
          · refine ⟨?_, ?_, ?_, ?_⟩
            · rw [lst_const hp c]
              exact dpt_told fun o' ho' => c o' ho' o ho
            · simp [fitD, fitL, fit_bls]
            · simp only [dep, depL, dep_bls]; omega
            · have := (hflS o ho).2
              simp only [wd, wdL, wdL_bls, List.length_map, List.length_cons, List.length_nil]; omega
          · exact absurd c nc
      · have lt1 := sp_lt s1 s2 s3 s4
        obtain ⟨m', rfl⟩ : ∃ m', m = m' + 1 := ⟨m - 1, by omega⟩
        have CR : CalM P w K mg base CX0 (3 + m') C "tree" A34_4 (spW (okTree C m')) := ⟨f, fd, ih m' rfl, hM, hB⟩
        have hr2 := hr.mono (show 3 + m' ≤ 2 + (m' + 1) by omega)
        refine ss_skip (tb_isN (ed_var 2)) rfl (ss_retP2 (P' := fun d => ∃ ds, d = .tup ds ∧ ∃ d1 r1, ds = d1 :: r1 ∧ d1 = natD p.1 ∧ ∃ d2 r2, r1 = d2 :: r2 ∧ d2 = natD p.2 ∧ ∃ d3 r3, r2 = d3 :: r3 ∧ TreeOf fl n (K14.fst S p.1 p.2) d3 ∧ ∃ d4 r4, r3 = d4 :: r4 ∧ TreeOf fl n (K14.fst S p.2 p.1) d4 ∧ r4 = [])
          (ed_tupP (ad_consP (P1 := fun z => z = natD p.1) (ed_ixT (ed_var 2) ed_int (by decide) rfl) (ad_consP (P1 := fun z => z = natD p.2) (ed_ixT (ed_var 2) ed_int (by decide) rfl)
            (ad_consP (P1 := TreeOf fl n (K14.fst S p.1 p.2)) (ed_meth CR TC.cl hr2 pass0 (ed_var 0) rfl (ad_cons (ed_ixT (d := ordsT (K14.fst S p.1 p.2)) (ed_var 2) ed_int (by decide) rfl) ad_nil) ⟨n, fl, _, ⟨W0, l, row, es, S0, rfl, nl, rfl, hrow, hn, hlen, hp0, hre.step (by omega) s2 (by omega), s3, hfl, by omega⟩, rfl⟩)
            (ad_consP (P1 := TreeOf fl n (K14.fst S p.2 p.1)) (ed_meth CR TC.cl hr2 pass0 (ed_var 0) rfl (ad_cons (ed_ixT (d := ordsT (K14.fst S p.2 p.1)) (ed_var 2) ed_int (by decide) rfl) ad_nil) ⟨n, fl, _, ⟨W0, l, row, es, S0, rfl, nl, rfl, hrow, hn, hlen, hp0, hre.step s2 (by omega) (by omega), s4, hfl, by omega⟩, rfl⟩) ad_nil)))) fun ds hds => ?_)
          (fun d hd => ?_) .refl)
        · obtain ⟨d1, r1, rfl, _, d2, r2, rfl, _, d3, r3, rfl, _, d4, r4, rfl, _, rfl⟩ := hds
          exact Nat.le_of_ble_eq_true rfl
        · obtain ⟨ds, rfl, d1, r1, rfl, rfl, d2, r2, rfl, rfl, d3, r3, rfl, t3, d4, r4, rfl, t4, rfl⟩ := hd
          refine ⟨?_, ?_, ?_, ?_⟩
          · rw [h2]
            exact dpt_node (by omega) s2 (by omega) s3 s4 t3.1 t4.1
          · simp [fitD, fitL, natD, t3.2.1, t4.2.1]
          · have e3 := t3.2.2.1
            have e4 := t4.2.2.1
            simp only [dep, depL, natD]
            omega
          · have e3 := t3.2.2.2
            have e4 := t4.2.2.2
            simp only [wd, wdL, natD, List.length_cons, List.length_nil]
            omega
end
end K14

set_option Elab.async false
set_option linter.all false
set_option maxRecDepth 100000
set_option maxHeartbeats 4000000
namespace K14
open PySem L2
/-! ### objects being made -/
def ownO (C : Addr) (gs : List (Str × D)) : Cell where
  I := fun M H a => ∃ dx fs, H a = some (.ins C dx fs) ∧ RpF M H fs gs
  dom := fun ⟨_, _, e, _⟩ z => by rw [e] at z; cases z
  stab := fun ⟨dx, vs, e, r⟩ q k => ⟨dx, vs, by rw [q, e], r.mono (keeps_of k)⟩
  grow := fun ⟨dx, vs, e, r⟩ k => ⟨dx, vs, e, r.mono (keeps_grow k)⟩
  shrink := fun ⟨dx, vs, e, r⟩ k => ⟨dx, vs, e, r.mono (keeps_shrink k)⟩
def putFD (f : Str) (d : D) : List (Str × D) → List (Str × D)
  | [] => [(f, d)]
  | (g, u) :: r => if g = f then (g, d) :: r else (g, u) :: putFD f d r
theorem RpF.put {M : Ms} {H : Hp} {f : Str} {v : V} {d : D} (rv : Rp M H v d) : ∀ {fs : List (Str × V)} {gs : List (Str × D)}, RpF M H fs gs → RpF M H (putF f v fs) (putFD f d gs)
  | _, _, .nil => .cons rv .nil
  | _, _, .cons (k := k) q l => by
    show RpF M H (if k = f then _ else _) (if k = f then _ else _)
    split
    · exact .cons rv l
    · exact .cons q (RpF.put rv l)
theorem RpF.length {M : Ms} {H : Hp} : ∀ {fs : List (Str × V)} {gs : List (Str × D)}, RpF M H fs gs → fs.length = gs.length
  | _, _, .nil => rfl
  | _, _, .cons q l => by rw [List.length_cons, List.length_cons, RpF.length l]
section
variable {X : Cx} {B : Bs} {W : Res} {Γ : List (V × D)} {ρ : List (Option D)} {o value : Expr} {f : Str} {pos pos' : Pos} {d : D} {rest : List Stmt} {E : Ends} {C x : Addr} {gs : List (Str × D)}
/-- o.f = value, o the object being made -/
theorem ss_fld (hl : ¬ W.m x) (ha : EE X (W.add x (ownO C gs)) ρ o (.obj x)) (hv : EE X (W.add x (ownO C gs)) ρ value d) (hC : Cls X.K C) (hn : NoAttr X.K C f) (hlen : gs.length < 1000) (h2 : SS X (At B (W.add x (ownO C (putFD f d gs))) Γ ρ) rest E)
    (hs : swapsWith value (some (.Attribute o f pos')) pos.line X.env = pure false := by rfl) : SS X (At B (W.add x (ownO C gs)) Γ ρ) (.Assign [.Attribute o f pos'] value pos :: rest) E :=
  ss_cons (ps_fld ha hv hs) (fun Dn σ H at_ kn _ _ _ => ⟨at_.ok, at_.sl, fun z v H1 e1 ok1 hz r1 => ⟨ok1, at_.sl.ext e1, fun z2 v2 H2 e2 ok2 hz2 r2 => by
    subst hz hz2
    cases r2
    obtain ⟨dx, fs, he, rf⟩ := id ok2.2
    have at2 := (at_.go e1 ok1).go e2 ok2
    have ex : Ext (W.add x (ownO C gs)).m H2 (upd H2 x (.ins C dx (putF f v fs))) := .mut (.inr rfl) he
    exact ⟨x, C, dx, fs, rfl, he, hC, hn, by rw [rf.length]; exact hlen, kn _ _ (at2.upd (c' := ownO C (putFD f z gs)) hl ⟨dx, _, upd_same, ((rf.mono ex.keeps).put ((r1.ext e2).ext ex))⟩)⟩⟩⟩) h2
/-- o.f = a new thing to be owned -/
theorem ss_fldOwn {P : Cell → Prop} (hl : ¬ W.m x) (ha : ∀ p c, P c → EE X ((W.add p c).add x (ownO C gs)) ρ o (.obj x)) (hv : EN X (W.add x (ownO C gs)) ρ value P) (hC : Cls X.K C) (hn : NoAttr X.K C f) (hlen : gs.length < 1000)
    (h2 : ∀ p c, P c → ¬ W.m p → p ≠ x → SS X (At B ((W.add p c).add x (ownO C (putFD f (.obj p) gs))) Γ ρ) rest E)
    (hs : swapsWith value (some (.Attribute o f pos')) pos.line X.env = pure false := by rfl) : SS X (At B (W.add x (ownO C gs)) Γ ρ) (.Assign [.Attribute o f pos'] value pos :: rest) E := by
  have ha' : PE X o (fun σ H Q => ∃ q : Addr × Cell, P q.2 ∧ tD ((W.add q.1 q.2).add x (ownO C gs)) ρ (fun z => z = .obj x) σ H Q) := PEex fun q => by
    by_cases c : P q.2
    · exact PEimp (ha q.1 q.2 c) fun _ _ _ z => z.2
    · exact PEimp PEnever fun _ _ _ z => c z.1
  refine ss_cons (Ψ := fun σ H => ∃ q : Addr × Cell, (P q.2 ∧ ¬ W.m q.1 ∧ q.1 ≠ x) ∧ At B ((W.add q.1 q.2).add x (ownO C (putFD f (.obj q.1) gs))) Γ ρ σ H) (ps_fld ha' hv hs) (fun Dn σ H at_ kn _ _ _ => ⟨at_.ok, at_.sl, fun p H1 c pc hp e1 ok1 => ?_⟩) (SS.exP fun q ⟨h1, h3, h4⟩ => h2 q.1 q.2 h1 h3 h4)
  have np : ¬ (W.add x (ownO C gs)).m p := (W.add x (ownO C gs)).fresh at_.ok hp
  have at1 := at_own at_ hp e1 ok1
  rw [Res.swap] at at1
  refine ⟨(p, c), pc, at1.ok, at1.sl, fun z2 v2 H2 e2 ok2 hz2 r2 => ?_⟩
  subst hz2
  cases r2
  obtain ⟨dx, fs, he, rf⟩ := id ok2.2
  have at2 := at1.go e2 ok2
  have nx : ¬ (W.add p c).m x := fun z => z.elim hl fun z => np (.inr z.symm)
  have ex : Ext ((W.add p c).add x (ownO C gs)).m H2 (upd H2 x (.ins C dx (putF f (.ref p) fs))) := .mut (.inr rfl) he
  exact ⟨x, C, dx, fs, rfl, he, hC, hn, by rw [rf.length]; exact hlen, kn _ _ ⟨(p, c), ⟨pc, fun z => np (.inl z), fun z => np (.inr z)⟩, at2.upd (c' := ownO C (putFD f (.obj p) gs)) nx ⟨dx, _, upd_same, ((rf.mono ex.keeps).put (.obj p))⟩⟩⟩
end
/-! ### what __init__ promises -/
/-- the fields gs; c: a new thing owned -/
def spI (ok : Addr → List D → List (Str × D) → Prop) : Sp := fun vs H Q _ => ∃ (W : Res) (x C : Addr) (vs' : List V) (ds : List D) (gs : List (Str × D)), vs = .ref x :: vs' ∧ ¬ W.m x ∧ (W.add x (ownO C [])).ok H ∧ RpL (W.add x (ownO C [])).m H vs' ds ∧ ok C ds gs ∧
  ∀ H', Ext (W.add x (ownO C [])).m H H' → (W.add x (ownO C gs)).ok H' → Q .non H'
def spIO (ok : Addr → List D → (Addr → List (Str × D)) → Cell → Prop) : Sp := fun vs H Q _ => ∃ (W : Res) (x C : Addr) (vs' : List V) (ds : List D) (gs : Addr → List (Str × D)) (c : Cell), vs = .ref x :: vs' ∧ ¬ W.m x ∧ (W.add x (ownO C [])).ok H ∧ RpL (W.add x (ownO C [])).m H vs' ds ∧ ok C ds gs c ∧
  ∀ H' p, Ext (W.add x (ownO C [])).m H H' → H p = none → ((W.add p c).add x (ownO C (gs p))).ok H' → Q .non H'
section
variable {P : Program} {w : World} {K : PySem.W.Frag} {mg : Str → Option Value} {base : Heap} {x qual : Str} {params : Arguments} {body : List Stmt} {scope : Scope} {f : Addr} {fd : FuncData}
theorem fn_init {N ps : List Str} {k : Nat} {ok : Addr → List D → List (Str × D) → Prop} (F : FunD K x qual params body scope [] [] f fd) (S : FnScope N ps scope) (hlen : ∀ C ds gs, ok C ds gs → ds.length + 1 = ps.length)
    (hb : ∀ (cdv : Value) (A : Around) (outer : List Env) (s : Shared) (H : Hp) (E : XK) (W : Res) (o C : Addr) (ds : List D) (gs : List (Str × D)) (B : Bs), Room k (A.deeper (PyProof.Rows.envOfC qual scope s.heap.objs.size f cdv)) → ok C ds gs → ¬ W.m o →
      SS (cxOf CX0 P w K mg base N qual scope f cdv A outer s H E).nox (At B (W.add o (ownO C [])) [] ((D.obj o :: ds).map some ++ List.replicate (N.length - (D.obj o :: ds).length) none)) body
        { nx := fun _ H' => Ext B.M B.H H' ∧ (W.add o (ownO C gs)).ok H', rt := fun _ _ => False }) : FnOk P w K mg base CX0 (k + 1) f fd ps (spI ok) := by
  refine F.ok S (fun vs H Q E h => ?_) (fun cdv A outer s H vs Q E hr h => ?_)
  · obtain ⟨W, o, C, vs', ds, gs, rfl, _, _, l, q, _⟩ := h
    rw [List.length_cons, l.length]; exact hlen _ _ _ q
  · obtain ⟨W, o, C, vs', ds, gs, rfl, no, ok1, l, q, kq⟩ := h
    have z := hb cdv A outer s H E W o C ds gs ⟨(W.add o (ownO C [])).m, H⟩ hr q no
    exact ⟨_, z.nox, ⟨.refl, ok1, start_sl (.cons (.obj o) l), fun p hp => (by cases hp), fun a m => .inl m⟩, fun σ H' h => kq H' h.1 h.2, fun v H' h => h.elim, fun _ _ h => h, fun _ _ h => h⟩
theorem fn_initO {N ps : List Str} {k : Nat} {ok : Addr → List D → (Addr → List (Str × D)) → Cell → Prop} (F : FunD K x qual params body scope [] [] f fd) (S : FnScope N ps scope) (hlen : ∀ C ds gs c, ok C ds gs c → ds.length + 1 = ps.length)
    (hb : ∀ (cdv : Value) (A : Around) (outer : List Env) (s : Shared) (H : Hp) (E : XK) (W : Res) (o C : Addr) (ds : List D) (gs : Addr → List (Str × D)) (c : Cell) (B : Bs), Room k (A.deeper (PyProof.Rows.envOfC qual scope s.heap.objs.size f cdv)) → ok C ds gs c → ¬ W.m o → (∀ a, B.M a ↔ W.m a ∨ a = o) →
      SS (cxOf CX0 P w K mg base N qual scope f cdv A outer s H E).nox (At B (W.add o (ownO C [])) [] ((D.obj o :: ds).map some ++ List.replicate (N.length - (D.obj o :: ds).length) none)) body
        { nx := fun _ H' => ∃ p, Ext B.M B.H H' ∧ B.H p = none ∧ ((W.add p c).add o (ownO C (gs p))).ok H', rt := fun _ _ => False }) : FnOk P w K mg base CX0 (k + 1) f fd ps (spIO ok) := by
  refine F.ok S (fun vs H Q E h => ?_) (fun cdv A outer s H vs Q E hr h => ?_)
  · obtain ⟨W, o, C, vs', ds, gs, c, rfl, _, _, l, q, _⟩ := h
    rw [List.length_cons, l.length]; exact hlen _ _ _ _ q
  · obtain ⟨W, o, C, vs', ds, gs, c, rfl, no, ok1, l, q, kq⟩ := h
    have z := hb cdv A outer s H E W o C ds gs c ⟨(W.add o (ownO C [])).m, H⟩ hr q no fun a => Iff.rfl
    exact ⟨_, z.nox, ⟨.refl, ok1, start_sl (.cons (.obj o) l), fun p hp => (by cases hp), fun a m => .inl m⟩, fun σ H' ⟨p, h1, h2, h3⟩ => kq H' p h1 h2 h3, fun v H' h => h.elim, fun _ _ h => h, fun _ _ h => h⟩
/-- a class by name -/
structure CalK (P : Program) (w : World) (K : PySem.W.Frag) (mg : Str → Option Value) (base : Heap) (CX : CXT) (k : Nat) (x : Str) (C : Addr) (ps : List Str) (sp : Sp) : Prop where
  ex : ∃ f fd, FnOk P w K mg base CX k f fd ps sp ∧ mg x = some (.ref C) ∧ Mk K C f ∧ Binds K fd ps []
end
section
variable {X : Cx} {W : Res} {ρ : List (Option D)} {e : Expr} {es : List Expr} {p pos : Pos} {CX : CXT} {k : Nat} {ps : List Str} {E : XK} {x : Str} {C : Addr} {ds : List D}
theorem made_ok {H1 : Hp} {a dx : Addr} (ok : W.ok H1) (ha : H1 a = none) (hd : H1 dx = none) (ne : dx ≠ a) : (W.add a (ownO C [])).ok (upd (upd H1 dx (.own a)) a (.ins C dx [])) := by
  have h1 : (upd H1 dx (.own a)) a = none := by rw [upd_ne (Ne.symm ne)]; exact ha
  exact ok_own (H := H1) (W.new ok hd) h1 ⟨dx, [], upd_same, .nil⟩
theorem made_ext {M : Ms} {H1 : Hp} {a dx : Addr} (ha : H1 a = none) (hd : H1 dx = none) (ne : dx ≠ a) : Ext M H1 (upd (upd H1 dx (.own a)) a (.ins C dx [])) :=
  (Ext.new hd).trans (.new (by rw [upd_ne (Ne.symm ne)]; exact ha))
/-- C(e, ..) -/
theorem ed_make {ok : Addr → List D → List (Str × D) → Prop} {gs : List (Str × D)} (c : CalK X.prog X.w X.K X.mg X.base CX k x C ps (spI ok)) (hr : Room (k + 1) X.A) (hx : Passes CX X E) (ha : AE X W ρ (e :: es) ds) (hok : ok C ds gs)
    (hg : Gl X x := by rfl) (hdb : (x == ("__debug__" : Str)) = false := by decide) (he : starEach (e :: es) X.env = (false, eval e X.env) :: starEach es X.env := by rfl) (hpl : (backTo pos (starEach es X.env)).any (·.1) = false := by rfl) : EE X W ρ (.Call (.Name x p) (e :: es) [] pos) (.ins C gs) := by
  obtain ⟨f, fd, F, hm, hM, hb⟩ := c.ex
  refine PEimp (pe_make hM F hr hg hm hb .nil hx ha hdb he hpl) fun σ H Q ⟨o, sl, q⟩ => ⟨o, sl, fun zs vs H1 e1 ok1 hz r1 a dx na nd ne => ?_⟩
  subst hz
  have ex : Ext W.m H1 (upd (upd H1 dx (.own a)) a (.ins C dx [])) := made_ext na nd ne
  have nW : ¬ W.m a := W.fresh ok1 na
  have k1 : Keeps W.m (W.add a (ownO C [])).m H1 (upd (upd H1 dx (.own a)) a (.ins C dx [])) := fun b u n hb => ⟨fun z => z.elim n fun z => (by rw [z, na] at hb; cases hb), ex.keep b u n hb⟩
  refine ⟨W, a, C, vs, zs, gs, by rw [List.append_nil], nW, made_ok ok1 na nd ne, r1.mono k1, hok, fun H2 e2 ok2 => ⟨rfl, ?_⟩⟩
  obtain ⟨dx', fs, hh, rf⟩ := id ok2.2
  have e3 : Ext W.m H1 H2 := ⟨fun b u n hb => e2.keep b u (k1 b u n hb).1 (k1 b u n hb).2, fun b hb => ex.dom b (e2.dom b hb)⟩
  exact q _ _ H2 (e1.trans e3) (W.shrink ok2.1 fun b m => .inl m) rfl (.ins nW hh (rf.mono (keeps_shrink fun b m => .inl m)))
/-- C(e, ..) that owns something new: told with it -/
def tDO (W : Res) (ρ : List (Option D)) (P : Addr → Cell → D → Prop) : TE := fun σ H Q => W.ok H ∧ Sl W.m H σ ρ ∧ ∀ p c d v H', P p c d → H p = none → Ext W.m H H' → (W.add p c).ok H' → Rp (W.add p c).m H' v d → Q v H'
theorem ed_makeO {ok : Addr → List D → (Addr → List (Str × D)) → Cell → Prop} {gs : Addr → List (Str × D)} {cl : Cell} (c : CalK X.prog X.w X.K X.mg X.base CX k x C ps (spIO ok)) (hr : Room (k + 1) X.A) (hx : Passes CX X E) (ha : AE X W ρ (e :: es) ds) (hok : ok C ds gs cl)
    (hg : Gl X x := by rfl) (hdb : (x == ("__debug__" : Str)) = false := by decide) (he : starEach (e :: es) X.env = (false, eval e X.env) :: starEach es X.env := by rfl) (hpl : (backTo pos (starEach es X.env)).any (·.1) = false := by rfl) :
    PE X (.Call (.Name x p) (e :: es) [] pos) (tDO W ρ fun p c d => c = cl ∧ d = .ins C (gs p)) := by
  obtain ⟨f, fd, F, hm, hM, hb⟩ := c.ex
  refine PEimp (pe_make hM F hr hg hm hb .nil hx ha hdb he hpl) fun σ H Q ⟨o, sl, q⟩ => ⟨o, sl, fun zs vs H1 e1 ok1 hz r1 a dx na nd ne => ?_⟩
  subst hz
  have ex : Ext W.m H1 (upd (upd H1 dx (.own a)) a (.ins C dx [])) := made_ext na nd ne
  have nW : ¬ W.m a := W.fresh ok1 na
  have k1 : Keeps W.m (W.add a (ownO C [])).m H1 (upd (upd H1 dx (.own a)) a (.ins C dx [])) := fun b u n hb => ⟨fun z => z.elim n fun z => (by rw [z, na] at hb; cases hb), ex.keep b u n hb⟩
  refine ⟨W, a, C, vs, zs, gs, cl, by rw [List.append_nil], nW, made_ok ok1 na nd ne, r1.mono k1, hok, fun H2 l e2 nl ok2 => ⟨rfl, ?_⟩⟩
  obtain ⟨dx', fs, hh, rf⟩ := id ok2.2
  have e3 : Ext W.m H1 H2 := ⟨fun b u n hb => e2.keep b u (k1 b u n hb).1 (k1 b u n hb).2, fun b hb => ex.dom b (e2.dom b hb)⟩
  have nl1 : H1 l = none := ex.dom l nl
  have nal : ¬ (W.add l cl).m a := fun z => z.elim nW fun z => by rw [← z, upd_same] at nl; cases nl
  exact q l cl _ _ H2 ⟨rfl, rfl⟩ (e1.dom l nl1) (e1.trans e3) ((W.add l cl).shrink ok2.1 fun b m => .inl m) (.ins nal hh (rf.mono (keeps_shrink fun b m => .inl m)))
end
end K14

set_option Elab.async false
set_option linter.all false
set_option maxRecDepth 100000
set_option maxHeartbeats 4000000
namespace K14
open PySem L2
/-! ### exceptions -/
theorem takesN0 {X : Cx} : L2N.Takes X (fun _ _ _ _ => False) := fun _ _ x => by
  obtain ⟨_, _, _, _, _, _, _, _, _, _, _, _, _, _, _, _, z⟩ := x; exact z.elim
abbrev RX := Value → Option Addr → Hp → Prop
abbrev GX := Hp → V → Hp → Prop
def spG (ok : Res → List D → GX → RX → Prop) : Sp := fun vs H Q E => ∃ (W : Res) (ds : List D) (G : GX) (R : RX), W.ok H ∧ RpL W.m H vs ds ∧ ok W ds G R ∧ (∀ v H', G H v H' → Q v H') ∧ ∀ c d H', Ext W.m H H' → W.ok H' → R c d H' → E c d H'
def gD (W : Res) (P : D → Prop) : GX := fun H v H' => ∃ d, P d ∧ Ext W.m H H' ∧ W.ok H' ∧ Rp W.m H' v d
def gDO (W : Res) (P : Addr → Cell → D → Prop) : GX := fun H v H' => ∃ p c d, P p c d ∧ H p = none ∧ Ext W.m H H' ∧ (W.add p c).ok H' ∧ Rp (W.add p c).m H' v d
section
variable {P : Program} {w : World} {K : PySem.W.Frag} {mg : Str → Option Value} {base : Heap} {x qual : Str} {st : Stmt} {f : Addr} {fd : FuncData}
theorem fn_G {N ps : List Str} {k : Nat} {ok : Res → List D → GX → RX → Prop} (F : FnM K x qual st f fd) (S : FnScope N ps (defScope st)) (hlen : ∀ W ds G R, ok W ds G R → ds.length = ps.length)
    (hb : ∀ (cdv : Value) (A : Around) (outer : List Env) (s : Shared) (H : Hp) (E : XK) (W : Res) (ds : List D) (G : GX) (R : RX) (B : Bs), Room k (A.deeper (PyProof.Rows.envOfC qual (defScope st) s.heap.objs.size f cdv)) → ok W ds G R → B.M = W.m → (∀ c d H', Ext B.M B.H H' → W.ok H' → R c d H' → E c d H') →
      SS (cxOf (L2N.CX P w) P w K mg base N qual (defScope st) f cdv A outer s H E) (At B W [] (ds.map some ++ List.replicate (N.length - ds.length) none)) (defBody st) { nx := fun _ H' => G B.H .non H', rt := fun v H' => G B.H v H' }) : FnOk P w K mg base (L2N.CX P w) (k + 1) f fd ps (spG ok) := by
  refine F.ok (CX := L2N.CX P w) S (fun vs H Q E h => ?_) (fun cdv A outer s H vs Q E hr h => ?_)
  · obtain ⟨W, ds, G, R, o, l, q, _⟩ := h
    rw [l.length]; exact hlen _ _ _ _ q
  · obtain ⟨W, ds, G, R, o, l, q, kq, ke⟩ := h
    have z := hb cdv A outer s H E W ds G R ⟨W.m, H⟩ hr q rfl ke
    exact ⟨_, z, ⟨.refl, o, start_sl l, fun p hp => (by cases hp), fun a m => .inl m⟩, fun σ H' h => kq _ H' h, fun v H' h => kq v H' h, fun _ _ h => h, fun _ _ h => h⟩
end
section
variable {X : Cx} {B : Bs} {W : Res} {Γ : List (V × D)} {ρ : List (Option D)} {e : Expr} {es : List Expr} {p pos : Pos} {k : Nat} {ps : List Str} {x : Str} {ds : List D} {Wx : WX} {G : GX} {R : RX} {P : D → Prop} {rest : List Stmt} {E : Ends} {Φ : St → Hp → Prop}
def tCG (W : Res) (ρ : List (Option D)) (G : GX) (R : RX) (Wx : WX) : TE := fun σ H Q => W.ok H ∧ Sl W.m H σ ρ ∧ (∀ H1 v H2, Ext W.m H H1 → W.ok H1 → G H1 v H2 → Q v H2) ∧ ∀ c d H2, Ext W.m H H2 → W.ok H2 → R c d H2 → Wx c d σ H2
theorem pe_callG {ok : Res → List D → GX → RX → Prop} (c : Cal X.prog X.w X.K X.mg X.base (L2N.CX X.prog X.w) k x ps (spG ok)) (hr : Room k X.A) (tk : L2N.Takes X Wx) (ha : AE X W ρ (e :: es) ds) (hok : ok W ds G R)
    (hg : Gl X x := by rfl) (hdb : (x == ("__debug__" : Str)) = false := by decide) (he : starEach (e :: es) X.env = (false, eval e X.env) :: starEach es X.env := by rfl) (hpl : (backTo pos (starEach es X.env)).any (·.1) = false := by rfl) :
    PE X (.Call (.Name x p) (e :: es) [] pos) (tCG W ρ G R Wx) := by
  obtain ⟨f, fd, F, hm, hk, hb⟩ := c.ex
  exact PEimp (pe_callS F hr hg hm hk hb (fun σ => L2N.passAt tk σ) ha hdb he hpl) fun σ H Q ⟨o, sl, q, qx⟩ => ⟨o, sl, fun ds' vs H1 e1 ok1 hd r1 => by
    subst hd
    exact ⟨W, ds', G, R, ok1, r1, hok, fun v H2 g => q H1 v H2 e1 ok1 g, fun c d H2 e2 ok2 r => qx c d H2 (e1.trans e2) ok2 r⟩⟩
/-- where nothing is raised -/
theorem ed_callG0 {ok : Res → List D → GX → RX → Prop} (c : Cal X.prog X.w X.K X.mg X.base (L2N.CX X.prog X.w) k x ps (spG ok)) (hr : Room k X.A) (ha : AE X W ρ (e :: es) ds) (hok : ok W ds (gD W P) (fun _ _ _ => False))
    (hg : Gl X x := by rfl) (hdb : (x == ("__debug__" : Str)) = false := by decide) (he : starEach (e :: es) X.env = (false, eval e X.env) :: starEach es X.env := by rfl) (hpl : (backTo pos (starEach es X.env)).any (·.1) = false := by rfl) :
    ED X W ρ (.Call (.Name x p) (e :: es) [] pos) P :=
  PEimp (pe_callG (Wx := fun _ _ _ _ => False) c hr takesN0 ha hok hg hdb he hpl) fun σ H Q ⟨o, sl, q⟩ => ⟨o, sl, fun H1 v H2 e1 ok1 ⟨d, pd, e2, ok2, r⟩ => q d v H2 (e1.trans e2) ok2 pd r, fun _ _ _ _ _ z => z.elim⟩
/-- f(..) as a statement; it may raise -/
theorem ss_exprG {c : Expr} (h : PE X c (tCG W ρ (gD W P) R Wx)) (hx : ∀ c d σ H, At B W Γ ρ σ H → R c d H → Wx c d σ H) (h2 : SS X (At B W Γ ρ) rest E) (hs : swapsWith c none pos.line X.env = pure false := by rfl) : SS X (At B W Γ ρ) (.Expr c pos :: rest) E :=
  ss_cons (ps_expr h hs) (fun Dn σ H at_ kn _ _ _ => ⟨at_.ok, at_.sl, fun H1 v H2 e1 ok1 ⟨d, pd, e2, ok2, r⟩ => kn _ _ ((at_.go e1 ok1).go e2 ok2), fun c d H2 e2 ok2 r => hx c d σ H2 (at_.go e2 ok2) r⟩) h2
/-- n = f(..), it may raise -/
theorem ss_setG (i : Nat) {n : Str} {c : Expr} (h : PE X c (tCG W ρ (gD W P) R Wx)) (hx : ∀ c d σ H, At B W Γ ρ σ H → R c d H → Wx c d σ H) (h2 : ∀ d, P d → SS X (At B W Γ (ρ.set i (some d))) rest E) (hN : X.N.Nodup := by assumption) (hi : X.N[i]? = some n := by rfl) (hl : Loc X.env.scope n := by first | exact Or.inl rfl | exact Or.inr rfl)
    (hf : X.fn n = true ∨ X.env.scope.names.lookup n = some .local := by first | exact .inl rfl | exact .inr rfl) (hs : swapsWith c (some (.Name n p)) pos.line X.env = pure false := by rfl) : SS X (At B W Γ ρ) (.Assign [.Name n p] c pos :: rest) E :=
  ss_cons (Ψ := fun σ H => ∃ d, P d ∧ At B W Γ (ρ.set i (some d)) σ H) (ps_asg h (pg_name hN hi hl hf) hs)
    (fun Dn σ H at_ kn _ _ _ => ⟨at_.ok, at_.sl, fun H1 v H2 e1 ok1 ⟨d, pd, e2, ok2, r⟩ => kn _ _ ⟨d, pd, ((at_.go e1 ok1).go e2 ok2).set i r⟩, fun c d H2 e2 ok2 r => hx c d σ H2 (at_.go e2 ok2) r⟩) (SS.exP h2)
/-- a, b = f(..), something new owned; it may raise -/
theorem ss_unpackGO {PO : Addr → Cell → D → Prop} {c tg : Expr} {g : TG} {t : Tgt} (hG : GD X tg g t) (h : PE X c (tCG W ρ (gDO W PO) R Wx)) (hx : ∀ c d σ H, At B W Γ ρ σ H → R c d H → Wx c d σ H)
    (h2 : ∀ l cl d, PO l cl d → ¬ W.m l → ∃ ρ', t.put d ρ = some ρ' ∧ SS X (At B (W.add l cl) Γ ρ') rest E)
    (hs : swapsWith c (some tg) pos.line X.env = pure false := by rfl) (hw : swappedStores [tg] c X.env = pure none := by rfl) (h1 : (assignEach [tg] X.env).map (·.2) = [assign tg X.env] := by rfl) : SS X (At B W Γ ρ) (.Assign [tg] c pos :: rest) E :=
  ss_cons (Ψ := fun σ H => ∃ q : Addr × Cell × D × List (Option D), (PO q.1 q.2.1 q.2.2.1 ∧ ¬ W.m q.1 ∧ t.put q.2.2.1 ρ = some q.2.2.2) ∧ At B (W.add q.1 q.2.1) Γ q.2.2.2 σ H) (ps_asg h hG.pg hs hw h1)
    (fun Dn σ H at_ kn _ _ _ => ⟨at_.ok, at_.sl, fun H1 v H2 e1 ok1 ⟨l, cl, d, pd, nl, e2, ok2, r⟩ => by
      have at1 := at_.go e1 ok1
      have at2 := at_own at1 nl e2 ok2
      have nW := W.fresh ok1 nl
      obtain ⟨ρ', h1, _⟩ := h2 l cl d pd nW
      exact hG.to r at2.sl h1 _ fun σ' s' _ => kn _ _ ⟨(l, cl, d, ρ'), ⟨pd, nW, h1⟩, at2.slots s'⟩, fun c d H2 e2 ok2 r => hx c d σ H2 (at_.go e2 ok2) r⟩)
    (SS.exP fun q ⟨p1, p2, p3⟩ => by
      obtain ⟨ρ', h3, h4⟩ := h2 q.1 q.2.1 q.2.2.1 p1 p2
      rw [p3] at h3
      cases h3
      exact h4)
/-- raise e -/
theorem ss_raise {t : St → Hp → XK → Prop} (tk : L2N.Takes X Wx) (he : L2N.PMk X e t) (h : ∀ σ H, Φ σ H → t σ H fun cls d H' => Wx cls d σ H') (hc : X.calm = true := by rfl) : SS X Φ (.Raise (some e) none pos :: rest) E :=
  ss_cons (Ψ := fun _ _ => False) (L2N.ps_raise hc tk he) (fun Dn σ H at_ _ _ _ _ => h σ H at_) (SS.never fun _ _ z => z)
theorem pmk_own0 {C : Addr} {Bt : List Value} {bn newId initId : String} (F : ExcBaseFacts bn newId initId Bt) (q : PySem.W.excIn X.K C Bt newId = true) (gC : X.mg x = some (.ref C)) (kC : PySem.W.keepIn X.K (.ref C) = true) (r : Raises X (.ref C)) (hg : Gl X x := by rfl) (hdb : (x == ("__debug__" : Str)) = false := by decide) :
    L2N.PMk X (.Call (.Name x p) [] [] pos) (fun _ H Q => Q (.ref C) none H) := by
  intro pins s σ H Q I h
  refine wpAny_Call_Name_kw (ld_glob I hg gC ?_ hdb)
  refine PySem.W.callWith_K0 I.kIn kC ?_
  obtain ⟨bm, N, nm, qn, bs, hdct, sn, sub, ab, col, dd, k0, k1, k2, k3, k5, mN, hC, hN, hni, T⟩ := exc_obj I.kIn q
  exact wpAny_call_exc_subT F T hC hN hni (fun h' a mk => L2N.mk_of I mk r h (I.hok.gone mk.new)) (by show 0 ≤ sizeLine; exact Nat.zero_le _)
end
end K14

set_option Elab.async false
set_option linter.all false
set_option maxRecDepth 100000
set_option maxHeartbeats 4000000
namespace K14
open PySem L2
/-- the exceptions' classes -/
structure ExT (K : PySem.W.Frag) (mg : Str → Option Value) (CR CK CM fM : Addr) (fdM : FuncData) : Prop where
  gR : mg "NoRow" = some (.ref CR)
  xR : PySem.W.excIn K CR [.type "ValueError", .type "Exception", .type "BaseException", .type "object"] "ValueError.__new__" = true
  kR : PySem.W.keepIn K (.ref CR) = true
  bR : PySem.W.subIn K (.ref CR) (.type "BaseException") = some true
  tR : PySem.W.typeIn K (.ref CR) = some (.type "type")
  gK : mg "NoKnown" = some (.ref CK)
  xK : PySem.W.excIn K CK [.type "ValueError", .type "Exception", .type "BaseException", .type "object"] "ValueError.__new__" = true
  kK : PySem.W.keepIn K (.ref CK) = true
  bK : PySem.W.subIn K (.ref CK) (.type "BaseException") = some true
  tK : PySem.W.typeIn K (.ref CK) = some (.type "type")
  gM : mg "TooMany" = some (.ref CM)
  oM : OexC K CM
  iM : PySem.W.findIn K (.ref CM) "__init__" = some (some (.ref fM))
  tM : PySem.W.typeIn K (.ref fM) = some (.type "function")
  nM : PySem.W.findIn K (.ref CM) "most" = some none
  FM : FnM K "__init__" "TooMany.__init__" (inClass (top 5) 0) fM fdM
  bM : Binds K fdM A5_0 []
def rRow (CR : Addr) : RX := fun c d _ => c = .ref CR ∧ d = none
def rMany (CM : Addr) : RX := fun c d H => c = .ref CM ∧ ∃ dd, d = some dd ∧ H dd = some (.xd [(("most" : Str), .int 5)])
section
variable {P : Program} {w : World} {K : PySem.W.Frag} {mg : Str → Option Value} {base : Heap} {f CR CK CM fM CA CS : Addr} {fd fdM : FuncData}
def okCheckRow (CR : Addr) (W : Res) (ds : List D) (G : GX) (R : RX) : Prop := ∃ (m : Str) (l : List Str), ds = [.str m, .tup (l.map .str)] ∧ l.length ≤ 200 ∧ (∀ z ∈ l, z.length ≤ 1000) ∧ G = gD W (fun d => d = .non ∧ rowB m l = true) ∧ R = fun c d H => rowB m l = false ∧ rRow CR c d H
theorem ok19 (F : FnM K "check_row" "check_row" (top 19) f fd) (T : Tx mg) (TE : ExT K mg CR CK CM fM fdM) (C : Cal P w K mg base CX0 3 "is_row" A18 (spN okRow)) : FnOk P w K mg base (L2N.CX P w) 4 f fd A19 (spG (okCheckRow CR)) := by
  refine fn_G F sc19 (fun W ds G R ⟨_, _, h, _⟩ => by rw [h]; rfl) fun cdv A outer s H E W ds G R B hr h hB hE => ?_
  obtain ⟨m, l, rfl, hl, hz, rfl, rfl⟩ := h
  refine ss_if (fun σ H => rowB m l = true ∧ At B W [] [some (.str m), some (.tup (l.map .str))] σ H) (tb_not (tb_val (ed_cal C hr pass0 (ad_cons (ed_var 0) (ad_cons (ed_var 1) ad_nil)) ⟨m, l, rfl, hl, hz, rfl⟩))) (fun h => ?_) (fun h => ?_) (ss_nil fun σ H ⟨h, at_⟩ => ⟨.non, ⟨rfl, h⟩, by rw [← hB]; exact at_.ext, at_.ok, .non⟩)
  · refine ss_raise (L2N.takes_of rfl rfl rfl rfl) (pmk_own0 PySem.F.excBase_ValueError TE.xR TE.gR TE.kR (raises_own TE.bR TE.tR)) fun σ H at_ => hE _ _ _ at_.ext at_.ok ⟨?_, rfl, rfl⟩
    cases q : rowB m l with
    | false => rfl
    | true => rw [q] at h; cases h
  · refine ss_nil fun σ H at_ => ⟨?_, at_⟩
    cases q : rowB m l with
    | true => rfl
    | false => rw [q] at h; cases h
theorem known_prs {n : Nat} {d : D} (h : knownB n d = true) : ∃ prs : List (Nat × Nat), d = .tup (prsD prs) ∧ ∀ p ∈ prs, p.1 < n ∧ p.2 < n := by
  unfold knownB at h
  split at h
  · rename_i ds
    rw [Bool.and_eq_true] at h
    have h2 := h.2
    clear h
    have one : ∀ x : D, withinD x 0 ((n : Int) - 1) = true → ∃ i : Nat, x = natD i ∧ i < n := by
      intro x hx
      unfold withinD at hx
      split at hx
      · rename_i i
        rw [Bool.and_eq_true] at hx
        have h1 := of_decide_eq_true hx.1
        have h2 := of_decide_eq_true hx.2
        exact ⟨i.toNat, by unfold natD; rw [Int.toNat_of_nonneg h1], by omega⟩
      · cases hx
    have go : ∀ ds : List D, ds.all (pairIn n) = true → ∃ prs : List (Nat × Nat), ds = prsD prs ∧ ∀ p ∈ prs, p.1 < n ∧ p.2 < n := by
      intro ds
      induction ds with
      | nil => intro _; exact ⟨[], rfl, fun p h => (by cases h)⟩
      | cons x ds ih =>
        intro h
        rw [List.all_cons, Bool.and_eq_true] at h
        obtain ⟨prs, rfl, hb⟩ := ih h.2
        have h1 := h.1
        unfold pairIn at h1
        split at h1
        · rename_i a b
          rw [Bool.and_eq_true] at h1
          obtain ⟨i, rfl, hi⟩ := one a h1.1
          obtain ⟨j, rfl, hj⟩ := one b h1.2
          refine ⟨(i, j) :: prs, rfl, fun p hp => ?_⟩
          rcases List.mem_cons.mp hp with rfl | hp
          · exact ⟨hi, hj⟩
          · exact hb p hp
        · cases h1
    obtain ⟨prs, rfl, hb⟩ := go ds h2
    exact ⟨prs, rfl, hb⟩
  · cases h
/-- the pairs known are in order -/
structure Fine (n : Nat) (thing : D) (prs : List (Nat × Nat)) (es : List (NestedKey × D)) : Prop where
  eq : thing = .tup (prsD prs)
  bnd : ∀ p ∈ prs, p.1 < n ∧ p.2 < n
  clo : Clo n prs (cOf es)
  step : ∀ a b c, (a, b) ∈ prs → (b, c) ∈ prs → cOf es a c = true
def Loose (n : Nat) (es : List (NestedKey × D)) : Prop := ∀ c < n, cOf es c c = false
def BadKnown (n : Nat) (thing : D) : Prop := knownB n thing = false ∨ ∃ prs es, Fine n thing prs es ∧ ¬ Loose n es
def okCheckKnown (CK : Addr) (W : Res) (ds : List D) (G : GX) (R : RX) : Prop := ∃ (n : Nat) (thing : D), ds = [natD n, thing] ∧ Fit thing ∧ n ≤ 10 ∧ G = gD W (fun d => ∃ prs es, Fine n thing prs es ∧ Loose n es ∧ d = .dnk es) ∧ R = fun c d H => BadKnown n thing ∧ rRow CK c d H
theorem ok31 (F : FnM K "check_known" "check_known" (top 31) f fd) (T : Tx mg) (TE : ExT K mg CR CK CM fM fdM) (C1 : Cal P w K mg base CX0 3 "is_known" A29 (spN okKnown)) (C2 : Cal P w K mg base CX0 1 "closed_pairs" A30 (spN okClosed)) : FnOk P w K mg base (L2N.CX P w) 4 f fd A31 (spG (okCheckKnown CK)) := by
  refine fn_G F sc31 (fun W ds G R ⟨_, _, h, _⟩ => by rw [h]; rfl) fun cdv A outer s H E W ds G R B hr h hB hE => ?_
  obtain ⟨n, thing, rfl, hfit, hn, rfl, rfl⟩ := h
  have hu9 : (A.deeper (PyProof.Rows.envOfC "check_known" (defScope (top 31)) s.heap.objs.size f cdv)).units + 9 < cLine := by have := hr.units; omega
  refine ss_ifr (tb_not (tb_val (ed_cal C1 hr pass0 (ad_cons (ed_var 0) (ad_cons (ed_var 1) ad_nil)) ⟨n, thing, rfl, hfit, by omega, rfl⟩))) (fun h => ?_) (fun h => ?_)
  · refine ss_raise (L2N.takes_of rfl rfl rfl rfl) (pmk_own0 PySem.F.excBase_ValueError TE.xK TE.gK TE.kK (raises_own TE.bK TE.tK)) fun σ H at_ => hE _ _ _ at_.ext at_.ok ⟨.inl ?_, rfl, rfl⟩
    cases q : knownB n thing with
    | false => rfl
    | true => rw [q] at h; cases h
  · have hk : knownB n thing = true := by
      cases q : knownB n thing with
      | true => rfl
      | false => rw [q] at h; cases h
    obtain ⟨prs, rfl, hb⟩ := known_prs hk
    have hpl : prs.length ≤ 200 := by
      have := (hfit.2 _ rfl).1
      unfold prsD at this
      rwa [List.length_map] at this
    refine ss_setP 2 (P := fun d => ∃ es, Fine n (.tup (prsD prs)) prs es ∧ d = .dnk es) (ED.imp (ed_cal C2 (hr.mono (by decide)) pass0 (ad_cons (ed_var 0) (ad_cons (ed_var 1) ad_nil)) ⟨n, prs, rfl, hn, hpl, hb, rfl⟩) fun d ⟨es, h1, h2, h3⟩ => ⟨es, ⟨rfl, hb, h2, h3⟩, h1⟩) (fun d hd => ?_) sc31.nd
    obtain ⟨es, hf, rfl⟩ := hd
    refine ss_ifr (tb_val (ed_any (bs := (List.range n).map fun c => cOf es c c) rfl T.any (EE.is (ed_map1A 3 (List.range n) natD (fun c => .bl (cOf es c c)) rfl sc31.nd (id_rangeN T.range (ed_var 0) (by omega)) (blkOk_by (N := N31) (sc := defScope (top 31)) (by decide +kernel)) (by rw [List.length_range]; omega) (fun _ _ _ _ _ => pg_name sc31.nd rfl (Or.inl rfl))
      fun c hc ys L nL s H C' cl fp => ed_pc (pc_nin hu9 (ed_tup (ad_cons (ed_var 3) (ad_cons (ed_var 3) ad_nil)) (Nat.le_of_ble_eq_true rfl)) (nd_is (ed_var 2)) (keyD_pr c c))) (congrArg D.lst (by rw [List.map_map]; rfl))))) (fun h => ?_) (fun h => ?_)
    · refine ss_raise (L2N.takes_of rfl rfl rfl rfl) (pmk_own0 PySem.F.excBase_ValueError TE.xK TE.gK TE.kK (raises_own TE.bK TE.tK)) fun σ H at_ => hE _ _ _ at_.ext at_.ok ⟨.inr ⟨prs, es, hf, fun hl => ?_⟩, rfl, rfl⟩
      rw [List.any_map] at h
      obtain ⟨c, hc, hcc⟩ := List.any_eq_true.mp h.symm
      have := hl c (List.mem_range.mp hc)
      rw [show (id ∘ fun c => cOf es c c) c = cOf es c c from rfl, this] at hcc
      cases hcc
    · refine ss_retP (ed_var 2) fun d v σ H hd at_ r => ?_
      subst hd
      refine ⟨.dnk es, ⟨prs, es, hf, fun c hc => ?_, rfl⟩, by rw [← hB]; exact at_.ext, at_.ok, r⟩
      rw [List.any_map] at h
      cases q : cOf es c c with
      | false => rfl
      | true =>
        have : ((List.range n).any (id ∘ fun c => cOf es c c)) = true := List.any_eq_true.mpr ⟨c, List.mem_range.mpr hc, q⟩
        rw [this] at h
        cases h
end
end K14

set_option Elab.async false
set_option linter.all false
set_option maxRecDepth 100000
set_option maxHeartbeats 4000000
namespace K14
open PySem L2
section
variable {P : Program} {w : World} {K : PySem.W.Frag} {mg : Str → Option Value} {base : Heap} {f CR CK CM fM CA CS : Addr} {fd fdM : FuncData}
/-- TooMany.__init__ -/
def spTM (K : PySem.W.Frag) : Sp := fun vs H Q _ => ∃ (a C : Addr) (n : Int), vs = [.ref a, .int n] ∧ H a = some (exo a C none) ∧ OexC K C ∧ PySem.W.findIn K (.ref C) "most" = some none ∧ ∀ dx, H dx = none → dx ≠ a → Q .non (upd (upd H dx (exd dx [(("most" : Str), .int n)])) a (exo a C (some dx)))
theorem ok5_0 (F : FnM K "__init__" "TooMany.__init__" (inClass (top 5) 0) f fd) : FnOk P w K mg base CX0 1 f fd A5_0 (spTM K) := by
  refine F.ok sc5_0 (fun vs H Q E h => ?_) (fun cdv A outer s H vs Q E hr h => ?_)
  · obtain ⟨a, C, n, rfl, _⟩ := h
    rfl
  · obtain ⟨a, C, n, rfl, ha, ho, hn, k⟩ := h
    exact ⟨_, pss_one (ps_ost (pv 0) (pv 1)), _, rfl, _, rfl, a, C, rfl, ho, hn, .inl ⟨ha, fun dx h1 h2 => k dx h1 h2⟩⟩
/-- an own exception with a maker: its context is None -/
theorem pmk_oexN {X : Cx} {CX : CXT} {x : Str} {e : Expr} {es : List Expr} {ta : TA} {p pos : Pos} {C fI : Addr} {k : Nat} {fd : FuncData} {ps : List Str} {sp : Sp} (T : OexC X.K C) (iC : PySem.W.findIn X.K (.ref C) "__init__" = some (some (.ref fI))) (tI : PySem.W.typeIn X.K (.ref fI) = some (.type "function")) (F1 : FnOk X.prog X.w X.K X.mg X.base CX k fI fd ps sp) (hr : Room (k + 1) X.A) (hb : Binds X.K fd ps [])
    (hx : Passes CX X (fun _ _ _ => False)) (hg : Gl X x) (hm : X.mg x = some (.ref C)) (ha : PA X (e :: es) ta) (hdb : (x == ("__debug__" : Str)) = false := by decide) (he : starEach (e :: es) X.env = (false, eval e X.env) :: starEach es X.env := by rfl) (hpl : (backTo pos (starEach es X.env)).any (·.1) = false := by rfl) : L2N.PMk X (.Call (.Name x p) (e :: es) [] pos) (tMkO C sp [] ta) := by
  intro pins s σ H Q I h; obtain ⟨nm, q, N, bs, bm, sn, sub, ab, col, dd, k0, k1, k2, k3, k5, hC, hbm⟩ := T.cls
  refine wpAny_Call_Name_kw (ld_glob I hg hm (PySem.W.callWith_K (h₀ := X.base) I.ok.mod.kin T.kC (thn (ha.run pos pins s σ H _ I h) fun us s1 ⟨vs, H1, I1, r1, hz, q1⟩ => ⟨I1.kIn, ?_⟩) he hpl) hdb)
  show wpAny _ _ (call (.ref C) us) _ _ _
  obtain ⟨hp, g, dr, tk, os⟩ := s1; have hsz : hp.objs.size ≤ hp.objs.size + 1 := Nat.le_succ _
  have hq := q1 (hp.objs.size + 1) (I1.hok.fresh hsz); rw [List.append_nil] at hq
  have kk : ∀ b o, hp.get? b = some o → ((hp.push (PySem.W.kdv_tup us)).push (PySem.HandSPX.excO C hp.objs.size)).get? b = some o := fun b o e => Heap.get?_push_of_some _ (Heap.get?_push_of_some _ e)
  have I2 : Inv X pins σ (upd H1 (hp.objs.size + 1) (exo (hp.objs.size + 1) C none)) ⟨(hp.push (PySem.W.kdv_tup us)).push (PySem.HandSPX.excO C hp.objs.size), g, dr, tk, os⟩ := I1.laid (t' := tk) (a := hp.objs.size + 1) (o := exo (hp.objs.size + 1) C none) (h' := (hp.push (PySem.W.kdv_tup us)).push (PySem.HandSPX.excO C hp.objs.size)) kk hsz (exo_ok (by heap_get))
  have r2 : Vals (V.ref (hp.objs.size + 1) :: vs) (Value.ref (hp.objs.size + 1) :: us) := .cons rfl r1
  have hl : (Value.ref (hp.objs.size + 1) :: us).length = ps.length := r2.length.symm.trans (F1.len _ _ _ _ hq)
  have b2 := hb ⟨(hp.push (PySem.W.kdv_tup us)).push (PySem.HandSPX.excO C hp.objs.size), g, dr, tk, os⟩ (Value.ref (hp.objs.size + 1) :: us) I2.kIn (by rw [List.append_nil]; exact hl); rw [List.append_nil] at b2
  refine wpAny_call (PySem.HandSPX.call_own F.excBase_ValueError (fun Y => PySem.HandSPX.refsVE_contains Y bm hbm) (I1.kIn _ _ hC) (PySem.W.looks_findIn I1.kIn iC) (fun self => PySem.W.bind_fn I1.kIn self tI) (by rw [← Paired.length r1, sizeLine_eq]; omega) (codeAny_mono (F1.run _ X.stack _ _ ⟨Value.ref (hp.objs.size + 1) :: us, []⟩ (Value.ref (hp.objs.size + 1) :: us) _ _ (fun _ _ _ => False) (hr.make C us []) (I2.env0.make C us []) b2 r2 hq) fun r s' hq' => ?_))
  cases r with
  | error er => exact hx pins σ _ _ er s' I2 hq'
  | ok fl => cases fl with
    | ret u =>
      obtain ⟨v, H2, os2, bare2, un2, hok2, rv, ev, d, fs, ea, ed, hd1, q2⟩ := hq'; subst ev; obtain ⟨h2, g2, d2, t2, os'⟩ := s'
      obtain ⟨t0, G, J, kG, ge, hoe, na⟩ := mk_end0 (d2 := d2) (t2 := t2) I1 hsz kk un2 hok2 os2 bare2 ea ed hd1
      exact ⟨rv, hp.objs.size + 1, _, _, ⟨G, g2, d2, t2, os'⟩, _, .ref C, some d, rfl, J, kG, ge, hoe, ⟨rfl, rfl, fun vs hv => by cases hv; rfl⟩, rfl, rfl, na, rfl, bare2, raises_own T.exC T.tyC, q2⟩
    | next => exact False.elim hq'
    | brk => exact False.elim hq'
    | cont => exact False.elim hq'
theorem pmk_many {X : Cx} {e : Expr} {p pos : Pos} {W : Res} {ρ : List (Option D)} (TE : ExT X.K X.mg CR CK CM fM fdM) (hr : Room 2 X.A) (he : EE X W ρ e (.int 5)) (hst : starEach [e] X.env = (false, eval e X.env) :: starEach [] X.env := by rfl) (hg : Gl X "TooMany" := by rfl) (hpl : (backTo pos (starEach [] X.env)).any (·.1) = false := by rfl) :
    L2N.PMk X (.Call (.Name "TooMany" p) [e] [] pos) (fun σ H Q => W.ok H ∧ Sl W.m H σ ρ ∧ ∀ c d H', Ext W.m H H' → W.ok H' → rMany CM c d H' → Q c d H') := by
  intro pins s σ H Q I ⟨ok, sl, q⟩
  refine pmk_oexN TE.oM TE.iM TE.tM (ok5_0 (P := X.prog) (w := X.w) (mg := X.mg) (base := X.base) TE.FM) hr TE.bM (pass0 : Passes CX0 X (fun _ _ _ => False)) hg TE.gM (ad_cons he ad_nil hst) (by decide) hst hpl pins s σ H Q I ⟨ok, sl, fun zs vs H1 e1 ok1 hz r1 => ?_⟩
  subst hz
  obtain ⟨v, rfl, rv⟩ := r1.one
  cases rv
  refine ⟨by show 1 ≤ 1000; decide, fun a na => ⟨a, CM, 5, rfl, upd_same, TE.oM, TE.nM, fun dx nd ne => ⟨rfl, dx, [(("most" : Str), .int 5)], upd_same, ?_, ?_, ?_⟩⟩⟩
  · rw [upd_ne ne, upd_same]
  · rw [upd_ne ne] at nd; exact nd
  · have hd1 : H1 dx = none := by rw [upd_ne ne] at nd; exact nd
    have eq : upd (del (upd (upd (upd H1 a (exo a CM none)) dx (exd dx [(("most" : Str), .int 5)])) a (exo a CM (some dx))) a) dx (.xd [(("most" : Str), .int 5)]) = upd H1 dx (.xd [(("most" : Str), .int 5)]) := by
      funext b
      by_cases hb : b = dx
      · subst hb; rw [upd_same, upd_same]
      · rw [upd_ne hb, upd_ne hb]
        by_cases hb2 : b = a
        · subst hb2; rw [del_same, na]
        · rw [del_ne hb2, upd_ne hb2, upd_ne hb, upd_ne hb2]
    rw [eq]
    exact q _ _ _ (e1.trans (.new hd1)) (W.new ok1 hd1) ⟨rfl, dx, rfl, upd_same⟩
/-! ### Asking -/
def fullS (n : Nat) : List (List Nat) := ordP n (cOf []) n
theorem mem_fullS {n : Nat} {o : List Nat} : o ∈ fullS n ↔ o.Perm (List.range n) := by
  unfold fullS
  rw [mem_ordP_full]
  exact ⟨fun h => h.1, fun h => ⟨h, fun a b _ _ hc => by cases hc⟩⟩
def flagEs (fl : List Nat → List Bool) (n : Nat) : List (NestedKey × D) := accN ordK (fun o => .tup ((fl o).map .bl)) (fullS n)
theorem flagEs_ok {fl : List Nat → List Bool} {n : Nat} {S : List (List Nat)} (p : Perms n S) (hw : ∀ o, (fl o).length ≤ 10) : Flagged fl (flagEs fl n) S := fun o ho => by
  refine ⟨?_, hw o⟩
  unfold flagEs
  rw [accN_look (d := .tup ((fl o).map .bl)) (fullS n) fun a _ e => by rw [ordK_inj e], if_pos ⟨o, mem_fullS.mpr (p o ho), rfl⟩]
def okAskInit (CA : Addr) (C : Addr) (ds : List D) (gs : Addr → List (Str × D)) (c : Cell) : Prop := ∃ (ls : List (List Str)) (row : List Str), C = CA ∧ ds = [lotsD ls, .tup (row.map .str)] ∧ ls.length ≤ 1000 ∧ row.length ≤ 5 ∧ gs = (fun l => askF row (flagEs (flg (hasL ls) ls.length row) row.length) l) ∧ c = ownN []
theorem putRow (d : D) : putFD "row" d [] = [(("row" : Str), d)] := rfl
theorem putFlags (r d : D) : putFD "flags" d [(("row" : Str), r)] = [(("row" : Str), r), (("flags" : Str), d)] := by
  show (if ("row" : Str) = "flags" then _ else _) = _
  rw [if_neg (by decide +kernel)]
  rfl
theorem putLeast (r g d : D) : putFD "least" d [(("row" : Str), r), (("flags" : Str), g)] = [(("row" : Str), r), (("flags" : Str), g), (("least" : Str), d)] := by
  show (if ("row" : Str) = "least" then _ else (("row" : Str), r) :: (if ("flags" : Str) = "least" then _ else _)) = _
  rw [if_neg (by decide +kernel), if_neg (by decide +kernel)]
  rfl
theorem ok34_0 (F : FnM K "__init__" "Asking.__init__" (inClass (top 34) 0) f fd) (T : Tx mg) (TC : AskC K CA) (C1 : Cal P w K mg base CX0 3 "flags_of" A33 (spN okFlags)) (C2 : Cal P w K mg base CX0 1 "orders_of" A32 (spN okOrdP)) : FnOk P w K mg base CX0 4 f fd A34_0 (spIO (okAskInit CA)) := by
  refine fn_initO F sc34_0 (fun C ds gs c ⟨_, _, _, h, _⟩ => by rw [h]; rfl) fun cdv A outer s H E W o C ds gs c B hr h no hB => ?_
  obtain ⟨ls, row, rfl, rfl, hl, hrow, rfl, rfl⟩ := h
  have hu9 : (A.deeper (PyProof.Rows.envOfC "Asking.__init__" (defScope (inClass (top 34) 0)) s.heap.objs.size f cdv)).units + 9 < cLine := by have := hr.units; omega
  refine ss_fld no (ed_var 0) (ed_var 2) TC.cl TC.nR (by decide) ?_
  rw [putRow]
  refine ss_fld no (ed_var 0) (d := .dnk (flagEs (flg (hasL ls) ls.length row) row.length)) (ed_dcN1A 3 (fullS row.length) .ord ordK .ord (fun o => .tup ((flg (hasL ls) ls.length row o).map .bl)) (dcE hu9 sc34_0.nd (blkOk_by (N := N34_0) (sc := defScope (inClass (top 34) 0)) (by decide +kernel)))
    (id_lst (ED.imp (ed_cal C2 (hr.mono (by decide)) pass0 (ad_cons (EE.is (ed_lenT T.len (ed_var 2)) (y := natD row.length) (by rw [List.length_map]; rfl)) (ad_cons (ed_frzN en_nnew) ad_nil)) ⟨row.length, [], rfl, hrow, rfl⟩) fun d hd => hd)) (by
      have := ordP_le2 (C := cOf []) hrow hrow
      unfold fullS
      omega) (fun _ _ _ _ _ => pg_name sc34_0.nd rfl (Or.inl rfl)) (fun o _ => keyD_ord o) (fun o ho es L nL s H C' cl fp => ed_var 3) (fun o ho es L nL s H C' cl fp => ed_cal C1 hr pass0 (ad_cons (ed_var 1) (ad_cons (ed_var 2) (ad_cons (ed_var 3) ad_nil))) ⟨ls, row, o, rfl, hl, by omega, mem_fullS.mp ho, rfl⟩)) TC.cl TC.nF (Nat.lt_of_sub_eq_succ rfl) ?_
  rw [putFlags]
  refine ss_fldOwn (P := fun c => c = ownN []) no (fun p c hc => ed_var 0) en_nnew TC.cl TC.nL (Nat.lt_of_sub_eq_succ rfl) fun p c hc np npo => ?_
  subst hc
  rw [putLeast]
  refine ss_nil fun σ H at_ => ⟨p, at_.ext, ?_, at_.ok⟩
  have := at_.own p (.inl (.inr rfl))
  rcases this with h | h
  · exact ((hB p).mp h).elim (fun z => absurd z np) fun z => absurd z npo
  · exact h
end
end K14

set_option Elab.async false
set_option linter.all false
set_option maxRecDepth 100000
set_option maxHeartbeats 4000000
namespace K14
open PySem L2
/-! ### the tree judge, by shape -/
section
variable {fl : List Nat → List Bool} {n : Nat} {S : List (List Nat)}
theorem bools_bl {fs : List D} (h : fs.all isBl = true) : ∃ bs : List Bool, fs = bs.map .bl := by
  induction fs with
  | nil => exact ⟨[], rfl⟩
  | cons d fs ih =>
    rw [List.all_cons, Bool.and_eq_true] at h
    obtain ⟨bs, rfl⟩ := ih h.2
    have h1 := h.1
    cases d with
    | bl b => exact ⟨b :: bs, rfl⟩
    | _ => cases h1
theorem dpt_two {x y : D} : dpt fl n S (.tup [x, y]) = none ∨ (dpt fl n S (.tup [x, y]) = some 0 ∧ x = .str toldS ∧ ∃ bs : List Bool, y = .tup (bs.map .bl) ∧ ∀ o ∈ S, fl o = bs) := by
  rw [dpt.eq_def]
  split
  · rename_i s fs he
    split
    · rename_i hs
      cases q : bools fs with
      | none => exact .inl rfl
      | some bs =>
        dsimp only
        split
        · rename_i hall
          injection he with he
          injection he with h1 h2
          injection h2 with h2 _
          exact .inr ⟨rfl, by rw [h1, hs], bs, by rw [h2, bools_some q], hall⟩
        · exact .inl rfl
    · exact .inl rfl
  · rename_i he
    cases he
  · exact .inl rfl
theorem dpt_two_told {s : Str} {bs : List Bool} : (dpt fl n S (.tup [.str s, .tup (bs.map .bl)])).isSome = (decide (s = toldS) && decide (∀ o ∈ S, fl o = bs)) := by
  rw [dpt, bools_map]
  by_cases hs : s = toldS
  · rw [if_pos hs, decide_eq_true hs]
    dsimp only
    by_cases h : ∀ o ∈ S, fl o = bs
    · rw [if_pos h, decide_eq_true h]; rfl
    · rw [if_neg h, decide_eq_false h]; rfl
  · rw [if_neg hs, decide_eq_false hs]; rfl
theorem dpt_two_bad {x y : D} (h : ¬ (x = .str toldS ∧ ∃ bs : List Bool, y = .tup (bs.map .bl))) : (dpt fl n S (.tup [x, y])).isSome = false := by
  rcases dpt_two (fl := fl) (n := n) (S := S) (x := x) (y := y) with e | ⟨_, e1, bs, e2, _⟩
  · rw [e]; rfl
  · exact absurd ⟨e1, bs, e2⟩ h
def goodQ (n : Nat) (S : List (List Nat)) (i j : Int) : Prop := 0 ≤ i ∧ i < n ∧ 0 ≤ j ∧ j < n ∧ i ≠ j ∧ K14.fst S i.toNat j.toNat ≠ [] ∧ K14.fst S j.toNat i.toNat ≠ []
theorem dpt_four {i j : Int} {t1 t2 : D} (g : goodQ n S i j) : dpt fl n S (.tup [.int i, .int j, t1, t2]) = match dpt fl n (K14.fst S i.toNat j.toNat) t1, dpt fl n (K14.fst S j.toNat i.toNat) t2 with
    | some x, some y => some (1 + max x y)
    | _, _ => none := by
  obtain ⟨h1, h2, h3, h4, h5, h6, h7⟩ := g
  rw [dpt, if_pos ⟨h1, h2, h3, h4⟩, if_neg (fun z => z.elim h5 fun z => z.elim h6 h7)]
  all_goals (cases dpt fl n (K14.fst S i.toNat j.toNat) t1 <;> cases dpt fl n (K14.fst S j.toNat i.toNat) t2 <;> rfl)
theorem dpt_four_some {i j : Int} {t1 t2 : D} (g : goodQ n S i j) : (dpt fl n S (.tup [.int i, .int j, t1, t2])).isSome = ((dpt fl n (K14.fst S i.toNat j.toNat) t1).isSome && (dpt fl n (K14.fst S j.toNat i.toNat) t2).isSome) := by
  rw [dpt_four g]
  cases dpt fl n (K14.fst S i.toNat j.toNat) t1 <;> cases dpt fl n (K14.fst S j.toNat i.toNat) t2 <;> rfl
theorem dpt_four_bad {i j : Int} {t1 t2 : D} (g : ¬ goodQ n S i j) : dpt fl n S (.tup [.int i, .int j, t1, t2]) = none := by
  rw [dpt]
  split
  · rename_i h
    rw [if_pos]
    by_cases h5 : i = j
    · exact .inl h5
    · by_cases h6 : K14.fst S i.toNat j.toNat = []
      · exact .inr (.inl h6)
      · by_cases h7 : K14.fst S j.toNat i.toNat = []
        · exact .inr (.inr h7)
        · exact absurd ⟨h.1, h.2.1, h.2.2.1, h.2.2.2, h5, h6, h7⟩ g
  · rfl
theorem dpt_four_int {a b t1 t2 : D} (h : ¬ ((isInt a && !isBl a) = true ∧ (isInt b && !isBl b) = true)) : dpt fl n S (.tup [a, b, t1, t2]) = none := by
  rw [dpt.eq_def]
  split
  · rename_i he; cases he
  · rename_i he
    injection he with he
    injection he with h1 h2
    injection h2 with h2 _
    subst h1 h2
    exact absurd ⟨rfl, rfl⟩ h
  · rfl
theorem dpt_not_tup {d : D} (h : isTup d = false) : dpt fl n S d = none := by
  cases d <;> first | (simp only [dpt]; done) | cases h
theorem dpt_len {ds : List D} (h2 : ds.length ≠ 2) (h4 : ds.length ≠ 4) : dpt fl n S (.tup ds) = none := by
  rw [dpt.eq_def]
  split
  · rename_i he; injection he with he; subst he; exact absurd rfl h2
  · rename_i he; injection he with he; subst he; exact absurd rfl h4
  · rfl
end
theorem isPair_tup {d : D} (h : isPair d = true) : ∃ x y, d = .tup [x, y] := by
  unfold isPair at h
  split at h
  · exact ⟨_, _, rfl⟩
  · cases h
theorem isPair_len {ds : List D} (h : isPair (.tup ds) = false) : ds.length ≠ 2 := by
  intro e
  match ds, e with
  | [x, y], _ => cases h
theorem four_of {ds : List D} (h : ds.length = 4) : ∃ a b c d, ds = [a, b, c, d] := by
  match ds, h with
  | [a, b, c, d], _ => exact ⟨a, b, c, d, rfl⟩
theorem two_of {ds : List D} (h : ds.length = 2) : ∃ a b, ds = [a, b] := by
  match ds, h with
  | [a, b], _ => exact ⟨a, b, rfl⟩
end K14

set_option Elab.async false
set_option linter.all false
set_option maxRecDepth 100000
set_option maxHeartbeats 4000000
namespace K14
open PySem L2
section
variable {P : Program} {w : World} {K : PySem.W.Frag} {mg : Str → Option Value} {base : Heap} {f CR CK CM fM CA CS : Addr} {fd fdM : FuncData}
structure TFIn (CA : Addr) (m : Nat) (ds : List D) (fl : List Nat → List Bool) (n : Nat) (S : List (List Nat)) (thing : D) : Prop where
  ex : ∃ (row : List Str) (es : List (NestedKey × D)) (l : Addr), ds = [askD CA row es l, ordsT S, thing] ∧ row.length = n ∧ n ≤ 5 ∧ S.length ≤ 5000 ∧ Perms n S ∧ Flagged fl es S ∧ S ≠ [] ∧ fitD thing = true ∧ dep thing ≤ m ∧ wd thing ≤ 1000
def okTF (CA : Addr) (m : Nat) (ds : List D) (Q : D → Prop) : Prop := ∃ (fl : List Nat → List Bool) (n : Nat) (S : List (List Nat)) (thing : D), TFIn CA m ds fl n S thing ∧ Q = fun d => d = .bl (dpt fl n S thing).isSome
theorem splits_good {n : Nat} {S : List (List Nat)} {p : Nat × Nat} (h : splits n S p) : goodQ n S (p.1 : Int) (p.2 : Int) ∧ goodQ n S (p.2 : Int) (p.1 : Int) := by
  obtain ⟨h1, h2, h3, h4⟩ := h
  exact ⟨⟨by omega, by omega, by omega, by omega, by omega, h3, h4⟩, ⟨by omega, by omega, by omega, by omega, by omega, h4, h3⟩⟩
theorem good_splits {n : Nat} {S : List (List Nat)} {i j : Int} (g : goodQ n S i j) : ∃ p, splits n S p ∧ ((i = p.1 ∧ j = p.2) ∨ (i = p.2 ∧ j = p.1)) := by
  obtain ⟨h1, h2, h3, h4, h5, h6, h7⟩ := g
  by_cases h : i < j
  · exact ⟨(i.toNat, j.toNat), ⟨show i.toNat < j.toNat by omega, show j.toNat < n by omega, h6, h7⟩, .inl ⟨show i = (i.toNat : Int) by omega, show j = (j.toNat : Int) by omega⟩⟩
  · exact ⟨(j.toNat, i.toNat), ⟨show j.toNat < i.toNat by omega, show i.toNat < n by omega, h7, h6⟩, .inr ⟨show i = (i.toNat : Int) by omega, show j = (j.toNat : Int) by omega⟩⟩
theorem ok38 (F : FnM K "is_tree_for" "is_tree_for" (top 38) f fd) (T : Tx mg) (TC : AskC K CA) (hm : mg "is_tree_for" = some (.ref f)) (hB : Binds K fd A38 []) (CT : CalM P w K mg base CX0 1 CA "told" A34_1 (spN (okTold CA))) (CP : CalM P w K mg base CX0 1 CA "parts" A34_2 (spN (okParts CA)))
    (C1 : Cal P w K mg base CX0 1 "is_pair" A13 (spN okPair)) (C2 : Cal P w K mg base CX0 1 "is_integer" A11 (spN okInteger)) :
    ∀ m, FnOk P w K mg base CX0 (2 + m) f fd A38 (spN (okTF CA m)) := by
  intro m
  induction m with
  | zero => exact step 0 fun m' h => (by cases h)
  | succ m ih => exact step (m + 1) fun m' h => (by cases h; exact ih)
where
  step (m : Nat) (ih : ∀ m', m = m' + 1 → FnOk P w K mg base CX0 (2 + m') f fd A38 (spN (okTF CA m'))) : FnOk P w K mg base CX0 (2 + m) f fd A38 (spN (okTF CA m)) := by
    rw [show 2 + m = (1 + m) + 1 by omega]
    refine fn_data F sc38 (fun ds Q ⟨_, _, _, _, ⟨_, _, _, h, _⟩, _⟩ => by rw [h]; rfl) fun cdv A outer s H E W ds Q B hr h => ?_
    obtain ⟨fl, n, S, thing, ⟨row, es, l, rfl, hrow, hn, hlen, hp, hfl, hS, hfit, hdep, hwd⟩, rfl⟩ := h
    have hk := fit_kn hfit
    have hr1 := hr.mono (show 1 ≤ 1 + m by omega)
    have hu : (A.deeper (PyProof.Rows.envOfC "is_tree_for" (defScope (top 38)) s.heap.objs.size f cdv)).units + 64 < cLine := hr.units
    refine ss_ifr (tb_val (ed_cal C1 hr1 pass0 (ad_cons (ed_var 2) ad_nil) ⟨thing, rfl, hk, rfl⟩)) (fun hpair => ?_) (fun hpair => ?_)
    · obtain ⟨x, y, rfl⟩ := isPair_tup hpair.symm
      have fx : fitD x = true := fitL_mem hfit x (by simp)
      have fy : fitD y = true := fitL_mem hfit y (by simp)
      have E0 : ∀ {X : Cx} {pos : Pos} {a : Expr} {j : Nat} {p2 : Pos} {ρ : List (Option D)}, EE X W ρ a (.tup [x, y]) → EE X W ρ (.Subscript a (.Constant (.int 0) j p2) pos) x := fun h => ed_ixT h ed_int (by decide) rfl
      have E1 : ∀ {X : Cx} {pos : Pos} {a : Expr} {j : Nat} {p2 : Pos} {ρ : List (Option D)}, EE X W ρ a (.tup [x, y]) → EE X W ρ (.Subscript a (.Constant (.int 1) j p2) pos) y := fun h => ed_ixT h ed_int (by decide) rfl
      by_cases hx : isStr x = true
      · obtain ⟨z, rfl⟩ : ∃ z, x = .str z := by cases x <;> first | exact ⟨_, rfl⟩ | cases hx
        by_cases hz : z = toldS
        · subst hz
          by_cases hy : isTup y = true
          · obtain ⟨fs, rfl⟩ : ∃ fs, y = .tup fs := by cases y <;> first | exact ⟨_, rfl⟩ | cases hy
            refine ss_skip (u := (!isStr (.str toldS)) || ((!decide (toldS = toldS)) || !isTup (.tup fs))) (WB.tb (wb_or (tb_not (tb_val (ed_isStr T.isinst T.str (E0 (ed_var 2)) rfl))) fun _ => wb_or (tb_neS (E0 (ed_var 2)) ed_str) fun _ => wb_or1 (tb_not (tb_val (ed_isTup T.isinst T.tuple (E1 (ed_var 2)) rfl))))) (by simp [isStr, isTup]) ?_
            have hwf : fs.length ≤ 1000 := by
              simp only [wd, wdL] at hwd; omega
            by_cases hb : fs.all isBl = true
            · obtain ⟨bs, rfl⟩ := bools_bl hb
              refine ss_ret (EE.is (ed_and (u := true) (w := decide (∀ o ∈ S, fl o = bs)) (EE.is (ed_all (bs := bs.map fun _ => true) rfl T.all (EE.is (ed_map1A 7 bs D.bl (fun _ => .bl true) rfl sc38.nd (id_tup (E1 (ed_var 2))) (blkOk_by (N := N38) (sc := defScope (top 38)) (by decide +kernel)) (by rw [List.length_map] at hwf; omega) (fun _ _ _ _ _ => pg_name sc38.nd rfl (Or.inl rfl))
                fun b hbm ys L nL s H C' cl fp => EE.is (ed_isBl (x := .bl b) T.isinst T.bool (ed_var 7) rfl) rfl) (congrArg D.lst (by rw [List.map_map]; rfl)))) (congrArg D.bl (by rw [List.all_map]; exact List.all_eq_true.mpr fun _ _ => rfl)))
                fun _ => ed_one (ED.imp (ed_cmpP (P := fun z => z = .bl (decide (∀ o ∈ S, fl o = bs))) (op_eqD hu) (nomark _) (ed_meth CT TC.cl hr1 pass0 (ed_var 0) rfl (ad_cons (ed_var 1) ad_nil) (P := ToldOf fl S) ⟨row, es, l, fl, S, rfl, hS, hlen, hfl, rfl⟩) (E1 (ed_var 2)) fun d e hd he => ?_) fun z hz => hz)) (congrArg D.bl (Bool.true_and _))) rfl ?_
              · subst he
                rcases hd with ⟨c, o, ho, rfl⟩ | ⟨nc, rfl⟩
                · have e1 : decide (∀ o ∈ S, fl o = bs) = decide (fl o = bs) := decide_eq_decide.mpr ⟨fun h => h o ho, fun h o' ho' => (c o' ho' o ho).trans h⟩
                  rw [e1, ← eqv_bs]
                  exact rr_eqP (.tup (pyR_bs _)) (.tup (pyR_bs _)) (shaped_bs _) (shaped_bs _)
                · have e1 : decide (∀ o ∈ S, fl o = bs) = false := decide_eq_false fun h => nc fun o ho o' ho' => (h o ho).trans (h o' ho').symm
                  rw [e1]
                  exact rr_eqP .non (.tup (pyR_bs _)) (by decide) (shaped_bs _)
              · show D.bl _ = D.bl _
                rw [dpt_two_told, decide_eq_true rfl, Bool.true_and]
            · refine ss_ret (ed_and0 (ed_all (bs := fs.map isBl) rfl T.all (EE.is (ed_map1A 7 fs id (fun d => .bl (isBl d)) rfl sc38.nd (PIimp (id_tup (E1 (ed_var 2))) fun σ H R ⟨ok, sl, q⟩ => ⟨ok, sl, fun J H1 Δ xs hx => q J H1 Δ xs (by rw [hx, List.map_id])⟩) (blkOk_by (N := N38) (sc := defScope (top 38)) (by decide +kernel)) (by omega) (fun _ _ _ _ _ => pg_name sc38.nd rfl (Or.inl rfl))
                fun d hd ys L nL s H C' cl fp => ed_isBl T.isinst T.bool (ed_var 7) (fit_kn (fitL_mem fy d hd))) (congrArg D.lst (by rw [List.map_map]; rfl)))) ?_) rfl ?_
              · rw [List.all_map]
                exact eq_false_of_ne_true hb
              · show D.bl _ = D.bl _
                have bad : ¬ (D.str toldS = .str toldS ∧ ∃ bs : List Bool, D.tup fs = .tup (bs.map .bl)) := fun ⟨_, bs, e⟩ => by
                  injection e with e
                  exact hb (List.all_eq_true.mpr fun d hd => by rw [e] at hd; obtain ⟨b, _, rfl⟩ := List.mem_map.mp hd; rfl)
                rw [dpt_two_bad bad]
          · refine ss_take (u := (!isStr (.str toldS)) || ((!decide (toldS = toldS)) || !isTup y)) (WB.tb (wb_or (tb_not (tb_val (ed_isStr T.isinst T.str (E0 (ed_var 2)) rfl))) fun _ => wb_or (tb_neS (E0 (ed_var 2)) ed_str) fun _ => wb_or1 (tb_not (tb_val (ed_isTup T.isinst T.tuple (E1 (ed_var 2)) (fit_kn fy)))))) (by simp [isStr, hy]) (ss_ret ed_bl rfl ?_)
            show D.bl _ = D.bl _
            rw [dpt_two_bad fun ⟨_, bs, e⟩ => by rw [e] at hy; exact hy rfl]
        · refine ss_take (u := (!isStr (.str z)) || true) (WB.tb (wb_or (tb_not (tb_val (ed_isStr T.isinst T.str (E0 (ed_var 2)) rfl))) fun _ => wb_or0 (tb_neS (E0 (ed_var 2)) ed_str) (by show (!decide (z = toldS)) = true; rw [decide_eq_false hz]; rfl))) (by simp) (ss_ret ed_bl rfl ?_)
          show D.bl _ = D.bl _
          rw [dpt_two_bad fun ⟨e, _⟩ => by injection e with e; exact hz e]
      · refine ss_take (WB.tb (wb_or0 (tb_not (tb_val (ed_isStr T.isinst T.str (E0 (ed_var 2)) (fit_kn fx)))) (by simp [hx]))) rfl (ss_ret ed_bl rfl ?_)
        show D.bl _ = D.bl _
        rw [dpt_two_bad fun ⟨e, _⟩ => by rw [e] at hx; exact hx rfl]
    · have hp2 : isPair thing = false := hpair.symm
      by_cases hT : isTup thing = true
      · obtain ⟨ds, rfl⟩ : ∃ ds, thing = .tup ds := by cases thing <;> first | exact ⟨_, rfl⟩ | cases hT
        have ne2 := isPair_len hp2
        by_cases h4 : ds.length = 4
        · obtain ⟨a, b, t1, t2, rfl⟩ := four_of h4
          have fa : fitD a = true := fitL_mem hfit a (by simp)
          have fb : fitD b = true := fitL_mem hfit b (by simp)
          have f1 : fitD t1 = true := fitL_mem hfit t1 (by simp)
          have f2 : fitD t2 = true := fitL_mem hfit t2 (by simp)
          have E0 : ∀ {X : Cx} {pos : Pos} {e : Expr} {j : Nat} {p2 : Pos} {ρ : List (Option D)}, EE X W ρ e (.tup [a, b, t1, t2]) → EE X W ρ (.Subscript e (.Constant (.int 0) j p2) pos) a := fun h => ed_ixT h ed_int (by decide) rfl
          have E1 : ∀ {X : Cx} {pos : Pos} {e : Expr} {j : Nat} {p2 : Pos} {ρ : List (Option D)}, EE X W ρ e (.tup [a, b, t1, t2]) → EE X W ρ (.Subscript e (.Constant (.int 1) j p2) pos) b := fun h => ed_ixT h ed_int (by decide) rfl
          have E2 : ∀ {X : Cx} {pos : Pos} {e : Expr} {j : Nat} {p2 : Pos} {ρ : List (Option D)}, EE X W ρ e (.tup [a, b, t1, t2]) → EE X W ρ (.Subscript e (.Constant (.int 2) j p2) pos) t1 := fun h => ed_ixT h ed_int (by decide) rfl
          have E3 : ∀ {X : Cx} {pos : Pos} {e : Expr} {j : Nat} {p2 : Pos} {ρ : List (Option D)}, EE X W ρ e (.tup [a, b, t1, t2]) → EE X W ρ (.Subscript e (.Constant (.int 3) j p2) pos) t2 := fun h => ed_ixT h ed_int (by decide) rfl
          have len4 : (!decide ((([a, b, t1, t2] : List D).length : Int) = 4)) = false := rfl
          by_cases hi : (isInt a && !isBl a) = true
          · by_cases hj : (isInt b && !isBl b) = true
            · obtain ⟨i, rfl⟩ := integer_is hi
              obtain ⟨j, rfl⟩ := integer_is hj
              refine ss_skip (u := (!isTup (.tup [.int i, .int j, t1, t2])) || ((!decide ((([D.int i, .int j, t1, t2] : List D).length : Int) = 4)) || ((!(isInt (.int i) && !isBl (.int i))) || !(isInt (.int j) && !isBl (.int j))))) (WB.tb (wb_or (tb_not (tb_val (ed_isTup T.isinst T.tuple (ed_var 2) hk))) fun _ => wb_or (tb_neI (ed_lenT T.len (ed_var 2)) ed_int) fun _ =>
                wb_or (tb_not (tb_val (ed_cal C2 hr1 pass0 (ad_cons (E0 (ed_var 2)) ad_nil) ⟨_, rfl, rfl, rfl⟩))) fun _ => wb_or1 (tb_not (tb_val (ed_cal C2 hr1 pass0 (ad_cons (E1 (ed_var 2)) ad_nil) ⟨_, rfl, rfl, rfl⟩))))) rfl ?_
              have d1 : dep t1 < m := by
                have := (@dep_four (.int i) (.int j) t1 t2).1
                omega
              have d2 : dep t2 < m := by
                have := (@dep_four (.int i) (.int j) t1 t2).2
                omega
              have w1 : wd t1 ≤ 1000 := by
                simp only [wd, wdL] at hwd; omega
              have w2 : wd t2 ≤ 1000 := by
                simp only [wd, wdL] at hwd; omega
              obtain ⟨m', rfl⟩ : ∃ m', m = m' + 1 := ⟨m - 1, by omega⟩
              have CR : Cal P w K mg base CX0 (2 + m') "is_tree_for" A38 (spN (okTF CA m')) := ⟨f, fd, ih m' rfl, hm, F.kp, hB⟩
              have hr2 := hr.mono (show 2 + m' ≤ 1 + (m' + 1) by omega)
              refine ss_for (α := Unit) (fun xs k _ => ∃ ll : List (Nat × Nat), xs = ll.map (partD S) ∧ (∀ p, p ∈ ll ↔ splits n S p) ∧ ∀ q ∈ ll.take k, ¬ (i = (q.1 : Int) ∧ j = (q.2 : Int)) ∧ ¬ (i = (q.2 : Int) ∧ j = (q.1 : Int))) (fun _ => W) (fun _ => [some (askD CA row es l), some (ordsT S), some (.tup [.int i, .int j, t1, t2]), none, none, none, none, none]) () rfl rfl
                (fun σ H => ∃ _ : Unit, ¬ goodQ n S i j ∧ At B W [] [some (askD CA row es l), some (ordsT S), some (.tup [.int i, .int j, t1, t2]), none, none, none, none, none] σ H) PassesOwn.never rfl
                (id_lstP (P := fun xs => ∃ ll : List (Nat × Nat), xs = ll.map (partD S) ∧ ∀ p, p ∈ ll ↔ splits n S p) (ED.imp (ed_meth CP TC.cl hr1 pass0 (ed_var 0) rfl (ad_cons (ed_var 1) ad_nil) (P := PartsOf n S) ⟨row, es, l, S, rfl, by omega, hlen, by rw [hrow]; exact hp, by rw [hrow]⟩) fun d ⟨ll, h1, _, h2⟩ => ⟨_, h1, ll, rfl, h2⟩)) (gd_tup (js := [3, 4, 5, 6]) rfl (gns_cons 3 (gns_cons 4 (gns_cons 5 (gns_cons 6 gns_nil sc38.nd) sc38.nd) sc38.nd) sc38.nd))
                (fun xs ⟨ll, h1, h2⟩ => ⟨ll, h1, h2, fun q hq => (by simp at hq)⟩) (fun xs k a hR hk d hd => ?_) (fun xs hx Γ1 k x a ρ' hxk hR hpt => ?_) (fun xs hx a σ H hR at_ => ?_) (SS.exP fun _ hg => ss_ret ed_bl rfl (show D.bl _ = D.bl _ by rw [dpt_four_bad hg]; rfl))
              · obtain ⟨ll, rfl, _⟩ := hR
                obtain ⟨p, _, rfl, _⟩ := map_at hd
                exact ⟨_, rfl⟩
              · obtain ⟨ll, rfl, hll, hno⟩ := hR
                obtain ⟨p, hpk, rfl, hpm⟩ := map_at hxk
                cases hpt
                have hs := (hll p).mp hpm
                obtain ⟨g1, g2⟩ := splits_good hs
                obtain ⟨s1, s2, s3, s4⟩ := hs
                refine ss_ifr (tb_eqII hu (ed_tup (ad_cons (E0 (ed_var 2)) (ad_cons (E1 (ed_var 2)) ad_nil)) (Nat.le_of_ble_eq_true rfl)) (ed_tup (ad_cons (ed_var 3) (ad_cons (ed_var 4) ad_nil)) (Nat.le_of_ble_eq_true rfl))) (fun h => ?_) (fun h => ?_)
                · have h' : i = (p.1 : Int) ∧ j = (p.2 : Int) := by
                    have := h.symm
                    rw [Bool.and_eq_true] at this
                    exact ⟨of_decide_eq_true this.1, of_decide_eq_true this.2⟩
                  obtain ⟨rfl, rfl⟩ := h'
                  refine ss_ret (ed_and (ed_cal CR hr2 pass0 (ad_cons (ed_var 0) (ad_cons (ed_var 5) (ad_cons (E2 (ed_var 2)) ad_nil))) ⟨fl, n, K14.fst S p.1 p.2, t1, ⟨row, es, l, rfl, hrow, hn, Nat.le_trans (fst_le _ _ _) hlen, hp.fst _ _, fun o ho => hfl o (mem_fst.mp ho).1, s3, f1, by omega, w1⟩, rfl⟩)
                    fun _ => ed_one (ed_cal CR hr2 pass0 (ad_cons (ed_var 0) (ad_cons (ed_var 6) (ad_cons (E3 (ed_var 2)) ad_nil))) ⟨fl, n, K14.fst S p.2 p.1, t2, ⟨row, es, l, rfl, hrow, hn, Nat.le_trans (fst_le _ _ _) hlen, hp.fst _ _, fun o ho => hfl o (mem_fst.mp ho).1, s4, f2, by omega, w2⟩, rfl⟩)) rfl ?_
                  show D.bl _ = D.bl _
                  rw [dpt_four_some g1, Int.toNat_natCast, Int.toNat_natCast]
                · refine ss_ifr (tb_eqII hu (ed_tup (ad_cons (E0 (ed_var 2)) (ad_cons (E1 (ed_var 2)) ad_nil)) (Nat.le_of_ble_eq_true rfl)) (ed_tup (ad_cons (ed_var 4) (ad_cons (ed_var 3) ad_nil)) (Nat.le_of_ble_eq_true rfl))) (fun h2 => ?_) (fun h2 => ?_)
                  · have h' : i = (p.2 : Int) ∧ j = (p.1 : Int) := by
                      have := h2.symm
                      rw [Bool.and_eq_true] at this
                      exact ⟨of_decide_eq_true this.1, of_decide_eq_true this.2⟩
                    obtain ⟨rfl, rfl⟩ := h'
                    refine ss_ret (ed_and (ed_cal CR hr2 pass0 (ad_cons (ed_var 0) (ad_cons (ed_var 6) (ad_cons (E2 (ed_var 2)) ad_nil))) ⟨fl, n, K14.fst S p.2 p.1, t1, ⟨row, es, l, rfl, hrow, hn, Nat.le_trans (fst_le _ _ _) hlen, hp.fst _ _, fun o ho => hfl o (mem_fst.mp ho).1, s4, f1, by omega, w1⟩, rfl⟩)
                      fun _ => ed_one (ed_cal CR hr2 pass0 (ad_cons (ed_var 0) (ad_cons (ed_var 5) (ad_cons (E3 (ed_var 2)) ad_nil))) ⟨fl, n, K14.fst S p.1 p.2, t2, ⟨row, es, l, rfl, hrow, hn, Nat.le_trans (fst_le _ _ _) hlen, hp.fst _ _, fun o ho => hfl o (mem_fst.mp ho).1, s3, f2, by omega, w2⟩, rfl⟩)) rfl ?_
                    show D.bl _ = D.bl _
                    rw [dpt_four_some g2, Int.toNat_natCast, Int.toNat_natCast]
                  · refine ss_nil fun σ H at_ => ⟨(), ⟨ll, rfl, hll, fun q hq => ?_⟩, at_.forget (by repeat (first | exact Wk.nil | refine Wk.keep ?_ | refine Wk.drop ?_))⟩
                    rcases (mem_take_succ hpk).mp hq with hq | rfl
                    · exact hno q hq
                    · refine ⟨fun ⟨e1, e2⟩ => ?_, fun ⟨e1, e2⟩ => ?_⟩
                      · rw [decide_eq_true e1, decide_eq_true e2] at h; cases h
                      · rw [decide_eq_true e1, decide_eq_true e2] at h2; cases h2
              · obtain ⟨ll, rfl, hll, hno⟩ := hR
                rw [List.length_map, List.take_length] at hno
                refine ⟨(), fun g => ?_, at_⟩
                obtain ⟨p, hs, hij⟩ := good_splits g
                exact hij.elim (hno p ((hll p).mpr hs)).1 (hno p ((hll p).mpr hs)).2
            · refine ss_take (u := (!isTup (.tup [a, b, t1, t2])) || ((!decide ((([a, b, t1, t2] : List D).length : Int) = 4)) || ((!(isInt a && !isBl a)) || !(isInt b && !isBl b)))) (WB.tb (wb_or (tb_not (tb_val (ed_isTup T.isinst T.tuple (ed_var 2) hk))) fun _ => wb_or (tb_neI (ed_lenT T.len (ed_var 2)) ed_int) fun _ =>
                wb_or (tb_not (tb_val (ed_cal C2 hr1 pass0 (ad_cons (E0 (ed_var 2)) ad_nil) ⟨_, rfl, fit_kn fa, rfl⟩))) fun _ => wb_or1 (tb_not (tb_val (ed_cal C2 hr1 pass0 (ad_cons (E1 (ed_var 2)) ad_nil) ⟨_, rfl, fit_kn fb, rfl⟩))))) (by rw [eq_false_of_ne_true hj]; simp) (ss_ret ed_bl rfl ?_)
              show D.bl _ = D.bl _
              rw [dpt_four_int fun h => hj h.2]; rfl
          · refine ss_take (u := (!isTup (.tup [a, b, t1, t2])) || ((!decide ((([a, b, t1, t2] : List D).length : Int) = 4)) || true)) (WB.tb (wb_or (tb_not (tb_val (ed_isTup T.isinst T.tuple (ed_var 2) hk))) fun _ => wb_or (tb_neI (ed_lenT T.len (ed_var 2)) ed_int) fun _ =>
              wb_or0 (tb_not (tb_val (ed_cal C2 hr1 pass0 (ad_cons (E0 (ed_var 2)) ad_nil) ⟨_, rfl, fit_kn fa, rfl⟩))) (by rw [eq_false_of_ne_true hi]; rfl))) (by simp) (ss_ret ed_bl rfl ?_)
            show D.bl _ = D.bl _
            rw [dpt_four_int fun h => hi h.1]; rfl
        · refine ss_take (u := (!isTup (.tup ds)) || true) (WB.tb (wb_or (tb_not (tb_val (ed_isTup T.isinst T.tuple (ed_var 2) hk))) fun _ => wb_or0 (tb_neI (ed_lenT T.len (ed_var 2)) ed_int) (by rw [decide_eq_false (by omega)]; rfl))) (by simp) (ss_ret ed_bl rfl ?_)
          show D.bl _ = D.bl _
          rw [dpt_len ne2 h4]; rfl
      · refine ss_take (WB.tb (wb_or0 (tb_not (tb_val (ed_isTup T.isinst T.tuple (ed_var 2) hk))) (by rw [eq_false_of_ne_true hT]; rfl))) rfl (ss_ret ed_bl rfl ?_)
        show D.bl _ = D.bl _
        rw [dpt_not_tup (eq_false_of_ne_true hT)]; rfl
end
end K14

set_option Elab.async false
set_option linter.all false
set_option maxRecDepth 100000
set_option maxHeartbeats 4000000
namespace K14
open PySem L2
section
variable {X : Cx} {B : Bs} {W : Res} {Γ : List (V × D)} {ρ : List (Option D)} {a b e : Expr} {pos : Pos} {rest : List Stmt} {E : Ends} {P P' : Addr → Cell → D → Prop} {P2 : Addr → D → Prop}
theorem ed_tup2O {k : Nat} (ha : PE X a (tDO W ρ P)) (hb : ∀ p c, ED X (W.add p c) ρ b (P2 p)) (hP : ∀ p c d1 d2, P p c d1 → P2 p d2 → P' p c (.tup [d1, d2])) (hs : starEach [a, b] X.env = (false, eval a X.env) :: starEach [b] X.env := by rfl) (hs2 : starEach [b] X.env = (false, eval b X.env) :: starEach [] X.env := by rfl) :
    PE X (.Tuple [a, b] k pos) (tDO W ρ P') := by
  have hb' : PE X b (fun σ H Q => ∃ q : Addr × Cell, tD (W.add q.1 q.2) ρ (P2 q.1) σ H Q) := PEex fun q => hb q.1 q.2
  refine PEimp (pe_tup (pa_cons ha (pa_cons hb' pa_nil hs2) hs)) fun σ H Q ⟨ok, sl, q⟩ => ⟨ok, sl, fun p c d1 v1 H1 p1 np e1 ok1 r1 => ?_⟩
  have kk : Keeps W.m (W.add p c).m H H1 := fun b u n hb => ⟨fun z => z.elim n (fun z => by rw [z, np] at hb; cases hb), e1.keep b u n hb⟩
  refine ⟨(p, c), ok1, sl.mono kk, fun d2 v2 H2 e2 ok2 p2 r2 => ⟨by show 2 ≤ sizeLine; decide, fun t ht => ?_⟩⟩
  have e3 : Ext W.m H H2 := ⟨fun b u n hb => e2.keep b u (kk b u n hb).1 (kk b u n hb).2, fun b hb => e1.dom b (e2.dom b hb)⟩
  have nt : ¬ (W.add p c).m t := (W.add p c).fresh ok2 ht
  exact q p c _ (.ref t) _ (hP p c d1 d2 p1 p2) np (e3.trans (.new ht)) ((W.add p c).new ok2 ht) (.tup nt upd_same (.cons ((r1.ext e2).ext (.new ht)) (.cons (r2.ext (.new ht)) .nil)))
theorem ss_retO (ha : PE X e (tDO W ρ P)) (hB : B.M = W.m) (hE : ∀ v H', gDO W P B.H v H' → E.rt v H') : SS X (At B W Γ ρ) (.Return (some e) pos :: rest) E :=
  ss_cons (Ψ := fun _ _ => False) (ps_ret ha) (fun Dn σ H at_ _ kr _ _ => ⟨at_.ok, at_.sl, fun p c d v H' pp np ex ok' r => kr v H' (hE v H' ⟨p, c, d, pp, at_.ext.dom p np, by
    have := at_.ext
    rw [hB] at this
    exact this.trans ex, ok', r⟩)⟩) (SS.never fun _ _ z => z)
theorem ss_exprGP {c : Expr} {R : RX} {Wx : WX} {P1 : D → Prop} (h : PE X c (tCG W ρ (gD W P1) R Wx)) (hx : ∀ c d σ H, At B W Γ ρ σ H → R c d H → Wx c d σ H) (h2 : ∀ d, P1 d → SS X (At B W Γ ρ) rest E) (hs : swapsWith c none pos.line X.env = pure false := by rfl) : SS X (At B W Γ ρ) (.Expr c pos :: rest) E :=
  ss_cons (Ψ := fun σ H => ∃ d, P1 d ∧ At B W Γ ρ σ H) (ps_expr h hs) (fun Dn σ H at_ kn _ _ _ => ⟨at_.ok, at_.sl, fun H1 v H2 e1 ok1 ⟨d, pd, e2, ok2, r⟩ => kn _ _ ⟨d, pd, (at_.go e1 ok1).go e2 ok2⟩, fun c d H2 e2 ok2 r => hx c d σ H2 (at_.go e2 ok2) r⟩) (SS.exP h2)
theorem PEO.imp {e : Expr} (h : PE X e (tDO W ρ P)) (k : ∀ p c d, P p c d → ∃ c', (∀ M H, c.I M H p → c'.I M H p) ∧ P' p c' d) : PE X e (tDO W ρ P') :=
  PEimp h fun σ H Q ⟨ok, sl, q⟩ => ⟨ok, sl, fun p c d v H' pp np ex ok' r => by
    obtain ⟨c', h1, h2⟩ := k p c d pp
    exact q p c' d v H' h2 np ex ⟨ok'.1, h1 _ _ ok'.2⟩ r⟩
end
/-- the class Seats -/
structure SeatC (K : PySem.W.Frag) (C : Addr) : Prop where
  cl : Cls K C
  nM : NoAttr K C "marks"
  nL : NoAttr K C "lots"
def seatD (CS : Addr) (m : Str) (ls : List (List Str)) : D := .ins CS [(("marks" : Str), .str m), (("lots" : Str), lotsD ls)]
structure AskIn (CS : Addr) (ds : List D) (m : Str) (ls : List (List Str)) (row : List Str) (thing : D) : Prop where
  eq : ds = [seatD CS m ls, .tup (row.map .str), thing]
  len : row.length ≤ 10
  short : ∀ z ∈ row, z.length ≤ 1000
  lots : ls.length ≤ 1000
  fit : Fit thing
structure AskOut (m : Str) (row : List Str) (thing : D) (prs : List (Nat × Nat)) (es : List (NestedKey × D)) : Prop where
  fine : Fine row.length thing prs es
  loose : Loose row.length es
  few : row.length ≤ 5
  rowOk : rowB m row = true
def RAsk (CR CK CM : Addr) (m : Str) (row : List Str) (thing : D) : RX := fun c d H => (rowB m row = false ∧ rRow CR c d H) ∨ (rowB m row = true ∧ BadKnown row.length thing ∧ rRow CK c d H) ∨ (rowB m row = true ∧ 5 < row.length ∧ rMany CM c d H ∧ ∃ prs es, Fine row.length thing prs es ∧ Loose row.length es)
abbrev flL (ls : List (List Str)) (row : List Str) : List Nat → List Bool := flg (hasL ls) ls.length row
theorem flL_len (ls : List (List Str)) (row : List Str) (o : List Nat) : (flL ls row o).length = row.length := by unfold flL flg; rw [List.length_map, List.length_range]
section
variable {P : Program} {w : World} {K : PySem.W.Frag} {mg : Str → Option Value} {base : Heap} {f CR CK CM fM CA CS : Addr} {fd fdM : FuncData}
def AskG (CA : Addr) (m : Str) (ls : List (List Str)) (row : List Str) (thing : D) (l : Addr) (c : Cell) (d : D) : Prop := ∃ prs es, AskOut m row thing prs es ∧ c = someN (Memo (flL ls row) row.length (ordP row.length (cOf es) row.length)) ∧
  d = .tup [askD CA row (flagEs (flL ls row) row.length) l, ordsT (ordP row.length (cOf es) row.length)]
def okAsk (CA CS CR CK CM : Addr) (W : Res) (ds : List D) (G : GX) (R : RX) : Prop := ∃ (m : Str) (ls : List (List Str)) (row : List Str) (thing : D), AskIn CS ds m ls row thing ∧ G = gDO W (AskG CA m ls row thing) ∧ R = RAsk CR CK CM m row thing
theorem ok35 (F : FnM K "asking_of" "asking_of" (top 35) f fd) (T : Tx mg) (TE : ExT K mg CR CK CM fM fdM) (SC : SeatC K CS) (C1 : Cal P w K mg base (L2N.CX P w) 4 "check_row" A19 (spG (okCheckRow CR))) (C2 : Cal P w K mg base (L2N.CX P w) 4 "check_known" A31 (spG (okCheckKnown CK)))
    (C3 : CalK P w K mg base CX0 4 "Asking" CA A34_0 (spIO (okAskInit CA))) (C4 : Cal P w K mg base CX0 1 "orders_of" A32 (spN okOrdP)) : FnOk P w K mg base (L2N.CX P w) 6 f fd A35 (spG (okAsk CA CS CR CK CM)) := by
  refine fn_G F sc35 (fun W ds G R ⟨_, _, _, _, h, _⟩ => by rw [h.eq]; rfl) fun cdv A outer s H E W ds G R B hr h hB hE => ?_
  obtain ⟨m, ls, row, thing, ⟨rfl, hlen, hz, hl, hfit⟩, rfl, rfl⟩ := h
  obtain ⟨t5, m5⟩ := T.mAsked
  refine ss_exprGP (P1 := fun d => d = .non ∧ rowB m row = true) (pe_callG C1 (hr.mono (by decide)) (L2N.takes_of rfl rfl rfl rfl) (ad_cons (ed_fld (ed_var 0) SC.cl SC.nM rfl) (ad_cons (ed_var 1) ad_nil)) ⟨m, row, rfl, by omega, hz, rfl, rfl⟩) (fun c d σ H at_ hR => hE c d H at_.ext at_.ok (.inl hR)) fun d hd => ?_
  have hrow := hd.2
  refine ss_setG 3 (P := fun d => ∃ prs es, Fine row.length thing prs es ∧ Loose row.length es ∧ d = .dnk es) (pe_callG C2 (hr.mono (by decide)) (L2N.takes_of rfl rfl rfl rfl) (ad_cons (EE.is (ed_lenT T.len (ed_var 1)) (y := natD row.length) (by rw [List.length_map]; rfl)) (ad_cons (ed_var 2) ad_nil)) ⟨row.length, thing, rfl, hfit, hlen, rfl, rfl⟩) (fun c d σ H at_ hR => hE c d H at_.ext at_.ok (.inr (.inl ⟨hrow, hR.1, hR.2⟩))) (fun d hd => ?_) sc35.nd
  obtain ⟨prs, es, hfine, hloose, rfl⟩ := hd
  refine ss_ifr (tb_gt (EE.is (ed_lenT T.len (ed_var 1)) (y := natD row.length) (by rw [List.length_map]; rfl)) (ed_gint m5)) (fun h => ?_) (fun h => ?_)
  · have h5 : (5 : Int) < (row.length : Int) := of_decide_eq_true h.symm
    exact ss_raise (L2N.takes_of rfl rfl rfl rfl) (pmk_many TE (hr.mono (by decide)) (ed_gint m5)) fun σ H at_ => ⟨at_.ok, at_.sl, fun c d H' e1 ok1 hR => hE c d H' (at_.go e1 ok1).ext ok1 (.inr (.inr ⟨hrow, by omega, hR, prs, es, hfine, hloose⟩))⟩
  · have h5 : ¬ (5 : Int) < (row.length : Int) := of_decide_eq_false h.symm
    have hfew : row.length ≤ 5 := by omega
    refine ss_retO (P := AskG CA m ls row thing) (ed_tup2O (P := fun l c d => c = someN (Memo (flL ls row) row.length (ordP row.length (cOf es) row.length)) ∧ d = askD CA row (flagEs (flL ls row) row.length) l) (P2 := fun _ d => d = ordsT (ordP row.length (cOf es) row.length))
      (PEO.imp (ed_makeO C3 hr pass0 (ad_cons (ed_fld (ed_var 0) SC.cl SC.nL rfl) (ad_cons (ed_var 1) ad_nil)) ⟨ls, row, rfl, rfl, hl, hfew, rfl, rfl⟩) fun l c d ⟨h1, h2⟩ => ⟨someN (Memo (flL ls row) row.length (ordP row.length (cOf es) row.length)), fun M H hI => ⟨[], Memo.start, by rw [h1] at hI; exact hI⟩, rfl, h2⟩)
      (fun l c => ed_tuple T.tuple (ED.imp (ed_cal C4 (hr.mono (by decide)) pass0 (ad_cons (EE.is (ed_lenT T.len (ed_var 1)) (y := natD row.length) (by rw [List.length_map]; rfl)) (ad_cons (ed_var 3) ad_nil)) ⟨row.length, es, rfl, hfew, rfl⟩) fun d hd => hd))
      (fun l c d1 d2 h1 h2 => ⟨prs, es, ⟨hfine, hloose, hfew, hrow⟩, h1.1, by rw [h1.2, h2]⟩)) hB fun v H' g => g
end
end K14

set_option Elab.async false
set_option linter.all false
set_option maxRecDepth 100000
set_option maxHeartbeats 4000000
namespace K14
open PySem L2
section
variable {P : Program} {w : World} {K : PySem.W.Frag} {mg : Str → Option Value} {base : Heap} {f CR CK CM fM CA CS : Addr} {fd fdM : FuncData}
abbrev ordsE (n : Nat) (es : List (NestedKey × D)) : List (List Nat) := ordP n (cOf es) n
def NeAsk (m : Str) (row : List Str) (thing : D) : Prop := ∀ prs es, AskOut m row thing prs es → ordsE row.length es ≠ []
def okLeast (CS CR CK CM : Addr) (W : Res) (ds : List D) (G : GX) (R : RX) : Prop := ∃ (m : Str) (ls : List (List Str)) (row : List Str) (thing : D), AskIn CS ds m ls row thing ∧ NeAsk m row thing ∧
  G = gD W (fun d => ∃ prs es, AskOut m row thing prs es ∧ d = natD (lst (flL ls row) row.length (ordsE row.length es))) ∧ R = RAsk CR CK CM m row thing
theorem best_in {W : Res} {l : Addr} {m : Str} {ls : List (List Str)} {row : List Str} {thing : D} {prs : List (Nat × Nat)} {es : List (NestedKey × D)} (nl : ¬ W.m l) (h : AskOut m row thing prs es) (ne : ordsE row.length es ≠ []) :
    BestIn CA 10 (W.add l (someN (Memo (flL ls row) row.length (ordsE row.length es)))) [askD CA row (flagEs (flL ls row) row.length) l, ordsT (ordsE row.length es)] row.length (flL ls row) (ordsE row.length es) := by
  have hp := ordP_perms row.length (cOf es)
  exact ⟨W, l, row, _, _, rfl, nl, rfl, rfl, h.few, Nat.le_trans (ordP_le2 h.few h.few) (by decide), hp, .base, ne, flagEs_ok hp fun o => by rw [flL_len]; exact Nat.le_trans h.few (by decide), sp_le_ten h.few⟩
theorem ok36 (F : FnM K "asked_least" "asked_least" (top 36) f fd) (TC : AskC K CA) (C1 : Cal P w K mg base (L2N.CX P w) 6 "asking_of" A35 (spG (okAsk CA CS CR CK CM))) (CB : ∀ m, CalM P w K mg base CX0 (2 + m) CA "best" A34_3 (spW (okBest CA m))) :
    FnOk P w K mg base (L2N.CX P w) 13 f fd A36 (spG (okLeast CS CR CK CM)) := by
  refine fn_G F sc36 (fun W ds G R ⟨_, _, _, _, h, _⟩ => by rw [h.eq]; rfl) fun cdv A outer s H E W ds G R B hr h hB hE => ?_
  obtain ⟨m, ls, row, thing, hin, hne, rfl, rfl⟩ := h
  obtain ⟨rfl, hlen, hz, hl, hfit⟩ := id hin
  refine ss_unpackGO (t := .tup [3, 4]) (gd_tup (js := [3, 4]) rfl (gns_cons 3 (gns_cons 4 gns_nil sc36.nd) sc36.nd)) (pe_callG C1 (hr.mono (by decide)) (L2N.takes_of rfl rfl rfl rfl) (ad_cons (ed_var 0) (ad_cons (ed_var 1) (ad_cons (ed_var 2) ad_nil))) ⟨m, ls, row, thing, hin, rfl, rfl⟩) (fun c d σ H at_ hR => hE c d H at_.ext at_.ok hR) fun l c d hP nl => ?_
  obtain ⟨prs, es, hout, rfl, rfl⟩ := hP
  refine ⟨_, rfl, ss_retP (P := fun d => d = natD (lst (flL ls row) row.length (ordsE row.length es))) (ed_ixTP (i := 0) (ed_meth (CB 10) TC.cl hr pass0 (ed_var 3) rfl (ad_cons (ed_var 4) ad_nil) (P := BestOf (flL ls row) row.length (ordsE row.length es)) ⟨_, _, _, best_in nl hout (hne prs es hout), rfl⟩) ed_int fun d hd => let ⟨ds, h1, h2⟩ := hd.shape; ⟨ds, _, h1, h2, rfl⟩)
    fun d v σ H hd at_ r => ⟨d, ⟨prs, es, hout, hd⟩, by rw [← hB]; exact at_.ext, (RLe.add .refl).ok at_.ok, (RLe.add .refl).rp r⟩⟩
def okTreeF (CS CR CK CM : Addr) (W : Res) (ds : List D) (G : GX) (R : RX) : Prop := ∃ (m : Str) (ls : List (List Str)) (row : List Str) (thing : D), AskIn CS ds m ls row thing ∧ NeAsk m row thing ∧
  G = gD W (fun d => ∃ prs es, AskOut m row thing prs es ∧ TreeOf (flL ls row) row.length (ordsE row.length es) d) ∧ R = RAsk CR CK CM m row thing
theorem ok37 (F : FnM K "tree" "tree" (top 37) f fd) (TC : AskC K CA) (C1 : Cal P w K mg base (L2N.CX P w) 6 "asking_of" A35 (spG (okAsk CA CS CR CK CM))) (CB : ∀ m, CalM P w K mg base CX0 (3 + m) CA "tree" A34_4 (spW (okTree CA m))) :
    FnOk P w K mg base (L2N.CX P w) 14 f fd A37 (spG (okTreeF CS CR CK CM)) := by
  refine fn_G F sc37 (fun W ds G R ⟨_, _, _, _, h, _⟩ => by rw [h.eq]; rfl) fun cdv A outer s H E W ds G R B hr h hB hE => ?_
  obtain ⟨m, ls, row, thing, hin, hne, rfl, rfl⟩ := h
  obtain ⟨rfl, hlen, hz, hl, hfit⟩ := id hin
  refine ss_unpackGO (t := .tup [3, 4]) (gd_tup (js := [3, 4]) rfl (gns_cons 3 (gns_cons 4 gns_nil sc37.nd) sc37.nd)) (pe_callG C1 (hr.mono (by decide)) (L2N.takes_of rfl rfl rfl rfl) (ad_cons (ed_var 0) (ad_cons (ed_var 1) (ad_cons (ed_var 2) ad_nil))) ⟨m, ls, row, thing, hin, rfl, rfl⟩) (fun c d σ H at_ hR => hE c d H at_.ext at_.ok hR) fun l c d hP nl => ?_
  obtain ⟨prs, es, hout, rfl, rfl⟩ := hP
  refine ⟨_, rfl, ss_retP (P := TreeOf (flL ls row) row.length (ordsE row.length es)) (ed_meth (CB 10) TC.cl hr pass0 (ed_var 3) rfl (ad_cons (ed_var 4) ad_nil) ⟨_, _, _, best_in nl hout (hne prs es hout), rfl⟩)
    fun d v σ H hd at_ r => ⟨d, ⟨prs, es, hout, hd⟩, by rw [← hB]; exact at_.ext, (RLe.add .refl).ok at_.ok, (RLe.add .refl).rp r⟩⟩
def okIsTree (CS CR CK CM : Addr) (W : Res) (ds : List D) (G : GX) (R : RX) : Prop := ∃ (m : Str) (ls : List (List Str)) (row : List Str) (thing t : D) (ds' : List D), ds = ds' ++ [t] ∧ AskIn CS ds' m ls row thing ∧ NeAsk m row thing ∧ fitD t = true ∧ dep t ≤ 60 ∧ wd t ≤ 1000 ∧
  G = gD W (fun d => ∃ prs es, AskOut m row thing prs es ∧ d = .bl (dpt (flL ls row) row.length (ordsE row.length es) t).isSome) ∧ R = RAsk CR CK CM m row thing
theorem ok39 (F : FnM K "is_tree" "is_tree" (top 39) f fd) (TC : AskC K CA) (C1 : Cal P w K mg base (L2N.CX P w) 6 "asking_of" A35 (spG (okAsk CA CS CR CK CM))) (C2 : ∀ m, Cal P w K mg base CX0 (2 + m) "is_tree_for" A38 (spN (okTF CA m))) :
    FnOk P w K mg base (L2N.CX P w) 63 f fd A39 (spG (okIsTree CS CR CK CM)) := by
  refine fn_G F sc39 (fun W ds G R ⟨_, _, _, _, _, _, h0, h, _⟩ => by rw [h0, h.eq]; rfl) fun cdv A outer s H E W ds G R B hr h hB hE => ?_
  obtain ⟨m, ls, row, thing, t, ds', rfl, hin, hne, hft, hdt, hwt, rfl, rfl⟩ := h
  obtain ⟨rfl, hlen, hz, hl, hfit⟩ := id hin
  refine ss_unpackGO (t := .tup [4, 5]) (gd_tup (js := [4, 5]) rfl (gns_cons 4 (gns_cons 5 gns_nil sc39.nd) sc39.nd)) (pe_callG C1 (hr.mono (by decide)) (L2N.takes_of rfl rfl rfl rfl) (ad_cons (ed_var 0) (ad_cons (ed_var 1) (ad_cons (ed_var 2) ad_nil))) ⟨m, ls, row, thing, hin, rfl, rfl⟩) (fun c d σ H at_ hR => hE c d H at_.ext at_.ok hR) fun l c d hP nl => ?_
  obtain ⟨prs, es, hout, rfl, rfl⟩ := hP
  have hp := ordP_perms row.length (cOf es)
  refine ⟨_, rfl, ss_retP (P := fun d => d = .bl (dpt (flL ls row) row.length (ordsE row.length es) t).isSome) (ed_cal (C2 60) hr pass0 (ad_cons (ed_var 4) (ad_cons (ed_var 5) (ad_cons (ed_var 3) ad_nil))) ⟨flL ls row, row.length, ordsE row.length es, t, ⟨row, _, l, rfl, rfl, hout.few, Nat.le_trans (ordP_le2 hout.few hout.few) (by decide), hp, flagEs_ok hp (fun o => by rw [flL_len]; exact Nat.le_trans hout.few (by decide)), hne prs es hout, hft, hdt, hwt⟩, rfl⟩)
    fun d v σ H hd at_ r => ⟨d, ⟨prs, es, hout, hd⟩, by rw [← hB]; exact at_.ext, (RLe.add .refl).ok at_.ok, (RLe.add .refl).rp r⟩⟩
/-! ### Seats -/
def lotsB (m : Str) (ls : List (List Str)) : Prop := ∀ l ∈ ls, lotB m l = true
def okNoLot (ds : List D) (Q : D → Prop) : Prop := ∃ (m : Str) (ls : List (List Str)), ds = [.str m, lotsD ls] ∧ ls.length ≤ 1000 ∧ (∀ l ∈ ls, l.length ≤ 1000 ∧ ∀ z ∈ l, z.length ≤ 1000) ∧ lotsB m ls ∧ Q = fun d => d = .non
theorem ok21 (F : FnM K "first_no_lot" "first_no_lot" (top 21) f fd) (T : Tx mg) (C : Cal P w K mg base CX0 3 "is_lot" A17 (spN okLot)) : FnOk P w K mg base CX0 4 f fd A21 (spN okNoLot) := by
  refine fn_data F sc21 (fun ds Q ⟨_, _, h, _⟩ => by rw [h]; rfl) fun cdv A outer s H E W ds Q B hr h => ?_
  obtain ⟨m, ls, rfl, hl, hz, hb, rfl⟩ := h
  refine ss_for (α := Unit) (fun xs _ _ => xs = enumD (ls.map lotD)) (fun _ => W) (fun _ => [some (.str m), some (lotsD ls), none, none]) () rfl rfl (At B W [] [some (.str m), some (lotsD ls), none, none]) PassesOwn.never rfl (id_enumT T.enumerate (ed_var 1)) (gd_tup (js := [2, 3]) rfl (gns_cons 2 (gns_cons 3 gns_nil sc21.nd) sc21.nd))
    (fun xs h => h) (fun xs i a h hi d hd => ?_) (fun xs hx Γ' i x a ρ' hxi hR hp => ?_) (fun xs hx a σ H hR at_ => at_) (ss_ret ed_non)
  · subst h
    unfold enumD at hd
    rw [List.getElem?_mapIdx] at hd
    cases e : (ls.map lotD)[i]? with
    | none => rw [e] at hd; cases hd
    | some lo => rw [e] at hd; cases hd; exact ⟨_, rfl⟩
  · subst hx
    unfold enumD at hxi
    rw [List.getElem?_mapIdx, List.getElem?_map] at hxi
    cases e : ls[i]? with
    | none => rw [e] at hxi; cases hxi
    | some lo =>
      rw [e] at hxi
      cases hxi
      cases hp
      have hm := List.mem_of_getElem? e
      refine ss_skip (tb_not (tb_val (ed_cal C hr pass0 (ad_cons (ed_var 0) (ad_cons (ed_var 3) ad_nil)) ⟨m, lo, rfl, (hz lo hm).1, (hz lo hm).2, rfl⟩))) (by rw [hb lo hm]; rfl) (ss_nil fun σ H at_ => ⟨(), rfl, at_.forget (by repeat (first | exact Wk.nil | refine Wk.keep ?_ | refine Wk.drop ?_))⟩)

def okSeats (CS : Addr) (C : Addr) (ds : List D) (gs : List (Str × D)) : Prop := ∃ (m : Str) (ls : List (List Str)), C = CS ∧ ds = [.str m, lotsD ls] ∧ m.length ≤ 5 ∧ marksB m = true ∧ ls.length ≤ 40 ∧ (∀ l ∈ ls, l.length ≤ 1000 ∧ ∀ z ∈ l, z.length ≤ 1000) ∧ lotsB m ls ∧ gs = [(("marks" : Str), .str m), (("lots" : Str), lotsD ls)]
theorem putLots (r d : D) : putFD "lots" d [(("marks" : Str), r)] = [(("marks" : Str), r), (("lots" : Str), d)] := by
  show (if ("marks" : Str) = "lots" then _ else _) = _
  rw [if_neg (by decide +kernel)]
  rfl
theorem ok22_0 (F : FnM K "__init__" "Seats.__init__" (inClass (top 22) 0) f fd) (T : Tx mg) (SC : SeatC K CS) (C1 : Cal P w K mg base CX0 2 "is_marks" A15 (spN okMarks)) (C2 : Cal P w K mg base CX0 4 "first_no_lot" A21 (spN okNoLot)) : FnOk P w K mg base CX0 5 f fd A22_0 (spI (okSeats CS)) := by
  refine fn_init F sc22_0 (fun C ds gs ⟨_, _, _, h, _⟩ => by rw [h]; rfl) fun cdv A outer s H E W o C ds gs B hr h no => ?_
  obtain ⟨m, ls, rfl, rfl, hm, hmk, hl, hz, hb, rfl⟩ := h
  obtain ⟨t5, m5⟩ := T.mSeats
  refine ss_skip (tb_not (tb_val (ed_cal C1 (hr.mono (by decide)) pass0 (ad_cons (ed_var 1) ad_nil) ⟨m, rfl, hm, rfl⟩))) (by rw [hmk]; rfl) ?_
  refine ss_skip (WB.tb (wb_or (tb_not (tb_val (ed_isTup T.isinst T.tuple (ed_var 2) rfl))) fun _ => wb_or1 (tb_gt (ed_lenT T.len (ed_var 2)) (ed_gint m5)))) ?_ ?_
  · show (false || decide ((40 : Int) < (ls.map lotD).length)) = false
    rw [List.length_map, decide_eq_false (by omega)]; rfl
  · refine ss_set 3 (d := .non) (ed_cal C2 hr pass0 (ad_cons (ed_var 1) (ad_cons (ed_var 2) ad_nil)) ⟨m, ls, rfl, by omega, hz, hb, rfl⟩) ?_ sc22_0.nd
    refine ss_skip (tb_notN (ed_var 3)) rfl ?_
    refine ss_fld no (ed_var 0) (ed_var 1) SC.cl SC.nM (by decide) ?_
    rw [show putFD "marks" (.str m) [] = [(("marks" : Str), D.str m)] from rfl]
    refine ss_fld no (ed_var 0) (ed_var 2) SC.cl SC.nL (Nat.lt_of_sub_eq_succ rfl) ?_
    rw [putLots]
    exact ss_nil fun σ H at_ => ⟨at_.ext, at_.ok⟩
end
end K14

set_option Elab.async false
set_option linter.all false
set_option maxRecDepth 100000
set_option maxHeartbeats 4000000
namespace K14
open PySem L2
/-! ### the tape -/
theorem RpL.setAt {M : Ms} {H : Hp} {v : V} {d : D} : ∀ {xs : List V} {ds : List D} (i : Nat), RpL M H xs ds → Rp M H v d → RpL M H (xs.set i v) (ds.set i d)
  | _, _, _, .nil, _ => .nil
  | _, _, 0, .cons _ l, r => .cons r l
  | _, _, i + 1, .cons q l, r => .cons q (RpL.setAt i l r)
def someL (Inv : List D → Prop) : Cell where
  I := fun M H a => ∃ ds, Inv ds ∧ (ownL ds).I M H a
  dom := fun ⟨ds, _, h⟩ => (ownL ds).dom h
  stab := fun ⟨ds, i, h⟩ q k => ⟨ds, i, (ownL ds).stab h q k⟩
  grow := fun ⟨ds, i, h⟩ k => ⟨ds, i, (ownL ds).grow h k⟩
  shrink := fun ⟨ds, i, h⟩ k => ⟨ds, i, (ownL ds).shrink h k⟩
section
variable {X : Cx} {B : Bs} {W : Res} {Γ : List (V × D)} {ρ : List (Option D)} {l : Addr} {a b e : Expr} {d : D} {pos pos2 : Pos} {rest : List Stmt} {E : Ends} {Inv : List D → Prop} {ds : List D}
theorem ss_openL (h : ∀ ds, Inv ds → SS X (At B (W.add l (ownL ds)) Γ ρ) rest E) : SS X (At B (W.add l (someL Inv)) Γ ρ) rest E :=
  SS.pre (Ψ := fun σ H => ∃ ds, Inv ds ∧ At B (W.add l (ownL ds)) Γ ρ σ H) (SS.exP h) fun σ H a => by
    obtain ⟨ds, i, q⟩ := id a.ok.2
    exact ⟨ds, i, ⟨a.ext, ⟨a.ok.1, q⟩, a.sl, a.gh, a.own⟩⟩
theorem RLe.tape (i : Inv ds) : RLe (W.add l (someL Inv)) (W.add l (ownL ds)) := ⟨fun _ h => h, fun _ _ h => ⟨h.1, ds, i, h.2⟩⟩
theorem ed_ixO {i : Int} (hI : ∀ H, W.ok H → (ownL ds).I W.m H l) (ha : EE X W ρ a (.obj l)) (hb : EE X W ρ b (.int i)) (h0 : 0 ≤ i) (h : ds[i.toNat]? = some d) (hs : PlainIx b := by exact fun _ _ => rfl) : EE X W ρ (.Subscript a b pos) d :=
  ed_ixP ix_list hs ha hb fun _ _ h1 h2 => by
    subst h1 h2
    intro v1 v2 H ok r1 r2 Q q
    cases r1
    cases r2
    obtain ⟨xs, e, r⟩ := hI H ok
    obtain ⟨v, ev, rv⟩ := r.get h
    exact ⟨l, xs, i, v, rfl, rfl, .inl (.inl e), by rw [show i = ((i.toNat : Nat) : Int) by omega]; exact atI_nat ev, q _ _ H .refl ok rfl rv⟩
theorem ss_lset {i : Nat} (hl : ¬ W.m l) (ha : EE X (W.add l (ownL ds)) ρ a (.obj l)) (hb : EE X (W.add l (ownL ds)) ρ b (.int (i : Int))) (hv : EE X (W.add l (ownL ds)) ρ e d) (hi : i < ds.length) (h2 : SS X (At B (W.add l (ownL (ds.set i d))) Γ ρ) rest E)
    (hsub : ∀ v, assign (.Subscript a b pos2) X.env v = (do
      let ov ← holding [v] (eval a X.env)
      let iv ← holding [v, ov] (eval b X.env)
      standAt pos2
      holding [v, ov, iv] (setItem ov iv v)
      release [v, ov, iv] []) := by intro _; rfl)
    (hs : swapsWithSole [.Subscript a b pos2] e pos.line X.env = pure false := by rfl) (hw : swappedStores [.Subscript a b pos2] e X.env = pure none := by rfl) (h1 : (assignEach [.Subscript a b pos2] X.env).map (·.2) = [assign (.Subscript a b pos2) X.env] := by rfl) : SS X (At B (W.add l (ownL ds)) Γ ρ) (.Assign [.Subscript a b pos2] e pos :: rest) E :=
  ss_cons (Ψ := At B (W.add l (ownL (ds.set i d))) Γ ρ) (ps_asg hv (pg_sub ha hb set_list hsub) hs hw h1)
    (fun Dn σ H at_ kn _ _ _ => ⟨at_.ok, at_.sl, fun z v H1 e1 ok1 hz r1 => ⟨ok1, at_.sl.ext e1, fun z2 v2 H2 e2 ok2 hz2 r2 => ⟨ok2, (at_.sl.ext e1).ext e2, fun z3 v3 H3 e3 ok3 hz3 r3 => by
      subst hz hz2 hz3
      cases r2
      cases r3
      obtain ⟨xs, he, rl⟩ := id ok3.2
      have at3 := ((at_.go e1 ok1).go e2 ok2).go e3 ok3
      have hlen := rl.length
      have rv := (r1.ext e2).ext e3
      have ex : Ext (W.add l (ownL ds)).m H3 (upd H3 l (.lst (xs.set i v))) := .mut (.inr rfl) he
      have hj : ixN xs.length (i : Int) = some i := by
        unfold ixN
        rw [if_pos (Int.natCast_nonneg i), if_pos (by omega)]
        rfl
      refine ⟨l, xs, (i : Int), i, rfl, rfl, he, hj, kn _ _ (at3.upd (c' := ownL (ds.set i z)) hl ⟨_, upd_same, ?_⟩)⟩
      exact (rl.mono ex.keeps).setAt i (rv.ext ex)⟩⟩⟩) h2
end

def tapeL (sc : List Int) (a b c d : Int) : List D := [.lst (sc.map .int), .int a, .int b, .int c, .int d]
def Tape (ds : List D) : Prop := ∃ (sc : List Int) (a b c d : Int), ds = tapeL sc a b c d ∧ 0 ≤ a
def pickD (n : Nat) (d : D) : Prop := ∃ k : Nat, k < n ∧ d = natD k
def okPick (W : Res) (ds : List D) (Q : D → Prop) : Prop := ∃ (W0 : Res) (l : Addr) (n : Nat), W = W0.add l (someL Tape) ∧ ¬ W0.m l ∧ ds = [.obj l, natD n] ∧ 0 < n ∧ n ≤ 1000 ∧ Q = pickD n
theorem mod_pick {n : Nat} {i : Int} (h : 0 < n) : pickD n (.int (i % (n : Int))) := by
  have h1 : 0 ≤ i % (n : Int) := Int.emod_nonneg i (by omega)
  have h2 : i % (n : Int) < n := Int.emod_lt_of_pos i (by omega)
  exact ⟨(i % (n : Int)).toNat, by omega, by unfold natD; rw [Int.toNat_of_nonneg h1]⟩
section
variable {P : Program} {w : World} {K : PySem.W.Frag} {mg : Str → Option Value} {base : Heap} {f : Addr} {fd : FuncData}
theorem ok43 (F : FnM K "_law_pick" "_law_pick" (top 43) f fd) (T : Tx mg) : FnOk P w K mg base CX0 1 f fd A43 (spW okPick) := by
  refine fn_dataW F sc43 (fun W ds Q ⟨_, _, _, _, _, h, _⟩ => by rw [h]; rfl) fun cdv A outer s H E W ds Q B hr h => ?_
  obtain ⟨W0, l, n, rfl, nl, rfl, hn, hn2, rfl⟩ := h
  refine ss_openL fun ds ⟨sc, a, b, c, d, e, ha⟩ => ?_
  subst e
  refine ss_ifr (tb_gt (ed_ixO (ds := tapeL sc a b c d) (d := .int b) (fun H ok => ok.2) (ed_var 0) ed_int (by decide) rfl) ed_int) (fun h => ?_) (fun h => ?_)
  · refine ss_set 2 (d := .int (b % (n : Int))) (ed_mod (ed_intI T.int (ed_ixO (ds := tapeL sc a b c d) (d := .int b) (fun H ok => ok.2) (ed_var 0) ed_int (by decide) rfl)) (ed_var 1) (by omega)) ?_ sc43.nd
    refine ss_lset (i := 2) nl (ed_var 0) ed_int (ed_fdiv (ed_ixO (ds := tapeL sc a b c d) (d := .int b) (fun H ok => ok.2) (ed_var 0) ed_int (by decide) rfl) (ed_var 1) ⟨by omega, by omega⟩) (Nat.le_of_ble_eq_true rfl) ?_
    exact ss_retP2 (P := pickD n) (P' := fun z => z = _) (ed_var 2) (fun z hz => by rw [hz]; exact mod_pick hn) (RLe.tape (Inv := Tape) ⟨sc, a, _, c, d, rfl, ha⟩)
  · refine ss_lset (i := 4) nl (ed_var 0) ed_int (ed_add (ed_ixO (ds := tapeL sc a b c d) (d := .int d) (fun H ok => ok.2) (ed_var 0) ed_int (by decide) rfl) ed_int) (Nat.le_of_ble_eq_true rfl) ?_
    show SS _ (At B (W0.add l (ownL (tapeL sc a b c (d + 1)))) [] _) _ _
    generalize d + 1 = d
    refine ss_set 3 ed_int ?_ sc43.nd
    refine ss_if (fun σ H => ∃ q : Int × Int, (0 ≤ q.1) ∧ At B (W0.add l (ownL (tapeL sc q.1 b c d))) [] [some (.obj l), some (natD n), none, some (.int q.2), none] σ H)
      (tb_lt (ed_ixO (ds := tapeL sc a b c d) (d := .int a) (fun H ok => ok.2) (ed_var 0) ed_int (by decide) rfl) (ed_lenL T.len (ed_ixO (ds := tapeL sc a b c d) (d := .lst (sc.map .int)) (fun H ok => ok.2) (ed_var 0) ed_int (by decide) rfl))) (fun h => ?_) (fun h => ss_nil fun σ H at_ => ⟨(a, 0), ha, at_⟩) (SS.exP fun q hq => ?_)
    · have hlt : a < (sc.length : Int) := by
        have := of_decide_eq_true h.symm
        rwa [List.length_map] at this
      obtain ⟨x, hx⟩ : ∃ x, sc[a.toNat]? = some x := ⟨sc[a.toNat]'(by omega), List.getElem?_eq_getElem (by omega)⟩
      refine ss_set 3 (d := .int x) (ed_ixL (ed_ixO (ds := tapeL sc a b c d) (d := .lst (sc.map .int)) (fun H ok => ok.2) (ed_var 0) ed_int (by decide) rfl) (ed_ixO (ds := tapeL sc a b c d) (d := .int a) (fun H ok => ok.2) (ed_var 0) ed_int (by decide) rfl) ha (by rw [List.getElem?_map, hx]; rfl)) ?_ sc43.nd
      refine ss_lset (i := 1) nl (ed_var 0) ed_int (ed_add (ed_ixO (ds := tapeL sc a b c d) (d := .int a) (fun H ok => ok.2) (ed_var 0) ed_int (by decide) rfl) ed_int) (Nat.le_of_ble_eq_true rfl) (ss_nil fun σ H at_ => ⟨(a + 1, x), by show 0 ≤ a + 1; omega, at_⟩)
    · obtain ⟨a, x⟩ := q
      replace hq : 0 ≤ a := hq
      show SS _ (At B (W0.add l (ownL (tapeL sc a b c d))) [] [some (.obj l), some (natD n), none, some (.int x), none]) _ _
      refine ss_ifr (tb_ge (ed_var 3) (ed_pow ed_int ed_int (by decide))) (fun h => ?_) (fun h => ?_)
      · refine ss_lset (i := 2) nl (ed_var 0) ed_int (ed_fdiv (ed_var 3) (ed_var 1) ⟨by omega, by omega⟩) (Nat.le_of_ble_eq_true rfl) ?_
        exact ss_retP2 (P := pickD n) (P' := fun z => z = _) (ed_mod (ed_intI T.int (ed_var 3)) (ed_var 1) (by omega)) (fun z hz => by rw [hz]; exact mod_pick hn) (RLe.tape (Inv := Tape) ⟨sc, a, _, c, d, rfl, hq⟩)
      · refine ss_setP 4 (P := fun z => ∃ m : Int, z = .int m ∧ 0 ≤ m ∧ m < 2147483647) (ED.imp (ed_mod (ed_intI T.int (ed_add (ed_add (ed_mul (ed_ixO (ds := tapeL sc a b c d) (d := .int c) (fun H ok => ok.2) (ed_var 0) ed_int (by decide) rfl) ed_int (.inr (by decide))) (ed_mod (ed_intI T.int (ed_var 3)) ed_int (by decide))) (ed_mul (ed_ixO (ds := tapeL sc a b c d) (d := .int d) (fun H ok => ok.2) (ed_var 0) ed_int (by decide) rfl) ed_int (.inr (by decide))))) ed_int (by decide)) fun z hz => ⟨_, hz, Int.emod_nonneg _ (by decide), Int.emod_lt_of_pos _ (by decide)⟩) (fun z hz => ?_) sc43.nd
        obtain ⟨m, rfl, m0, m1⟩ := hz
        refine ss_setP 4 (P := fun z => ∃ m : Int, z = .int m) (ED.imp (ed_mod (ed_intI T.int (ed_mul (ed_var 4) (ed_add (ed_fdiv (ed_var 4) ed_int (by decide)) ed_int) (.inl (by omega)))) ed_int (by decide)) fun z hz => ⟨_, hz⟩) (fun z hz => ?_) sc43.nd
        obtain ⟨m2, rfl⟩ := hz
        refine ss_lset (i := 3) nl (ed_var 0) ed_int (ed_var 4) (Nat.le_of_ble_eq_true rfl) ?_
        exact ss_retP2 (P := pickD n) (P' := fun z => z = _) (ed_mod (ed_intI T.int (ed_fdiv (ed_var 4) ed_int (by decide))) (ed_var 1) (by omega)) (fun z hz => by rw [hz]; exact mod_pick hn) (RLe.tape (Inv := Tape) ⟨sc, a, b, _, d, rfl, hq⟩)
end
end K14

set_option Elab.async false
set_option linter.all false
set_option maxRecDepth 100000
set_option maxHeartbeats 4000000
namespace K14
open PySem L2
/-! ### kinds in order -/
def Up (l : List Str) : Prop := l.Pairwise fun a b => a.cps.toList < b.cps.toList
theorem rising_le : ∀ (p : Str) (l : List Str), PyProof.Rows.risingS p l = true → (p :: l).Pairwise fun a b => a.cps.toList ≤ b.cps.toList
  | p, [], _ => List.pairwise_singleton _ _
  | p, x :: r, h => by
    have h1 : (!Spec.ltCps x.cps.toList p.cps.toList) = true ∧ PyProof.Rows.risingS x r = true := by
      have : (!Spec.ltCps x.cps.toList p.cps.toList && PyProof.Rows.risingS x r) = true := h
      rwa [Bool.and_eq_true] at this
    have ih := rising_le x r h1.2
    have hpx : p.cps.toList ≤ x.cps.toList := by
      refine List.not_lt.mp fun z => ?_
      have := h1.1
      rw [PyProof.Rows.ltCps_eq, decide_eq_true z] at this
      cases this
    refine List.pairwise_cons.mpr ⟨fun y hy => ?_, ih⟩
    rcases List.mem_cons.mp hy with rfl | hy
    · exact hpx
    · exact List.le_trans hpx ((List.pairwise_cons.mp ih).1 y hy)
theorem up_of {l : List Str} (h : PyProof.Rows.sortedS l = true) (nd : l.Nodup) : Up l := by
  have hle : l.Pairwise fun a b => a.cps.toList ≤ b.cps.toList := by
    cases l with
    | nil => exact .nil
    | cons x r => exact rising_le x r h
  refine (List.pairwise_and_iff.mpr ⟨hle, nd⟩).imp fun {a b} ⟨h1, h2⟩ => ?_
  refine Classical.byContradiction fun z => ?_
  have : a.cps.toList = b.cps.toList := List.le_antisymm h1 (List.not_lt.mp z)
  apply h2
  cases a with | mk ca => cases b with | mk cb => exact congrArg Str.mk (by cases ca; cases cb; simpa using this)
theorem up_asc {l : List Str} (h : Up l) : ascT l = true := by
  unfold ascT
  rw [List.all_map, List.all_eq_true]
  intro i hi
  have hi' := List.mem_range.mp hi
  refine decide_eq_true ?_
  have := List.pairwise_iff_getElem.mp h i (i + 1) (by omega) (by omega) (by omega)
  rw [List.getD_eq_getElem?_getD, List.getD_eq_getElem?_getD, List.getElem?_eq_getElem (by omega), List.getElem?_eq_getElem (by omega)]
  exact this
/-- every kind of the marks m -/
structure Every (m : Str) (ks : List Str) : Prop where
  kind : ∀ z ∈ ks, kindB m z = true ∧ z.length ≤ 1000 ∧ z ≠ "~"
  up : Up ks
  ne : ks ≠ []
  few : ks.length ≤ 8
theorem Every.lot {m : Str} {ks l : List Str} (e : Every m ks) (s : l.Sublist ks) (ne : l ≠ []) : lotB m l = true := by
  unfold lotB
  have h1 : (l.map (kindB m)).all id = true := by
    rw [List.all_map, List.all_eq_true]
    exact fun z hz => (e.kind z (s.subset hz)).1
  rw [h1, up_asc (e.up.sublist s)]
  cases l with
  | nil => exact absurd rfl ne
  | cons x l => rfl
def growK (ks : List Str) (c : Nat) : List Str := ks ++ ks.map fun z => z ++ ⟨#[c]⟩
def kindsOf (m : Str) : List Str := m.cps.toList.foldl growK [Str.empty]
def theMarks : List Str := ["a", "ab", "abc", "ab"]
theorem kinds_ok {m : Str} (h : m ∈ theMarks) : (kindsOf m).Nodup ∧ (kindsOf m).length ≤ 8 ∧ kindsOf m ≠ [] ∧ ∀ z ∈ kindsOf m, kindB m z = true ∧ z.length ≤ 1000 ∧ z ≠ "~" := by
  unfold theMarks at h
  simp only [List.mem_cons, List.not_mem_nil, or_false] at h
  rcases h with rfl | rfl | rfl | rfl <;> decide +kernel
theorem marks_ok {m : Str} (h : m ∈ theMarks) : m.length ≤ 5 ∧ marksB m = true ∧ m.length ≤ 3 := by
  unfold theMarks at h
  simp only [List.mem_cons, List.not_mem_nil, or_false] at h
  rcases h with rfl | rfl | rfl | rfl <;> decide +kernel
section
variable {P : Program} {w : World} {K : PySem.W.Frag} {mg : Str → Option Value} {base : Heap} {f : Addr} {fd : FuncData}
theorem growK_len (ks : List Str) (c : Nat) : (growK ks c).length = 2 * ks.length := by unfold growK; rw [List.length_append, List.length_map]; omega
def okKinds (ds : List D) (Q : D → Prop) : Prop := ∃ m : Str, m ∈ theMarks ∧ ds = [.str m] ∧ Q = fun d => ∃ ks : List Str, d = .lst (ks.map .str) ∧ Every m ks
theorem rr_sorted {W : Res} {xs : List Str} (h : xs.length < 64) : RC W (rSortedS K) [.lst (xs.map .str)] (fun d => ∃ ys : List Str, d = .lst (ys.map .str) ∧ ys.Perm xs ∧ PyProof.Rows.sortedS ys = true) := by
  intro vs H ok l Q q
  obtain ⟨v, rfl, r⟩ := l.one
  obtain ⟨b, us, rfl, n, e, lu⟩ := r.lstI
  have eu := lu.strs
  subst eu
  exact ⟨b, xs, rfl, .inl (.inl e), h, fun ys p hp hs hpn => q (.lst (ys.map .str)) (.ref p) _ (.new hpn) (W.new ok hpn) ⟨ys, rfl, hp, hs⟩ (.lst (W.fresh ok hpn) upd_same RpL.of_strs)⟩
theorem ok44 (F : FnM K "_law_kinds" "_law_kinds" (top 44) f fd) (T : Tx mg) : FnOk P w K mg base CX0 1 f fd A44 (spN okKinds) := by
  refine fn_data F sc44 (fun ds Q ⟨_, _, h, _⟩ => by rw [h]; rfl) fun cdv A outer s H E W ds Q B hr h => ?_
  obtain ⟨m, hm, rfl, rfl⟩ := h
  obtain ⟨k1, k2, k3, k4⟩ := kinds_ok hm
  have hl : m.cps.toList.length ≤ 3 := by
    have := (marks_ok hm).2.2
    rwa [len_cps] at this
  refine ss_set 1 (d := .lst ([Str.empty].map .str)) (ed_lst (ad_cons ed_str ad_nil) (Nat.le_of_ble_eq_true rfl)) ?_ sc44.nd
  refine ss_for (α := List Str) (fun _ i ks => ks = (m.cps.toList.take i).foldl growK [Str.empty] ∧ ks.length = 2 ^ i ∧ i ≤ 3 ∧ ∀ z ∈ ks, z.length ≤ i) (fun _ => W) (fun ks => [some (.str m), some (.lst (ks.map .str)), none, none]) [Str.empty] rfl rfl
    (At B W [] [some (.str m), some (.lst ((kindsOf m).map .str)), none, none]) PassesOwn.never rfl (id_str (ed_var 0)) (gd_name 2 sc44.nd) (fun xs _ => ⟨rfl, rfl, by omega, fun z hz => by rw [List.mem_singleton.mp hz]; exact Nat.le_refl _⟩) (fun xs i a _ _ d _ => ⟨_, rfl⟩) (fun xs hx Γ' i x ks ρ' hxi hR hp => ?_) (fun xs hx ks σ H hR at_ => ?_) ?_
  · cases hp
    subst hx
    obtain ⟨h1, h2, h3, h4⟩ := hR
    unfold signs at hxi
    obtain ⟨c, hc, rfl, hcm⟩ := map_at hxi
    have hi := (List.getElem?_eq_some_iff.mp hc).1
    have hks : ks.length ≤ 8 := by
      rw [h2]
      exact Nat.le_trans (Nat.pow_le_pow_right (by decide) h3) (by decide)
    refine ss_set 1 (d := .lst ((growK ks c).map .str)) (EE.is (ed_cat (ed_var 1) (ed_map1A 3 ks .str (fun z => .str (z ++ ⟨#[c]⟩)) rfl sc44.nd (id_lst (ed_var 1)) (blkOk_by (N := N44) (sc := defScope (top 44)) (by decide +kernel)) (by omega) (fun _ _ _ _ _ => pg_name sc44.nd rfl (Or.inl rfl))
      fun z hz ys L nL s H C' cl fp => ed_addS (ed_var 3) (ed_var 2) (by have := h4 z hz; show z.length + 1 ≤ 100000; omega)) (by rw [List.length_map, List.length_map]; omega)) ?_) ?_ sc44.nd
    · unfold growK
      rw [List.map_append, List.map_map]; rfl
    · refine ss_nil fun σ H at_ => ⟨growK ks c, ⟨?_, ?_, by omega, fun z hz => ?_⟩, at_.forget (by repeat (first | exact Wk.nil | refine Wk.keep ?_ | refine Wk.drop ?_))⟩
      · rw [take_succ_get hc, List.foldl_append, ← h1]; rfl
      · rw [growK_len, h2, Nat.pow_succ]; omega
      · unfold growK at hz
        rcases List.mem_append.mp hz with hz | hz
        · have := h4 z hz; omega
        · obtain ⟨y, hy, rfl⟩ := List.mem_map.mp hz
          have := h4 y hy
          show (y ++ (⟨#[c]⟩ : Str)).length ≤ i + 1
          have e : (y ++ (⟨#[c]⟩ : Str)).length = y.length + 1 := by show (y.cps ++ #[c]).size = y.cps.size + 1; simp
          omega
  · subst hx
    obtain ⟨h1, _⟩ := hR
    unfold signs at h1
    rw [List.length_map, List.take_length] at h1
    subst h1
    exact at_
  · refine ss_retP2 (P := fun d => ∃ ks : List Str, d = .lst (ks.map .str) ∧ Every m ks) (P' := fun d => ∃ ys : List Str, d = .lst (ys.map .str) ∧ ys.Perm (kindsOf m) ∧ PyProof.Rows.sortedS ys = true) (ed_callBP cr_sortedS rfl T.sorted (by decide +kernel) (ad_cons (ed_var 1) ad_nil) (fun ds h => by subst h; exact rr_sorted (by omega)) (by decide) (by decide) rfl) (fun d ⟨ys, h1, h2, h3⟩ => ⟨ys, h1, ?_⟩) .refl
    exact ⟨fun z hz => k4 z (h2.mem_iff.mp hz), up_of h3 (h2.nodup_iff.mpr k1), fun e => k3 (by rw [e] at h2; exact h2.symm.eq_nil), by rw [h2.length_eq]; exact k2⟩
end
end K14

set_option Elab.async false
set_option linter.all false
set_option maxRecDepth 100000
set_option maxHeartbeats 4000000
namespace K14
open PySem L2
def HasTape (W : Res) (l : Addr) : Prop := ∃ W0 : Res, W = W0.add l (someL Tape) ∧ ¬ W0.m l
theorem HasTape.add {W : Res} {l L : Addr} {c : Cell} (h : HasTape W l) (n : ¬ W.m L) : HasTape (W.add L c) l := by
  obtain ⟨W0, rfl, nl⟩ := h
  exact ⟨W0.add L c, Res.swap, fun z => z.elim nl fun z => n (.inr z.symm)⟩
section
variable {X : Cx} {W : Res} {ρ : List (Option D)} {a b e e2 : Expr} {p pos : Pos} {l : Addr} {k n : Nat} {ds : List D} {E : XK}
theorem ed_pick (ht : HasTape W l) (c : Cal X.prog X.w X.K X.mg X.base CX0 k "_law_pick" A43 (spW okPick)) (hr : Room k X.A) (ha : EE X W ρ a (.obj l)) (hb : EE X W ρ b (natD n)) (hn : 0 < n ∧ n ≤ 1000) (hg : Gl X "_law_pick" := by rfl) (he : starEach [a, b] X.env = (false, eval a X.env) :: starEach [b] X.env := by rfl) (he2 : starEach [b] X.env = (false, eval b X.env) :: starEach [] X.env := by rfl) (hpl : (backTo pos (starEach [b] X.env)).any (·.1) = false := by rfl) :
    ED X W ρ (.Call (.Name "_law_pick" p) [a, b] [] pos) (pickD n) := by
  obtain ⟨W0, rfl, nl⟩ := ht
  exact ed_calW c hr (E := fun _ _ _ => False) pass0 (ad_cons ha (ad_cons hb ad_nil he2) he) ⟨W0, l, n, rfl, nl, rfl, hn.1, hn.2, rfl⟩ hg (by decide) he hpl
theorem rr_eqAny {x : D} {j : Int} (h : pickD n x) : RR W rEq x (.int j) (fun z => ∃ b : Bool, z = .bl b ∧ True) := by
  obtain ⟨k, _, rfl⟩ := h
  intro v1 v2 H ok r1 r2 Q q
  exact rr_eq (W := W) (x := natD k) (y := .int j) rfl rfl rfl v1 v2 H ok r1 r2 Q fun d v H' e ok' hd r => q d v H' e ok' ⟨_, hd, trivial⟩ r
theorem td_pick0 {j : Int} (ha : ED X W ρ a (pickD n)) (hb : EE X W ρ b (.int j)) : TD X W ρ (.Compare a [.Eq] [b] pos) (fun _ => True) :=
  td_cmpP op_eq (nomark b) ha hb fun x y h1 h2 => by subst h2; exact rr_eqAny h1
theorem td_pickGt {j : Int} (ha : ED X W ρ a (pickD n)) (hb : EE X W ρ b (.int j)) : TD X W ρ (.Compare a [.Gt] [b] pos) (fun _ => True) :=
  td_cmpP op_gt (nomark b) ha hb fun x y h1 h2 => by
    subst h2
    obtain ⟨k, _, rfl⟩ := h1
    intro v1 v2 H ok r1 r2 Q q
    exact rr_cmp (W := W) v1 v2 H ok r1 r2 Q fun d v H' e ok' hd r => q d v H' e ok' ⟨_, hd, trivial⟩ r
theorem ed_pick0 {j : Int} (ha : ED X W ρ a (pickD n)) (hb : EE X W ρ b (.int j)) : ED X W ρ (.Compare a [.Eq] [b] pos) (fun z => ∃ c : Bool, z = .bl c ∧ True) :=
  ed_cmpP op_eq (nomark b) ha hb fun x y h1 h2 => by subst h2; exact rr_eqAny h1
theorem wd_and {Pa Pb : Bool → Prop} {rest : List Expr} (ha : TD X W ρ a Pa) (hb : PW X (.BoolOp .And (b :: rest) pos) (tDt W ρ Pb)) : PW X (.BoolOp .And (a :: b :: rest) pos) (tDt W ρ (fun u => (u = true → Pa true ∧ Pb true) ∧ (u = false → Pa false ∨ Pb false))) :=
  PWimp (pw_and ha hb) fun σ H Q ⟨ok, sl, q⟩ => ⟨ok, sl, fun u H1 e1 ok1 p1 => by
    cases u with
    | true => exact iteT ⟨ok1, sl.ext e1, fun w H2 e2 ok2 p2 => q w H2 (e1.trans e2) ok2 (by cases w with
      | true => exact ⟨fun _ => ⟨p1, p2⟩, fun z => (by cases z)⟩
      | false => exact ⟨fun z => (by cases z), fun _ => .inr p2⟩)⟩
    | false => exact iteF (q false H1 e1 ok1 ⟨fun z => (by cases z), fun _ => .inl p1⟩)⟩
theorem wd_and1 {Pa : Bool → Prop} (ha : TD X W ρ a Pa) : PW X (.BoolOp .And [a] pos) (tDt W ρ Pa) := pw_and1 ha
theorem PWt {Pa : Bool → Prop} (h : PW X a (tDt W ρ Pa)) : TD X W ρ a Pa := PW.pt h
end
section
variable {P : Program} {w : World} {K : PySem.W.Frag} {mg : Str → Option Value} {base : Heap} {f : Addr} {fd : FuncData}
def okLotL (W : Res) (ds : List D) (Q : D → Prop) : Prop := ∃ (l : Addr) (m : Str) (ks : List Str), HasTape W l ∧ ds = [.obj l, .lst (ks.map .str)] ∧ Every m ks ∧ Q = fun d => ∃ lo : List Str, d = lotD lo ∧ lo ≠ [] ∧ lo.Sublist ks
theorem mem_sub1 {α : Type} {x : α} {l : List α} (h : x ∈ l) : [x].Sublist l := List.singleton_sublist.mpr h
theorem ok46 (F : FnM K "_law_lot" "_law_lot" (top 46) f fd) (T : Tx mg) (C : Cal P w K mg base CX0 1 "_law_pick" A43 (spW okPick)) : FnOk P w K mg base CX0 2 f fd A46 (spW okLotL) := by
  refine fn_dataW F sc46 (fun W ds Q ⟨_, _, _, _, h, _⟩ => by rw [h]; rfl) fun cdv A outer s H E W ds Q B hr h => ?_
  obtain ⟨l, m, ks, ht, rfl, hE, rfl⟩ := h
  have few := hE.few
  refine ss_skip (WB.tb (wb_and0 (tb_gt (ed_lenL T.len (ed_var 1)) ed_int) ?_)) rfl ?_
  · rw [List.length_map]
    exact decide_eq_false (by omega)
  · refine ss_lc (i := 3) (P := fun d => ∃ lo : List Str, d = .lst (lo.map .str) ∧ lo.Sublist ks) (LcJ.tD (lcS 3 sc46.nd (own := [("_law_kind", 4)]) (blkOk_by (N := N46) (sc := defScope (top 46)) (by decide +kernel))) (lj_lcP (t := .one 4) (Px := fun xs => xs = ks.map .str) (fun xs i ys => ∃ lo : List Str, ys = lo.map .str ∧ lo.Sublist (ks.take i)) (fun _ _ _ => True) (fun xs i d => ∀ x, ks[i]? = some x → d = .str x) (lcS 3 sc46.nd (own := [("_law_kind", 4)]) (blkOk_by (N := N46) (sc := defScope (top 46)) (by decide +kernel))) (id_lst (ed_var 1)) (fun j hj => hj) (gt_name 4)
      (fun xs h => by rw [h, List.length_map]; omega) (fun xs _ => ⟨[], rfl, List.nil_sublist _⟩) (fun xs h i d hd => ⟨_, rfl⟩) (fun _ _ _ _ _ => pg_name sc46.nd rfl (Or.inl rfl))
      (fun xs h i x ys L ρ' hx _ nL hp s H C' cl fp => pts_one (PTimp (td_pick0 (ed_pick (n := 2) (ht.add nL) C hr (by cases hp; exact ed_var 0) ed_int (by decide)) ed_int) fun σ H Q ⟨ok, sl, q⟩ => ⟨ok, sl, fun b H' e o' hb => q b H' e o' trivial⟩))
      (fun xs h i x ys L ρ' hx _ nL hp _ s H C' cl fp => ?_) (fun xs h i ys d hi ⟨lo, h1, h2⟩ _ hd => ?_) (fun xs h i ys hi ⟨lo, h1, h2⟩ _ => ⟨lo, h1, h2.trans (List.take_sublist_take_left (Nat.le_succ i))⟩) (fun xs i ys h ⟨lo, h1, h2⟩ => ?_)) fun z ⟨xs, ys, h1, h2, lo, h3, h4⟩ => ⟨lo, by rw [h2, h3], h4.trans (List.take_sublist _ _)⟩) fun d hd => ?_
    · cases hp
      subst h
      obtain ⟨y, hy, rfl, _⟩ := map_at hx
      exact ED.imp (ed_var 4) fun d hd x' hx' => by rw [hy] at hx'; cases hx'; exact hd
    · subst h
      rw [List.length_map] at hi
      obtain ⟨x, hx⟩ : ∃ x, ks[i]? = some x := ⟨ks[i], List.getElem?_eq_getElem hi⟩
      refine ⟨lo ++ [x], by rw [h1, hd x hx, List.map_append]; rfl, ?_⟩
      rw [take_succ_get hx]
      exact h2.append (List.Sublist.refl _)
    · rw [h1, List.length_map]
      exact Nat.le_trans h2.length_le (by rw [List.length_take]; omega)
    · obtain ⟨lo, rfl, hs⟩ := hd
      refine ss_if (fun σ H => ∃ lo : List Str, (lo ≠ [] ∧ lo.Sublist ks) ∧ At B W [] [some (.obj l), some (.lst (ks.map .str)), none, some (.lst (lo.map .str)), none, none] σ H) (tb_eqI (j := 0) (ed_lenL T.len (ed_var 3)) ed_int) (fun h => ?_) (fun h => ?_) (SS.exP fun lo' hlo => ?_)
      · refine ss_setP 3 (P := fun d => ∃ x ∈ ks, d = .lst ([x].map .str)) (ED.imp (ed_lstP (ad_consP (P1 := fun z => ∃ x ∈ ks, z = .str x) (ed_ixLP (ed_var 1) (ed_pick (n := ks.length) ht C hr (ed_var 0) (EE.is (ed_lenL T.len (ed_var 1)) (by rw [List.length_map]; rfl)) ⟨List.length_pos_iff.mpr hE.ne, by omega⟩) fun z ⟨k, hk, hz⟩ => ?_) ad_nil) fun ds ⟨_, _, h1, _, h2⟩ => ?_) fun d ⟨ds, h1, d1, r, h2, ⟨x, hx, h3⟩, h4⟩ => ⟨x, hx, by rw [h1, h2, h3, h4]; rfl⟩) (fun d hd => ?_) sc46.nd
        · exact ⟨_, _, hz, Int.natCast_nonneg k, by rw [Int.toNat_natCast, List.getElem?_map, List.getElem?_eq_getElem hk]; rfl, ks[k], List.getElem_mem hk, rfl⟩
        · rw [h1, h2]; exact Nat.le_of_ble_eq_true rfl
        · obtain ⟨x, hx, rfl⟩ := hd
          exact ss_nil fun σ H at_ => ⟨[x], ⟨List.cons_ne_nil _ _, mem_sub1 hx⟩, at_⟩
      · refine ss_nil fun σ H at_ => ⟨lo, ⟨fun e => ?_, hs⟩, at_⟩
        subst e
        cases h
      · exact ss_retP2 (P := fun d => ∃ lo : List Str, d = lotD lo ∧ lo ≠ [] ∧ lo.Sublist ks) (P' := fun z => z = lotD lo') (ed_tuple T.tuple (ed_var 3)) (fun z hz => ⟨lo', hz, hlo⟩) .refl
end
end K14

set_option Elab.async false
set_option linter.all false
set_option maxRecDepth 100000
set_option maxHeartbeats 4000000
namespace K14
open PySem L2
section
variable {X : Cx} {W : Res} {ρ : List (Option D)} {a b e : Expr} {p pos : Pos} {l : Addr} {ds : List D} {P : D → Prop}
theorem ed_lenOwn (hI : ∀ H, W.ok H → (ownL ds).I W.m H l) (hm : X.mg "len" = none) (ha : EE X W ρ a (.obj l)) (hg : Gl X "len" := by rfl) (hs : starEach [a] X.env = (false, eval a X.env) :: starEach [] X.env := by rfl) : EE X W ρ (.Call (.Name "len" p) [a] [] pos) (natD ds.length) :=
  ed_callB call_len_seq hg hm boot_len (ad_cons ha ad_nil hs) (fun vs H ok l' Q q => by
    obtain ⟨v, rfl, r⟩ := l'.one
    cases r
    obtain ⟨xs, e, rl⟩ := hI H ok
    have z := q (natD ds.length) (.int (ds.length : Int)) H .refl ok rfl (.int _)
    exact ⟨l, xs, rfl, .inl (.inl (.inl e)), by rw [rl.length]; exact z⟩) (by decide) (by decide) hs
theorem ed_ixOP {P2 : D → Prop} (hI : ∀ H, W.ok H → (ownL ds).I W.m H l) (ha : EE X W ρ a (.obj l)) (hb : ED X W ρ b P2) (h : ∀ z, P2 z → ∃ (i : Nat) (d : D), z = natD i ∧ ds[i]? = some d ∧ P d) (hs : PlainIx b := by exact fun _ _ => rfl) : ED X W ρ (.Subscript a b pos) P :=
  ed_ixP ix_list hs ha hb fun _ z h1 h2 => by
    subst h1
    obtain ⟨i, d, rfl, hd, pd⟩ := h z h2
    intro v1 v2 H ok r1 r2 Q q
    cases r1
    cases r2
    obtain ⟨xs, e, r⟩ := hI H ok
    obtain ⟨v, ev, rv⟩ := r.get hd
    exact ⟨l, xs, (i : Int), v, rfl, rfl, .inl (.inl e), atI_nat ev, q _ _ H .refl ok pd rv⟩
end
section
variable {P : Program} {w : World} {K : PySem.W.Frag} {mg : Str → Option Value} {base : Heap} {f : Addr} {fd : FuncData}
def LotsOk (ks : List Str) (ls : List (List Str)) : Prop := ∀ l ∈ ls, l ≠ [] ∧ l.Sublist ks
def okLots (W : Res) (ds : List D) (Q : D → Prop) : Prop := ∃ (l : Addr) (m : Str) (ks : List Str), HasTape W l ∧ ds = [.obj l, .lst (ks.map .str), .int 4] ∧ Every m ks ∧ Q = fun d => ∃ ls : List (List Str), d = lotsD ls ∧ ls.length ≤ 4 ∧ LotsOk ks ls
theorem ok47 (F : FnM K "_law_lots" "_law_lots" (top 47) f fd) (T : Tx mg) (C : Cal P w K mg base CX0 1 "_law_pick" A43 (spW okPick)) (C2 : Cal P w K mg base CX0 2 "_law_lot" A46 (spW okLotL)) : FnOk P w K mg base CX0 3 f fd A47 (spW okLots) := by
  refine fn_dataW F sc47 (fun W ds Q ⟨_, _, _, _, h, _⟩ => by rw [h]; rfl) fun cdv A outer s H E W ds Q B hr h => ?_
  obtain ⟨l, m, ks, ht, rfl, hE, rfl⟩ := h
  have hr1 := hr.mono (show 1 ≤ 2 by decide)
  refine ss_newL 3 (fun lf nf => ?_) sc47.nd
  refine ss_for (α := List (List Str)) (Px := fun xs => ∃ n : Nat, n ≤ 4 ∧ xs = (List.range n).map natD) (fun xs i ls => ls.length = i ∧ LotsOk ks ls) (fun ls => W.add lf (ownL (ls.map lotD))) (fun _ => [some (.obj l), some (.lst (ks.map .str)), some (.int 4), some (.obj lf), none]) [] rfl rfl
    (fun σ H => ∃ ls : List (List Str), (ls.length ≤ 4 ∧ LotsOk ks ls) ∧ At B (W.add lf (ownL (ls.map lotD))) [] [some (.obj l), some (.lst (ks.map .str)), some (.int 4), some (.obj lf), none] σ H) PassesOwn.never rfl
    (PIimp (id_range1P (P := fun i => 0 ≤ i ∧ i ≤ 4) T.range (ED.imp (ed_pick (n := 5) (ht.add nf) C hr1 (ed_var 0) (EE.is (ed_add (ed_var 2) ed_int) rfl) (by decide)) fun z ⟨k, hk, hz⟩ => ⟨(k : Int), hz, by omega, by omega⟩) (fun i hi => ⟨by omega, by omega⟩)) fun σ H R ⟨ok, sl, q⟩ => ⟨ok, sl, fun J H1 Δ xs ⟨i, hi, hx⟩ => q J H1 Δ xs ⟨i.toNat, by omega, by rw [hx]; unfold rngD natD; refine List.map_congr_left fun j _ => ?_; rw [Int.zero_add]⟩⟩)
    (gd_name 4 sc47.nd) (fun xs _ => ⟨rfl, fun l h => (by cases h)⟩) (fun xs i a _ _ d _ => ⟨_, rfl⟩) (fun xs hx Γ' i x ls ρ' hxi hR hp => ?_) (fun xs hx ls σ H hR at_ => ?_) (SS.exP fun ls hls => ?_)
  · cases hp
    obtain ⟨n, hn, rfl⟩ := hx
    have hi := (rng_at hxi).2
    obtain ⟨h1, h2⟩ := hR
    refine ss_if (fun σ H => ∃ ls' : List (List Str), (ls'.length = i + 1 ∧ LotsOk ks ls') ∧ At B (W.add lf (ownL (ls'.map lotD))) Γ' [some (.obj l), some (.lst (ks.map .str)), some (.int 4), some (.obj lf), some x] σ H)
      (PWt (wd_and (Pa := fun b => b = decide ((0 : Int) < (ls.map lotD).length)) (tb_gt (ed_lenOwn (ds := ls.map lotD) (fun H ok => ok.2) T.len (ed_var 3)) ed_int) (wd_and1 (td_pick0 (ed_pick (n := 5) (ht.add nf) C hr1 (ed_var 0) ed_int (by decide)) ed_int)))) (fun hu => ?_) (fun hu => ?_) (SS.exP fun ls' hls' => ss_nil fun σ H at_ => ⟨ls', hls', at_.forget (by repeat (first | exact Wk.nil | refine Wk.keep ?_ | refine Wk.drop ?_))⟩)
    · have hpos : 0 < ls.length := by
        have := of_decide_eq_true (hu.1 rfl).1.symm
        rw [List.length_map] at this
        omega
      refine ss_append 3 nf (ed_ixOP (P := fun z => ∃ lo ∈ ls, z = lotD lo) (ds := ls.map lotD) (fun H ok => ok.2) (ed_var 3) (ed_pick (n := ls.length) (ht.add nf) C hr1 (ed_var 0) (EE.is (ed_lenOwn (ds := ls.map lotD) (fun H ok => ok.2) T.len (ed_var 3)) (by rw [List.length_map])) ⟨hpos, by omega⟩) fun z ⟨k, hk, hz⟩ => ⟨k, _, hz, by rw [List.getElem?_map, List.getElem?_eq_getElem hk]; rfl, ls[k], List.getElem_mem hk, rfl⟩) (by rw [List.length_map]; omega) fun d hd => ?_
      obtain ⟨lo, hlo, rfl⟩ := hd
      refine ss_nil fun σ H at_ => ⟨ls ++ [lo], ⟨by rw [List.length_append, h1]; rfl, fun l hl => ?_⟩, by rw [List.map_append]; exact at_⟩
      rcases List.mem_append.mp hl with hl | hl
      · exact h2 l hl
      · rw [List.mem_singleton.mp hl]; exact h2 lo hlo
    · refine ss_append 3 nf (ed_calW C2 hr (E := fun _ _ _ => False) pass0 (ad_cons (ed_var 0) (ad_cons (ed_var 1) ad_nil)) (P := fun d => ∃ lo : List Str, d = lotD lo ∧ lo ≠ [] ∧ lo.Sublist ks) ⟨l, m, ks, ht.add nf, rfl, hE, rfl⟩) (by rw [List.length_map]; omega) fun d hd => ?_
      obtain ⟨lo, rfl, hlo⟩ := hd
      refine ss_nil fun σ H at_ => ⟨ls ++ [lo], ⟨by rw [List.length_append, h1]; rfl, fun l hl => ?_⟩, by rw [List.map_append]; exact at_⟩
      rcases List.mem_append.mp hl with hl | hl
      · exact h2 l hl
      · rw [List.mem_singleton.mp hl]; exact hlo
  · obtain ⟨n, hn, rfl⟩ := hx
    obtain ⟨h1, h2⟩ := hR
    rw [List.length_map, List.length_range] at h1
    exact ⟨ls, ⟨by omega, h2⟩, at_⟩
  · refine ss_freeze 3 nf (ss_retP2 (P := fun d => ∃ ls : List (List Str), d = lotsD ls ∧ ls.length ≤ 4 ∧ LotsOk ks ls) (P' := fun z => z = lotsD ls) (ed_tuple T.tuple (ed_var 3)) (fun z hz => ⟨ls, hz, hls⟩) .refl)
/-! ### odd things -/
def OddD (d : D) : Prop := fitD d = true ∧ dep d ≤ 3 ∧ wd d ≤ 10
theorem ed_dic0 {X : Cx} {W : Res} {ρ : List (Option D)} {pos : Pos} : EE X W ρ (.Dict [] [] pos) (.dic []) :=
  PEimp pe_dnewT fun σ H Q ⟨o, sl, q⟩ p hp => q _ _ _ (.new hp) (W.new o hp) rfl (.dic (W.fresh o hp) upd_same .nil)
def okOdd (W : Res) (ds : List D) (Q : D → Prop) : Prop := ∃ (l : Addr), HasTape W l ∧ ds = [.obj l] ∧ Q = OddD
def odds1 : List D := [.non, .bl true, .bl false, .int 0, .int 1, .int (-1), .int (10 ^ 20), .str "", .str "a", .str "ab", .str "ba", .str "A", .str "aa", .str "abcdef", .tup [], .lst [], .dic [], .tup [.str ""]]
def odds2 : List D := [.tup [.str "a"], .lst [.str "a"], .tup [.str "a", .str "a"], .tup [.str "b", .str "a"], .tup [.str "ab", .str "a"], .tup [.tup [.str "a"]], .tup [.tup [.str "a"], .tup []], .tup [.int 1], .tup [.str "a", .int 1]]
def odds3 : List D := [.tup [.bl true, .str "a"], .tup [.str "z"], .tup [.tup [.str "a"], .lst [.str "a"]], .str "a,b", .tup [.int 0, .int 1], .tup [.str "has", .str "a"], .tup [.str "a", .str "b", .str ""]]
theorem odd_all : ∀ d ∈ odds1 ++ odds2 ++ odds3, OddD d := by
  intro d hd
  unfold odds1 odds2 odds3 at hd
  simp only [List.cons_append, List.nil_append, List.mem_cons, List.not_mem_nil, or_false] at hd
  unfold OddD
  rcases hd with rfl | rfl | rfl | rfl | rfl | rfl | rfl | rfl | rfl | rfl | rfl | rfl | rfl | rfl | rfl | rfl | rfl | rfl | rfl | rfl | rfl | rfl | rfl | rfl | rfl | rfl | rfl | rfl | rfl | rfl | rfl | rfl | rfl | rfl <;> simp [fitD, fitL, dep, depL, wd, wdL]
theorem ok50 (F : FnM K "_law_odd" "_law_odd" (top 50) f fd) (T : Tx mg) (C : Cal P w K mg base CX0 1 "_law_pick" A43 (spW okPick)) : FnOk P w K mg base CX0 2 f fd A50 (spW okOdd) := by
  refine fn_dataW F sc50 (fun W ds Q ⟨_, _, h, _⟩ => by rw [h]; rfl) fun cdv A outer s H E W ds Q B hr h => ?_
  obtain ⟨l, ht, rfl, rfl⟩ := h
  refine ss_set 1 (d := .lst odds1) ?_ ?_ sc50.nd
  · refine ed_lst (ad_cons ed_non (ad_cons ed_bl (ad_cons ed_bl (ad_cons ed_int (ad_cons ed_int (ad_cons (EE.is (ed_neg ed_int) rfl) (ad_cons (EE.is (ed_pow ed_int ed_int (by decide)) rfl) (ad_cons ed_str (ad_cons ed_str (ad_cons ed_str (ad_cons ed_str (ad_cons ed_str (ad_cons ed_str (ad_cons ed_str (ad_cons (ed_tup ad_nil) (ad_cons (ed_lst ad_nil) (ad_cons ed_dic0 (ad_cons (ed_tup (ad_cons ed_str ad_nil) (Nat.le_of_ble_eq_true rfl)) ad_nil)))))))))))))))))) (Nat.le_of_ble_eq_true rfl)
  · refine ss_set 1 (d := .lst (odds1 ++ odds2)) (ed_cat (ed_var 1) (ed_lst (ad_cons (ed_tup (ad_cons ed_str ad_nil) (Nat.le_of_ble_eq_true rfl)) (ad_cons (ed_lst (ad_cons ed_str ad_nil) (Nat.le_of_ble_eq_true rfl)) (ad_cons (ed_tup (ad_cons ed_str (ad_cons ed_str ad_nil)) (Nat.le_of_ble_eq_true rfl)) (ad_cons (ed_tup (ad_cons ed_str (ad_cons ed_str ad_nil)) (Nat.le_of_ble_eq_true rfl)) (ad_cons (ed_tup (ad_cons ed_str (ad_cons ed_str ad_nil)) (Nat.le_of_ble_eq_true rfl)) (ad_cons (ed_tup (ad_cons (ed_tup (ad_cons ed_str ad_nil) (Nat.le_of_ble_eq_true rfl)) ad_nil) (Nat.le_of_ble_eq_true rfl)) (ad_cons (ed_tup (ad_cons (ed_tup (ad_cons ed_str ad_nil) (Nat.le_of_ble_eq_true rfl)) (ad_cons (ed_tup ad_nil (Nat.le_of_ble_eq_true rfl)) ad_nil)) (Nat.le_of_ble_eq_true rfl)) (ad_cons (ed_tup (ad_cons ed_int ad_nil) (Nat.le_of_ble_eq_true rfl)) (ad_cons (ed_tup (ad_cons ed_str (ad_cons ed_int ad_nil)) (Nat.le_of_ble_eq_true rfl)) ad_nil))))))))) (Nat.le_of_ble_eq_true rfl)) (Nat.le_of_ble_eq_true rfl)) ?_ sc50.nd
    refine ss_set 1 (d := .lst (odds1 ++ odds2 ++ odds3)) (ed_cat (ed_var 1) (ed_lst (ad_cons (ed_tup (ad_cons ed_bl (ad_cons ed_str ad_nil)) (Nat.le_of_ble_eq_true rfl)) (ad_cons (ed_tup (ad_cons ed_str ad_nil) (Nat.le_of_ble_eq_true rfl)) (ad_cons (ed_tup (ad_cons (ed_tup (ad_cons ed_str ad_nil) (Nat.le_of_ble_eq_true rfl)) (ad_cons (ed_lst (ad_cons ed_str ad_nil) (Nat.le_of_ble_eq_true rfl)) ad_nil)) (Nat.le_of_ble_eq_true rfl)) (ad_cons ed_str (ad_cons (ed_tup (ad_cons ed_int (ad_cons ed_int ad_nil)) (Nat.le_of_ble_eq_true rfl)) (ad_cons (ed_tup (ad_cons ed_str (ad_cons ed_str ad_nil)) (Nat.le_of_ble_eq_true rfl)) (ad_cons (ed_tup (ad_cons ed_str (ad_cons ed_str (ad_cons ed_str ad_nil))) (Nat.le_of_ble_eq_true rfl)) ad_nil))))))) (Nat.le_of_ble_eq_true rfl)) (Nat.le_of_ble_eq_true rfl)) ?_ sc50.nd
    refine ss_retP2 (P := OddD) (P' := OddD) (ed_ixLP (ed_var 1) (ed_pick (n := (odds1 ++ odds2 ++ odds3).length) ht C hr (ed_var 0) (ed_lenL T.len (ed_var 1)) ⟨Nat.le_of_ble_eq_true rfl, Nat.le_of_ble_eq_true rfl⟩) fun z ⟨k, hk, hz⟩ => ⟨(k : Int), (odds1 ++ odds2 ++ odds3)[k], hz, Int.natCast_nonneg k, by rw [Int.toNat_natCast]; exact List.getElem?_eq_getElem hk, odd_all _ (List.getElem_mem hk)⟩) (fun d hd => hd) .refl
/-! ### the tape is made -/
def okTape (W : Res) (ds : List D) (G : GX) (R : RX) : Prop := ∃ (sc : List Int) (a : Addr) (K : PySem.W.Frag), ds = [.obj a] ∧ (∀ H, W.ok H → SqL K H a (sc.map .int)) ∧ sc.length ≤ 1000 ∧ G = gDO W (fun p c d => c = someL Tape ∧ d = .obj p) ∧ R = fun _ _ _ => False
end
end K14

set_option Elab.async false
set_option linter.all false
set_option maxRecDepth 100000
set_option maxHeartbeats 4000000
namespace K14
open PySem L2
theorem within_is {d : D} {lo hi : Int} (h : withinD d lo hi = true) : ∃ i, d = .int i ∧ lo ≤ i ∧ i ≤ hi := by
  cases d with
  | int i =>
    unfold withinD at h
    rw [Bool.and_eq_true] at h
    exact ⟨i, rfl, of_decide_eq_true h.1, of_decide_eq_true h.2⟩
  | _ => cases h
theorem dpt_not_within {fl : List Nat → List Bool} {n : Nat} {S : List (List Nat)} {a b t1 t2 : D} (h : ¬ (withinD a 0 ((n : Int) - 1) = true ∧ withinD b 0 ((n : Int) - 1) = true)) : dpt fl n S (.tup [a, b, t1, t2]) = none := by
  by_cases ha : (isInt a && !isBl a) = true
  · by_cases hb : (isInt b && !isBl b) = true
    · obtain ⟨i, rfl⟩ := integer_is ha
      obtain ⟨j, rfl⟩ := integer_is hb
      refine dpt_four_bad fun ⟨h1, h2, h3, h4, _⟩ => h ⟨?_, ?_⟩ <;> (unfold withinD; rw [Bool.and_eq_true]; exact ⟨decide_eq_true (by omega), decide_eq_true (by omega)⟩)
    · exact dpt_four_int fun z => hb z.2
  · exact dpt_four_int fun z => ha z.1
section
variable {P : Program} {w : World} {K : PySem.W.Frag} {mg : Str → Option Value} {base : Heap} {f : Addr} {fd : FuncData}
structure DepIn (m : Nat) (ds : List D) (fl : List Nat → List Bool) (n : Nat) (S : List (List Nat)) (thing : D) : Prop where
  ex : ∃ (es : List (NestedKey × D)), ds = [natD n, .dnk es, ordsL S, thing] ∧ n ≤ 1000 ∧ S.length ≤ 1000 ∧ Perms n S ∧ Flagged fl es S ∧ fitD thing = true ∧ dep thing ≤ m ∧ wd thing ≤ 1000
def okDepth (m : Nat) (ds : List D) (Q : D → Prop) : Prop := ∃ (fl : List Nat → List Bool) (n : Nat) (S : List (List Nat)) (thing : D), DepIn m ds fl n S thing ∧ Q = fun d => d = oD (dpt fl n S thing)
theorem fst_nil {S : List (List Nat)} {a b : Nat} : (decide (((K14.fst S a b).map D.ord).length = (0 : Int))) = decide (K14.fst S a b = []) := by
  rw [List.length_map]
  cases K14.fst S a b with
  | nil => rfl
  | cons x l =>
    rw [decide_eq_false (by rw [List.length_cons]; omega), decide_eq_false (by simp)]
theorem ok61 (F : FnP K "_law_depth" (top 61) f fd) (T : Tx mg) (hm : mg "_law_depth" = some (.ref f)) (hB : Binds K fd A61 []) (C1 : Cal P w K mg base CX0 1 "_law_is_int" A51 (spN okWithin)) (C2 : Cal P w K mg base CX0 1 "_law_parted" A59 (spN okParted)) :
    ∀ m, FnOk P w K mg base CX0 (2 + m) f fd A61 (spN (okDepth m)) := by
  intro m
  induction m with
  | zero => exact step 0 fun m' h => (by cases h)
  | succ m ih => exact step (m + 1) fun m' h => (by cases h; exact ih)
where
  step (m : Nat) (ih : ∀ m', m = m' + 1 → FnOk P w K mg base CX0 (2 + m') f fd A61 (spN (okDepth m'))) : FnOk P w K mg base CX0 (2 + m) f fd A61 (spN (okDepth m)) := by
    rw [show 2 + m = (1 + m) + 1 by omega]
    refine fn_data F sc61 (fun ds Q ⟨_, _, _, _, ⟨_, h, _⟩, _⟩ => by rw [h]; rfl) fun cdv A outer s H E W ds Q B hr h => ?_
    obtain ⟨fl, n, S, thing, ⟨es, rfl, hn, hlen, hp, hfl, hfit, hdep, hwd⟩, rfl⟩ := h
    have hk := fit_kn hfit
    have hr1 := hr.mono (show 1 ≤ 1 + m by omega)
    have hu : (A.deeper (PyProof.Rows.envOfC "_law_depth" (defScope (top 61)) s.heap.objs.size f cdv)).units + 64 < cLine := hr.units
    have hu9 : (A.deeper (PyProof.Rows.envOfC "_law_depth" (defScope (top 61)) s.heap.objs.size f cdv)).units + 9 < cLine := by have := hr.units; omega
    refine ss_ifr (tb_not (tb_val (ed_isTup T.isinst T.tuple (ed_var 3) hk))) (fun hT => ?_) (fun hT => ?_)
    · refine ss_ret ed_non rfl ?_
      rw [dpt_not_tup (by simpa using hT.symm)]; rfl
    obtain ⟨ds, rfl⟩ : ∃ ds, thing = .tup ds := by cases thing <;> first | exact ⟨_, rfl⟩ | cases hT
    have hwl : ds.length ≤ 1000 := by
      simp only [wd] at hwd; omega
    by_cases h2 : ds.length = 2
    · obtain ⟨x, y, rfl⟩ := two_of h2
      have fx : fitD x = true := fitL_mem hfit x (by simp)
      have fy : fitD y = true := fitL_mem hfit y (by simp)
      have E0 : ∀ {X : Cx} {pos : Pos} {a : Expr} {j : Nat} {p2 : Pos} {ρ : List (Option D)}, EE X W ρ a (.tup [x, y]) → EE X W ρ (.Subscript a (.Constant (.int 0) j p2) pos) x := fun h => ed_ixT h ed_int (by decide) rfl
      have E1 : ∀ {X : Cx} {pos : Pos} {a : Expr} {j : Nat} {p2 : Pos} {ρ : List (Option D)}, EE X W ρ a (.tup [x, y]) → EE X W ρ (.Subscript a (.Constant (.int 1) j p2) pos) y := fun h => ed_ixT h ed_int (by decide) rfl
      by_cases hx : x = .str toldS
      · subst hx
        refine ss_take (u := decide ((([.str toldS, y] : List D).length : Int) = 2) && (isStr (.str toldS) && decide (toldS = toldS))) (WB.tb (wb_and (tb_eqI (ed_lenT T.len (ed_var 3)) ed_int) fun _ => wb_and (tb_val (ed_isStr T.isinst T.str (E0 (ed_var 3)) rfl)) fun _ => wb_and1 (tb_eqS (E0 (ed_var 3)) ed_str))) rfl ?_
        by_cases hy : isTup y = true
        · obtain ⟨fs, rfl⟩ : ∃ fs, y = .tup fs := by cases y <;> first | exact ⟨_, rfl⟩ | cases hy
          have hwf : fs.length ≤ 1000 := by
            simp only [wd, wdL] at hwd; omega
          refine ss_ifr (WB.tb (wb_or (tb_not (tb_val (ed_isTup T.isinst T.tuple (E1 (ed_var 3)) rfl))) fun _ => wb_or1 (tb_gt (ed_lenL T.len (ed_filter1A 9 fs id (fun d => !isBl d) id rfl sc61.nd (PIimp (id_tup (E1 (ed_var 3))) fun σ H R ⟨ok, sl, q⟩ => ⟨ok, sl, fun J H1 Δ xs hx => q J H1 Δ xs (by rw [hx, List.map_id])⟩) (blkOk_by (N := N61) (sc := defScope (top 61)) (by decide +kernel)) (by omega) (fun _ _ _ _ _ => pg_name sc61.nd rfl (Or.inl rfl))
            (fun d hd ys L nL s H C' cl fp => tb_not (tb_val (ed_isBl T.isinst T.bool (ed_var 9) (fit_kn (fitL_mem fy d hd))))) (fun d hd _ ys L nL s H C' cl fp => ed_var 9))) ed_int))) (fun hb => ?_) (fun hb => ?_)
          · refine ss_ret ed_non rfl ?_
            have bad : ¬ (D.str toldS = .str toldS ∧ ∃ bs : List Bool, D.tup fs = .tup (bs.map .bl)) := fun ⟨_, bs, e⟩ => by
              injection e with e
              subst e
              rw [List.filter_eq_nil_iff.mpr (fun d hd => by obtain ⟨b, _, rfl⟩ := List.mem_map.mp hd; simp [isBl])] at hb
              cases hb
            have := dpt_two_bad (fl := fl) (n := n) (S := S) bad
            cases q : dpt fl n S (.tup [.str toldS, .tup fs]) with
            | none => rfl
            | some k => rw [q] at this; cases this
          · have hall : fs.all isBl = true := List.all_eq_true.mpr fun d hd => by
              cases q : isBl d with
              | true => rfl
              | false =>
                have : 0 < (fs.filter fun d => !isBl d).length := List.length_pos_of_mem (List.mem_filter.mpr ⟨hd, by rw [q]; rfl⟩)
                rw [Bool.false_eq] at hb
                simp only [isTup, Bool.not_true, Bool.false_or, List.length_map, decide_eq_false_iff_not] at hb
                omega
            obtain ⟨bs, rfl⟩ := bools_bl hall
            refine ss_ifr (tb_gt (ed_lenL T.len (ed_filter1A 8 S .ord (fun o => !decide (fl o = bs)) .ord rfl sc61.nd (id_lst (ed_var 2)) (blkOk_by (N := N61) (sc := defScope (top 61)) (by decide +kernel)) (by omega) (fun _ _ _ _ _ => pg_name sc61.nd rfl (Or.inl rfl))
              (fun o ho ys L nL s H C' cl fp => tb_neBs hu (ed_nget hu9 (nd_is (ed_var 1)) (ed_var 8) (keyD_ord o) (hfl o ho).1) (ed_ixT (ed_var 3) ed_int (by decide) rfl)) (fun o ho _ ys L nL s H C' cl fp => ed_var 8))) ed_int) (fun hs => ?_) (fun hs => ?_)
            · have ne : ¬ ∀ o ∈ S, fl o = bs := fun h => by
                rw [List.filter_eq_nil_iff.mpr (fun o ho => by rw [h o ho]; simp)] at hs
                cases hs
              refine ss_ret ed_non rfl ?_
              have := dpt_two_told (fl := fl) (n := n) (S := S) (s := toldS) (bs := bs)
              rw [decide_eq_false ne, Bool.and_false] at this
              cases q : dpt fl n S (.tup [.str toldS, .tup (bs.map .bl)]) with
              | none => rfl
              | some k => rw [q] at this; cases this
            · refine ss_ret (d := .int 0) ed_int rfl ?_
              rw [dpt_told fun o ho => ?_]
              · rfl
              · by_cases q : fl o = bs
                · exact q
                · have : 0 < (S.filter fun o => !decide (fl o = bs)).length := List.length_pos_of_mem (List.mem_filter.mpr ⟨ho, by rw [decide_eq_false q]; rfl⟩)
                  rw [Bool.false_eq] at hs
                  simp only [List.length_map, decide_eq_false_iff_not] at hs
                  omega
        · refine ss_take (WB.tb (wb_or0 (tb_not (tb_val (ed_isTup T.isinst T.tuple (E1 (ed_var 3)) (fit_kn fy)))) (by rw [eq_false_of_ne_true hy]; rfl))) rfl (ss_ret ed_non rfl ?_)
          have := dpt_two_bad (fl := fl) (n := n) (S := S) (x := .str toldS) (y := y) fun ⟨_, bs, e⟩ => by rw [e] at hy; exact hy rfl
          cases q : dpt fl n S (.tup [.str toldS, y]) with
          | none => rfl
          | some k => rw [q] at this; cases this
      · have hno : dpt fl n S (.tup [x, y]) = none := by
          have := dpt_two_bad (fl := fl) (n := n) (S := S) (x := x) (y := y) fun h => hx h.1
          cases q : dpt fl n S (.tup [x, y]) with
          | none => rfl
          | some k => rw [q] at this; cases this
        by_cases hs : isStr x = true
        · obtain ⟨z, rfl⟩ : ∃ z, x = .str z := by cases x <;> first | exact ⟨_, rfl⟩ | cases hs
          have hz : z ≠ toldS := fun e => hx (by rw [e])
          refine ss_skip (u := decide ((([.str z, y] : List D).length : Int) = 2) && (isStr (.str z) && decide (z = toldS))) (WB.tb (wb_and (tb_eqI (ed_lenT T.len (ed_var 3)) ed_int) fun _ => wb_and (tb_val (ed_isStr T.isinst T.str (E0 (ed_var 3)) rfl)) fun _ => wb_and1 (tb_eqS (E0 (ed_var 3)) ed_str))) (by rw [decide_eq_false hz, Bool.and_false, Bool.and_false]) ?_
          refine ss_take (u := true) (WB.tb (wb_or0 (tb_neI (ed_lenT T.len (ed_var 3)) ed_int) rfl)) rfl (ss_ret ed_non rfl ?_)
          rw [hno]; rfl
        · refine ss_skip (u := decide ((([x, y] : List D).length : Int) = 2) && false) (WB.tb (wb_and (tb_eqI (ed_lenT T.len (ed_var 3)) ed_int) fun _ => wb_and0 (tb_val (ed_isStr T.isinst T.str (E0 (ed_var 3)) (fit_kn fx))) (eq_false_of_ne_true hs))) (Bool.and_false _) ?_
          refine ss_take (u := true) (WB.tb (wb_or0 (tb_neI (ed_lenT T.len (ed_var 3)) ed_int) rfl)) rfl (ss_ret ed_non rfl ?_)
          rw [hno]; rfl
    · refine ss_skip (u := false) (WB.tb (wb_and0 (tb_eqI (ed_lenT T.len (ed_var 3)) ed_int) (decide_eq_false (by omega)))) rfl ?_
      by_cases h4 : ds.length = 4
      · obtain ⟨a, b, t1, t2, rfl⟩ := four_of h4
        have fa : fitD a = true := fitL_mem hfit a (by simp)
        have fb : fitD b = true := fitL_mem hfit b (by simp)
        have f1 : fitD t1 = true := fitL_mem hfit t1 (by simp)
        have f2 : fitD t2 = true := fitL_mem hfit t2 (by simp)
        have E0 : ∀ {X : Cx} {pos : Pos} {e : Expr} {j : Nat} {p2 : Pos} {ρ : List (Option D)}, EE X W ρ e (.tup [a, b, t1, t2]) → EE X W ρ (.Subscript e (.Constant (.int 0) j p2) pos) a := fun h => ed_ixT h ed_int (by decide) rfl
        have E1 : ∀ {X : Cx} {pos : Pos} {e : Expr} {j : Nat} {p2 : Pos} {ρ : List (Option D)}, EE X W ρ e (.tup [a, b, t1, t2]) → EE X W ρ (.Subscript e (.Constant (.int 1) j p2) pos) b := fun h => ed_ixT h ed_int (by decide) rfl
        have E2 : ∀ {X : Cx} {pos : Pos} {e : Expr} {j : Nat} {p2 : Pos} {ρ : List (Option D)}, EE X W ρ e (.tup [a, b, t1, t2]) → EE X W ρ (.Subscript e (.Constant (.int 2) j p2) pos) t1 := fun h => ed_ixT h ed_int (by decide) rfl
        have E3 : ∀ {X : Cx} {pos : Pos} {e : Expr} {j : Nat} {p2 : Pos} {ρ : List (Option D)}, EE X W ρ e (.tup [a, b, t1, t2]) → EE X W ρ (.Subscript e (.Constant (.int 3) j p2) pos) t2 := fun h => ed_ixT h ed_int (by decide) rfl
        refine ss_ifr (WB.tb (wb_or (u := !decide ((([a, b, t1, t2] : List D).length : Int) = 4)) (tb_neI (ed_lenT T.len (ed_var 3)) ed_int) fun _ => wb_or (tb_not (tb_val (ed_cal C1 hr1 pass0 (ad_cons (E0 (ed_var 3)) (ad_cons ed_int (ad_cons (ed_sub (ed_var 0) ed_int) ad_nil))) (P := fun z => z = .bl (withinD a 0 ((n : Int) - 1))) ⟨_, _, _, rfl, fit_kn fa, rfl⟩)))
          fun _ => wb_or1 (tb_not (tb_val (ed_cal C1 hr1 pass0 (ad_cons (E1 (ed_var 3)) (ad_cons ed_int (ad_cons (ed_sub (ed_var 0) ed_int) ad_nil))) (P := fun z => z = .bl (withinD b 0 ((n : Int) - 1))) ⟨_, _, _, rfl, fit_kn fb, rfl⟩))))) (fun hw => ?_) (fun hw => ?_)
        · refine ss_ret ed_non rfl ?_
          have no : dpt fl n S (.tup [a, b, t1, t2]) = none := dpt_not_within fun e => by
            rw [e.1, e.2] at hw; cases hw
          rw [no]; rfl
        obtain ⟨w1, w2⟩ : withinD a 0 ((n : Int) - 1) = true ∧ withinD b 0 ((n : Int) - 1) = true := by
          cases q1 : withinD a 0 ((n : Int) - 1) <;> cases q2 : withinD b 0 ((n : Int) - 1) <;> first | exact ⟨rfl, rfl⟩ | (rw [q1, q2] at hw; cases hw)
        obtain ⟨i, rfl, i0, i1⟩ := within_is w1
        obtain ⟨j, rfl, j0, j1⟩ := within_is w2
        obtain ⟨i, rfl⟩ := Int.eq_ofNat_of_zero_le i0
        obtain ⟨j, rfl⟩ := Int.eq_ofNat_of_zero_le j0
        have hi : i < n := by omega
        have hj : j < n := by omega
        refine ss_unpack (P := fun d => d = .tup [ordsL (K14.fst S i j), ordsL (K14.fst S j i)]) (gd_tup (js := [4, 5]) rfl (gns_cons 4 (gns_cons 5 gns_nil sc61.nd) sc61.nd)) (ed_cal C2 hr1 pass0 (ad_cons (ed_var 2) (ad_cons (E0 (ed_var 3)) (ad_cons (E1 (ed_var 3)) ad_nil))) ⟨n, S, i, j, rfl, hp, hi, hj, hlen, rfl⟩) fun d hd => ?_
        subst hd
        refine ⟨_, rfl, ?_⟩
        refine ss_ifr (WB.tb (wb_or (tb_eqI (E0 (ed_var 3)) (E1 (ed_var 3))) fun _ => wb_or (tb_eqI (ed_lenL T.len (ed_var 4)) ed_int) fun _ => wb_or1 (tb_eqI (ed_lenL T.len (ed_var 5)) ed_int))) (fun hg => ?_) (fun hg => ?_)
        · refine ss_ret ed_non rfl ?_
          have no : dpt fl n S (.tup [.int (i : Int), .int (j : Int), t1, t2]) = none := dpt_four_bad fun g => by
            obtain ⟨_, _, _, _, g5, g6, g7⟩ := g
            rw [Int.toNat_natCast, Int.toNat_natCast] at g6 g7
            rw [fst_nil, fst_nil, decide_eq_false g5, decide_eq_false g6, decide_eq_false g7] at hg; cases hg
          rw [no]; rfl
        have g : goodQ n S (i : Int) (j : Int) := by
          refine ⟨by omega, by omega, by omega, by omega, fun e => ?_, fun e => ?_, fun e => ?_⟩
          · rw [decide_eq_true e] at hg; cases hg
          · have e' : K14.fst S i j = [] := e
            rw [fst_nil, fst_nil, decide_eq_true e', Bool.true_or, Bool.or_true] at hg; cases hg
          · have e' : K14.fst S j i = [] := e
            rw [fst_nil, fst_nil, decide_eq_true e', Bool.or_true, Bool.or_true] at hg; cases hg
        have d1 : dep t1 < m := by
          have := (@dep_four (.int i) (.int j) t1 t2).1
          omega
        have d2 : dep t2 < m := by
          have := (@dep_four (.int i) (.int j) t1 t2).2
          omega
        have w1 : wd t1 ≤ 1000 := by
          simp only [wd, wdL] at hwd; omega
        have w2 : wd t2 ≤ 1000 := by
          simp only [wd, wdL] at hwd; omega
        obtain ⟨m', rfl⟩ : ∃ m', m = m' + 1 := ⟨m - 1, by omega⟩
        have CR : Cal P w K mg base CX0 (2 + m') "_law_depth" A61 (spN (okDepth m')) := ⟨f, fd, ih m' rfl, hm, F.kp, hB⟩
        have hr2 := hr.mono (show 2 + m' ≤ 1 + (m' + 1) by omega)
        refine ss_set 6 (d := oD (dpt fl n (K14.fst S i j) t1)) (ed_cal CR hr2 pass0 (ad_cons (ed_var 0) (ad_cons (ed_var 1) (ad_cons (ed_var 4) (ad_cons (E2 (ed_var 3)) ad_nil)))) ⟨fl, n, K14.fst S i j, t1, ⟨es, rfl, hn, Nat.le_trans (fst_le _ _ _) hlen, hp.fst _ _, fun o ho => hfl o (mem_fst.mp ho).1, f1, by omega, w1⟩, rfl⟩) ?_ sc61.nd
        refine ss_set 7 (d := oD (dpt fl n (K14.fst S j i) t2)) (ed_cal CR hr2 pass0 (ad_cons (ed_var 0) (ad_cons (ed_var 1) (ad_cons (ed_var 5) (ad_cons (E3 (ed_var 3)) ad_nil)))) ⟨fl, n, K14.fst S j i, t2, ⟨es, rfl, hn, Nat.le_trans (fst_le _ _ _) hlen, hp.fst _ _, fun o ho => hfl o (mem_fst.mp ho).1, f2, by omega, w2⟩, rfl⟩) ?_ sc61.nd
        rw [dpt_four g, Int.toNat_natCast, Int.toNat_natCast]
        cases q1 : dpt fl n (K14.fst S i j) t1 with
        | none => exact ss_take (u := true) (WB.tb (wb_or0 (tb_isN (ed_var 6)))) rfl (ss_ret ed_non rfl rfl)
        | some x =>
          cases q2 : dpt fl n (K14.fst S j i) t2 with
          | none => exact ss_take (u := isNon (oD (some x)) || isNon (oD none)) (WB.tb (wb_or (tb_isN (ed_var 6)) fun _ => wb_or1 (tb_isN (ed_var 7)))) rfl (ss_ret ed_non rfl rfl)
          | some y =>
            refine ss_skip (u := isNon (oD (some x)) || isNon (oD (some y))) (WB.tb (wb_or (tb_isN (ed_var 6)) fun _ => wb_or1 (tb_isN (ed_var 7)))) rfl ?_
            refine ss_ret (d := .int (1 + max (x : Int) (y : Int))) (ed_add ed_int (ed_max rfl T.max (ed_var 6) (ed_var 7))) rfl ?_
            show D.int _ = D.int _
            refine congrArg D.int ?_
            omega
      · refine ss_take (u := true) (WB.tb (wb_or0 (tb_neI (ed_lenT T.len (ed_var 3)) ed_int) (by rw [decide_eq_false (by omega)]; rfl))) rfl (ss_ret ed_non rfl ?_)
        rw [dpt_len h2 h4]; rfl
end
end K14

set_option Elab.async false
set_option linter.all false
set_option maxRecDepth 100000
set_option maxHeartbeats 4000000
namespace K14
open PySem L2
/-- a datum of a tree's shape -/
def ShD (k : Nat) (d : D) : Prop := fitD d = true ∧ dep d ≤ k ∧ wd d ≤ 10
theorem sh_told {bs : List Bool} {k : Nat} (h : bs.length ≤ 10) : ShD (k + 2) (.tup [.str toldS, .tup (bs.map .bl)]) := by
  refine ⟨?_, ?_, ?_⟩
  · simp [fitD, fitL, fit_bls]
  · simp only [dep, depL, dep_bls]; omega
  · simp only [wd, wdL, wdL_bls, List.length_map, List.length_cons, List.length_nil]; omega
theorem sh_node {i j k : Nat} {t1 t2 : D} (h1 : ShD k t1) (h2 : ShD k t2) : ShD (k + 1) (.tup [natD i, natD j, t1, t2]) := by
  obtain ⟨a1, a2, a3⟩ := h1
  obtain ⟨b1, b2, b3⟩ := h2
  refine ⟨?_, ?_, ?_⟩
  · simp [fitD, fitL, natD, a1, b1]
  · simp only [dep, depL, natD]; omega
  · simp only [wd, wdL, natD, List.length_cons, List.length_nil]; omega
theorem ShD.mono {j k : Nat} {d : D} (h : ShD j d) (hk : j ≤ k) : ShD k d := ⟨h.1, Nat.le_trans h.2.1 hk, h.2.2⟩
section
variable {P : Program} {w : World} {K : PySem.W.Frag} {mg : Str → Option Value} {base : Heap} {f : Addr} {fd : FuncData}
structure OwnIn (W : Res) (m : Nat) (ds : List D) (n : Nat) (S : List (List Nat)) : Prop where
  ex : ∃ (l : Addr) (fl : List Nat → List Bool) (es : List (NestedKey × D)), HasTape W l ∧ ds = [.obj l, natD n, .dnk es, ordsL S] ∧ 0 < n ∧ n ≤ 1000 ∧ S ≠ [] ∧ S.length ≤ 1000 ∧ Perms n S ∧ Flagged fl es S ∧ sp n S ≤ m
def okOwn (m : Nat) (W : Res) (ds : List D) (Q : D → Prop) : Prop := ∃ (n : Nat) (S : List (List Nat)), OwnIn W m ds n S ∧ Q = ShD (m + 2)
theorem ok62 (F : FnP K "_law_own" (top 62) f fd) (T : Tx mg) (hm : mg "_law_own" = some (.ref f)) (hB : Binds K fd A62 []) (C1 : Cal P w K mg base CX0 1 "_law_pick" A43 (spW okPick)) (C2 : Cal P w K mg base CX0 1 "_law_parted" A59 (spN okParted)) :
    ∀ m, FnOk P w K mg base CX0 (2 + m) f fd A62 (spW (okOwn m)) := by
  intro m
  induction m with
  | zero => exact step 0 fun m' h => (by cases h)
  | succ m ih => exact step (m + 1) fun m' h => (by cases h; exact ih)
where
  step (m : Nat) (ih : ∀ m', m = m' + 1 → FnOk P w K mg base CX0 (2 + m') f fd A62 (spW (okOwn m'))) : FnOk P w K mg base CX0 (2 + m) f fd A62 (spW (okOwn m)) := by
    rw [show 2 + m = (1 + m) + 1 by omega]
    refine fn_dataW F sc62 (fun W ds Q ⟨_, _, ⟨_, _, _, _, h, _⟩, _⟩ => by rw [h]; rfl) fun cdv A outer s H E W ds Q B hr h => ?_
    obtain ⟨n, S, ⟨l, fl, es, ht, rfl, hn0, hn, hS, hlen, hp, hfl, hsp⟩, rfl⟩ := h
    have hr1 := hr.mono (show 1 ≤ 1 + m by omega)
    have hu : (A.deeper (PyProof.Rows.envOfC "_law_own" (defScope (top 62)) s.heap.objs.size f cdv)).units + 64 < cLine := hr.units
    have hu9 : (A.deeper (PyProof.Rows.envOfC "_law_own" (defScope (top 62)) s.heap.objs.size f cdv)).units + 9 < cLine := by have := hr.units; omega
    obtain ⟨o0, S', rfl⟩ : ∃ o0 S', S = o0 :: S' := by
      cases S with
      | nil => exact absurd rfl hS
      | cons o S => exact ⟨o, S, rfl⟩
    have h0 : o0 ∈ o0 :: S' := List.mem_cons_self
    refine ss_set 4 (d := .lst ((o0 :: S').map fun o => .tup ((fl o).map .bl))) (ed_map1A 10 (o0 :: S') .ord (fun o => .tup ((fl o).map .bl)) rfl sc62.nd (id_lst (ed_var 3)) (blkOk_by (N := N62) (sc := defScope (top 62)) (by decide +kernel)) (by omega) (fun _ _ _ _ _ => pg_name sc62.nd rfl (Or.inl rfl))
      (fun o ho ys L nL s H C cl fp => ed_nget hu9 (nd_is (ed_var 2)) (ed_var 10) (keyD_ord o) (hfl o ho).1)) ?_ sc62.nd
    refine ss_ifr (PWt (wd_and (Pa := fun b => b = decide (((((o0 :: S').map fl).filter fun bs => !decide (bs = fl o0)).map (fun bs => D.tup (bs.map .bl))).length = (0 : Int))) (tb_eqI (ed_lenL T.len (ed_filter1A 6 ((o0 :: S').map fl) (fun bs => .tup (bs.map .bl)) (fun bs => !decide (bs = fl o0)) (fun bs => .tup (bs.map .bl)) rfl sc62.nd (PIimp (id_lst (ed_var 4)) fun σ H R ⟨ok, sl, q⟩ => ⟨ok, sl, fun J H1 Δ xs hx => q J H1 Δ xs (by rw [hx, List.map_map]; rfl)⟩) (blkOk_by (N := N62) (sc := defScope (top 62)) (by decide +kernel)) (by rw [List.length_map]; omega) (fun _ _ _ _ _ => pg_name sc62.nd rfl (Or.inl rfl))
      (fun bs hb ys L nL s H C cl fp => tb_neBs hu (ed_var 6) (ed_ixL (ed_var 4) ed_int (by decide) rfl)) (fun bs hb _ ys L nL s H C cl fp => ed_var 6))) ed_int) (wd_and1 (td_pickGt (ed_pick (n := 4) ht C1 hr1 (ed_var 0) ed_int (by decide)) ed_int)))) (fun _ => ?_) (fun _ => ?_)
    · exact ss_ret (d := .tup [.str toldS, .tup ((fl o0).map .bl)]) (ed_tup (ad_cons ed_str (ad_cons (ed_ixL (ed_var 4) ed_int (by decide) rfl) ad_nil)) (Nat.le_of_ble_eq_true rfl)) rfl (sh_told (hfl o0 h0).2)
    · refine ss_for (α := Unit) (fun _ _ _ => True) (fun _ => W) (fun _ => [some (.obj l), some (natD n), some (.dnk es), some (ordsL (o0 :: S')), some (.lst ((o0 :: S').map fun o => .tup ((fl o).map .bl))), none, none, none, none, none, none]) () rfl rfl
        (fun σ H => ∃ _ : Unit, True ∧ At B W [] [some (.obj l), some (natD n), some (.dnk es), some (ordsL (o0 :: S')), some (.lst ((o0 :: S').map fun o => .tup ((fl o).map .bl))), none, none, none, none, none, none] σ H) PassesOwn.never rfl
        (id_range1 T.range ed_int (by decide)) (gd_name 5 sc62.nd) (fun xs _ => trivial) (fun xs k a _ _ d _ => ⟨_, rfl⟩) (fun xs hx Γ1 k x a ρ' hxk _ hpt => ?_) (fun xs hx a σ H _ at_ => ⟨(), trivial, at_⟩)
        (SS.exP fun _ _ => ss_ret (d := .tup [.str toldS, .tup ((fl o0).map .bl)]) (ed_tup (ad_cons ed_str (ad_cons (ed_ixL (ed_var 4) ed_int (by decide) rfl) ad_nil)) (Nat.le_of_ble_eq_true rfl)) rfl (sh_told (hfl o0 h0).2))
      cases hpt
      refine ss_setP 6 (P := pickD n) (ed_pick (n := n) ht C1 hr1 (ed_var 0) (ed_var 1) ⟨hn0, hn⟩) (fun d hd => ?_) sc62.nd
      obtain ⟨i, hi, rfl⟩ := hd
      refine ss_setP 7 (P := pickD n) (ed_pick (n := n) ht C1 hr1 (ed_var 0) (ed_var 1) ⟨hn0, hn⟩) (fun d hd => ?_) sc62.nd
      obtain ⟨j, hj, rfl⟩ := hd
      have done : ∀ {a b c d : Option D} {σ : St} {H : Hp}, At B W Γ1 [some (.obj l), some (natD n), some (.dnk es), some (ordsL (o0 :: S')), some (.lst ((o0 :: S').map fun o => .tup ((fl o).map .bl))), some x, a, b, c, d, none] σ H →
          Lp B (fun _ _ => True) (fun _ : Unit => W) (fun _ => [some (.obj l), some (natD n), some (.dnk es), some (ordsL (o0 :: S')), some (.lst ((o0 :: S').map fun o => .tup ((fl o).map .bl))), none, none, none, none, none, none]) Γ1 (k + 1) σ H := fun at_ => ⟨(), trivial, at_.forget (by repeat (first | exact Wk.nil | refine Wk.keep ?_ | refine Wk.drop ?_))⟩
      refine ss_if (Lp B (fun _ _ => True) (fun _ : Unit => W) (fun _ => [some (.obj l), some (natD n), some (.dnk es), some (ordsL (o0 :: S')), some (.lst ((o0 :: S').map fun o => .tup ((fl o).map .bl))), none, none, none, none, none, none]) Γ1 (k + 1)) (tb_neI (ed_var 6) (ed_var 7)) (fun hne => ?_) (fun _ => ss_nil fun σ H at_ => done at_) (ss_nil fun σ H h => h)
      refine ss_unpack (P := fun d => d = .tup [ordsL (K14.fst (o0 :: S') i j), ordsL (K14.fst (o0 :: S') j i)]) (gd_tup (js := [8, 9]) rfl (gns_cons 8 (gns_cons 9 gns_nil sc62.nd) sc62.nd)) (ed_cal C2 hr1 pass0 (ad_cons (ed_var 3) (ad_cons (ed_var 6) (ad_cons (ed_var 7) ad_nil))) ⟨n, o0 :: S', i, j, rfl, hp, hi, hj, hlen, rfl⟩) fun d hd => ?_
      subst hd
      refine ⟨_, rfl, ?_⟩
      refine ss_ifr (WB.tb (wb_and (tb_gt (ed_lenL T.len (ed_var 8)) ed_int) fun _ => wb_and1 (tb_gt (ed_lenL T.len (ed_var 9)) ed_int))) (fun hg => ?_) (fun _ => ss_nil fun σ H at_ => done at_)
      have ne : i ≠ j := fun e => by rw [e, decide_eq_true rfl] at hne; cases hne
      have f1 : K14.fst (o0 :: S') i j ≠ [] := fun e => by rw [e] at hg; cases hg
      have f2 : K14.fst (o0 :: S') j i ≠ [] := fun e => by rw [e, Bool.and_comm] at hg; cases hg
      have lt : sp n (K14.fst (o0 :: S') i j) < sp n (o0 :: S') ∧ sp n (K14.fst (o0 :: S') j i) < sp n (o0 :: S') := by
        by_cases h : i < j
        · exact sp_lt h hj f1 f2
        · exact (sp_lt (show j < i by omega) hi f2 f1).symm
      obtain ⟨m', rfl⟩ : ∃ m', m = m' + 1 := ⟨m - 1, by omega⟩
      have CR : Cal P w K mg base CX0 (2 + m') "_law_own" A62 (spW (okOwn m')) := ⟨f, fd, ih m' rfl, hm, F.kp, hB⟩
      have hr2 := hr.mono (show 2 + m' ≤ 1 + (m' + 1) by omega)
      refine ss_retP2 (P := ShD (m' + 1 + 2)) (P' := fun d => ∃ ds, d = .tup ds ∧ ∃ d1 r1, ds = d1 :: r1 ∧ d1 = natD i ∧ ∃ d2 r2, r1 = d2 :: r2 ∧ d2 = natD j ∧ ∃ d3 r3, r2 = d3 :: r3 ∧ ShD (m' + 2) d3 ∧ ∃ d4 r4, r3 = d4 :: r4 ∧ ShD (m' + 2) d4 ∧ r4 = [])
        (ed_tupP (ad_consP (P1 := fun z => z = natD i) (ed_var 6) (ad_consP (P1 := fun z => z = natD j) (ed_var 7)
          (ad_consP (P1 := ShD (m' + 2)) (ed_calW CR hr2 (E := fun _ _ _ => False) pass0 (ad_cons (ed_var 0) (ad_cons (ed_var 1) (ad_cons (ed_var 2) (ad_cons (ed_var 8) ad_nil)))) ⟨n, _, ⟨l, fl, es, ht, rfl, hn0, hn, f1, Nat.le_trans (fst_le _ _ _) hlen, hp.fst _ _, fun o ho => hfl o (mem_fst.mp ho).1, by omega⟩, rfl⟩)
          (ad_consP (P1 := ShD (m' + 2)) (ed_calW CR hr2 (E := fun _ _ _ => False) pass0 (ad_cons (ed_var 0) (ad_cons (ed_var 1) (ad_cons (ed_var 2) (ad_cons (ed_var 9) ad_nil)))) ⟨n, _, ⟨l, fl, es, ht, rfl, hn0, hn, f2, Nat.le_trans (fst_le _ _ _) hlen, hp.fst _ _, fun o ho => hfl o (mem_fst.mp ho).1, by omega⟩, rfl⟩) ad_nil)))) fun ds hds => ?_)
        (fun d hd => ?_) .refl
      · obtain ⟨d1, r1, rfl, _, d2, r2, rfl, _, d3, r3, rfl, _, d4, r4, rfl, _, rfl⟩ := hds
        exact Nat.le_of_ble_eq_true rfl
      · obtain ⟨ds, rfl, d1, r1, rfl, rfl, d2, r2, rfl, rfl, d3, r3, rfl, t3, d4, r4, rfl, t4, rfl⟩ := hd
        exact sh_node t3 t4
end
end K14

set_option Elab.async false
set_option linter.all false
set_option maxRecDepth 100000
set_option maxHeartbeats 4000000
namespace K14
open PySem L2
/-! ### a tuple turned round -/
section
open PySem.Spec PyProof.Rows
theorem back_list {α : Type} (xs : Array α) : ((List.range xs.size).filterMap fun (k : Nat) => xs[(((xs.size : Int) - 1) + (k : Int) * (-1)).toNat]?).toArray = xs.toList.reverse.toArray := by
  have h := PySem.W.krv_sliceRange xs.size
  have e := PySem.W.krv_range xs.size
  congr 1
  have : ∀ l : List Nat, l.filterMap (fun (k : Nat) => xs[(((xs.size : Int) - 1) + (k : Int) * (-1)).toNat]?) = (l.map fun k => xs.size - 1 - k).filterMap (xs[·]?) := fun l => by
    rw [List.filterMap_map]
    refine congrFun (congrArg List.filterMap (funext fun k => ?_)) l
    show xs[(((xs.size : Int) - 1) + (k : Int) * (-1)).toNat]? = xs[xs.size - 1 - k]?
    by_cases hk : xs.size = 0
    · rw [Array.getElem?_eq_none (by omega), Array.getElem?_eq_none (by omega)]
    · exact congrArg (xs[·]?) (show (((xs.size : Int) - 1) + (k : Int) * (-1)).toNat = xs.size - 1 - k by omega)
  rw [this]
  rw [e, List.filterMap_reverse, PySem.W.krv_all]
theorem back_places (n : Nat) : PySem.Builtin.Slice.slicePlaces ((n : Int) - 1) (-1) (-1) = n := by
  unfold PySem.Builtin.Slice.slicePlaces
  have h1 : ¬ ((-1 : Int) > 0) := by omega
  rw [if_neg h1]
  by_cases h : n = 0
  · subst h; rfl
  · rw [if_pos (by omega)]
    have : ((n : Int) - 1 - -1 - 1) / (- -1) = (n : Int) - 1 := by
      rw [show (- -1 : Int) = 1 from rfl, Int.ediv_one]; omega
    rw [this]; omega
end
section
open PySem.Spec PyProof.Rows HT
variable {prog : Program} {w : World} {A : Around} {E : Value → Shared → Prop} {s : Shared}
theorem cut_back {sl : Addr} {vs : Value} {n : Nat} {Q : Int × Int × Nat → Shared → Prop} (hs : s.heap.IsSliceOf sl .none .none vs) (ps : IsPart vs (some (-1))) (h : Q ((n : Int) - 1, -1, n) s) :
    wpAny (model prog w) A (Builtin.Slice.sliceApplied (.ref sl) (pure (n : Int))) Q E s := by
  obtain ⟨o, h1, h2, h3⟩ := id hs; unfold Builtin.Slice.sliceApplied Builtin.Slice.sliceFields
  refine wpAny_bind (wpAny_bind (wpAny_field h1 h3 (x := .none) rfl (wpAny_bind (wpAny_field h1 h3 (x := .none) rfl (wpAny_bind (wpAny_field h1 h3 (x := vs) rfl (wpAny_pure ?_)))))))
  refine wpAny_bind (_root_.HT.slicePart_ ps ?_)
  show wpAny _ _ (if ((-1 : Int) == 0) = true then _ else _) _ _ s
  rw [if_neg (by decide)]; refine wpAny_bind (_root_.HT.slicePart_ .none (wpAny_bind (_root_.HT.slicePart_ .none (wpAny_bind (wpAny_pure ?_)))))
  show wpAny _ _ (pure ((n : Int) - 1, (-1 : Int), Builtin.Slice.slicePlaces ((n : Int) - 1) (-1) (-1))) _ _ s
  rw [back_places]; exact wpAny_pure h
theorem item_back {t sl : Addr} {items : Array Value} {vs : Value} {Q : Value → Shared → Prop} (ht : IsTup s.heap t items) (hs : s.heap.IsSliceOf sl .none .none vs) (ps : IsPart vs (some (-1)))
    (h : Q (.ref s.heap.objs.size) { s with heap := s.heap.push { cls := .type "tuple", data := .seq items.toList.reverse.toArray } }) (hz : items.size ≤ sizeLine) : wpAny (model prog w) A (getItem (.ref t) (.ref sl)) Q E s := by
  obtain ⟨o, h1, h2, h3⟩ := id hs; have hT : s.TypeIs (.ref sl) "slice" := ⟨o, h1, h2⟩
  have hok : sizeOk (.seq items.toList.reverse.toArray) := by
    show items.toList.reverse.toArray.size ≤ sizeLine
    rw [List.size_toArray, List.length_reverse, Array.length_toList]; exact hz
  unfold getItem; try with_reducible refine wpAny_holding ?_
  first | refine wpAny_bind (wpAny_pure ?_) | skip
  refine wpAny_bind (wpAny_sequenceKey ht.typeIs (by decide) (wpAny_bind (wpAny_callSpecial?_slot (name := Str.ofString "__getitem__") ht.typeIs PyProof.Rows.slot_tuple_getitem (wpAny_call_entry PyProof.Rows.slot_tuple_getitem ht.typeIs entry_tuple_getitem ?_ (args_tuple_getitem _ _)))))
  show wpAny _ _ (Builtin.Tuple.tupleItemsOf (.ref t) >>= _) _ _ s
  refine wpAny_bind (tupleItemsOf_ ht (wpAny_bind (wpAny_typeOf hT ?_))); rw [if_pos (by decide)]
  refine wpAny_bind (cut_back hs ps ?_)
  have no : ¬ (((((items.size : Nat) : Int) - 1) == 0 && (-1 : Int) == 1 && items.size == items.size) = true) := fun q => by
    rw [Bool.and_eq_true, Bool.and_eq_true] at q; exact absurd q.1.2 (by decide)
  show wpAny _ _ (if ((((items.size : Nat) : Int) - 1) == 0 && (-1 : Int) == 1 && items.size == items.size) = true then _ else _) _ _ s
  rw [if_neg no, back_list]
  first | exact wpAny_bind (m := Builtin.Tuple.tupleExact _) (wpAny_newObj_type (wpAny_pure ⟨_, rfl, wpAny_pure h⟩) hok) | exact wpAny_bind (m := Builtin.Tuple.tupleExact _) (wpAny_newObj_type (wpAny_bind (wpAny_pure (wpAny_pure ⟨_, rfl, wpAny_pure h⟩))) hok) | exact wpAny_bind (wpAny_bind (m := Builtin.Tuple.tupleExact _) (wpAny_newObj_type (wpAny_pure (wpAny_pure ⟨_, rfl, wpAny_pure h⟩)) hok)) | exact wpAny_bind (wpAny_bind (m := Builtin.Tuple.tupleExact _) (wpAny_newObj_type (wpAny_pure ⟨_, rfl, wpAny_pure h⟩) hok))
end
section
open PySem.Spec PyProof.Rows
def tBack (K : PySem.W.Frag) (te : TE) : TE := fun σ H Q => te σ H fun x H1 => ∃ a xs, x = .ref a ∧ SqT K H1 a xs ∧ ∀ p, H1 p = none → Q (.ref p) (upd H1 p (.tup xs.reverse))
theorem pe_back {X : Cx} {e : Expr} {te : TE} {k : Nat} {p1 p2 p3 pos : Pos} (he : PE X e te) : PE X (.Subscript e (.Slice none none (some (.UnaryOp .USub (.Constant (.int 1) k p1) p2)) p3) pos) (tBack X.K te) := by
  refine ⟨fun pins s σ H Q I h => Subscript_ (thn (he.run pins s σ H _ I h) fun v s1 ⟨x, H1, I1, r1, a, xs, ex, hx, q⟩ => ?_)⟩
  subst ex; cases r1
  have hst : PO X (some (.UnaryOp .USub (.Constant (.int 1) k p1) p2)) (tPart (tUn (rU fun i => .int (-i)) (tC (.int 1)))) := po_some (pe_un un_neg pe_int)
  refine wpAny_Slice (thn (po_none.run pins s1 σ H1 (fun o H2 => o = none ∧ H2 = H1) I1 ⟨rfl, rfl⟩) fun vl s2 ⟨l, H2, I2, pl, el, e2⟩ => ?_); subst el e2
  refine thn (po_none.run pins s2 σ H2 (fun o H3 => o = none ∧ H3 = H2) I2 ⟨rfl, rfl⟩) fun vu s3 ⟨u, H3, I3, pu, eu, e3⟩ => ?_; subst eu e3
  refine thn (hst.run pins s3 σ H3 (fun o H4 => o = some (-1) ∧ H4 = H3) I3 ⟨1, rfl, -1, rfl, rfl, rfl⟩) fun vs s4 ⟨o, H4, I4, ps, eo, e4⟩ => ?_; subst eo e4
  have I5 : Inv X pins σ H4 { s4 with heap := s4.heap.push { cls := .type "slice", data := .fields #[vl, vu, vs] } } := I4.kept (t' := s4.toks) fun b ob q => Heap.get?_push_of_some _ q
  obtain ⟨its, r, ht, hz⟩ := I5.tuple hx
  have hlen := r.length; cases pl; cases pu
  show wpAny (model X.prog X.w) X.A (subscriptTail e (.Slice none none (some (.UnaryOp .USub (.Constant (.int 1) k p1) p2)) p3) (.ref a) (.ref s4.heap.objs.size)) (EP X pins σ Q) X.xe { s4 with heap := s4.heap.push { cls := .type "slice", data := .fields #[.none, .none, vs] } }
  refine tail_any (ops := [.ref a, .ref s4.heap.objs.size]) ht.typeIs PyProof.Rows.slot_tuple_getitem.lookup (item_back ht (Heap.IsSliceOf.new _ .none .none vs) ps ?_ (by rw [List.size_toArray]; omega)) (by with_unfolding_all rfl)
  refine ⟨.ref _, _, I5.laid (t' := s4.toks) (o := .tup xs.reverse) (fun b ob q => Heap.get?_push_of_some _ q) (Nat.le_refl _) ?_, rfl, q _ (I5.hok.fresh (Nat.le_refl _))⟩
  exact ⟨by rw [List.length_reverse]; exact hz, _, r.reverse, IsTup.new _ _⟩
theorem RpL.reverse {M : Ms} {H : Hp} : ∀ {xs : List V} {ds : List D}, RpL M H xs ds → RpL M H xs.reverse ds.reverse
  | _, _, .nil => .nil
  | _, _, .cons r l => by
    rw [List.reverse_cons, List.reverse_cons]; exact l.reverse.append (.cons r .nil)
theorem ed_back {X : Cx} {W : Res} {ρ : List (Option D)} {a : Expr} {ds : List D} {k : Nat} {p1 p2 p3 pos : Pos} (ha : EE X W ρ a (.tup ds)) : EE X W ρ (.Subscript a (.Slice none none (some (.UnaryOp .USub (.Constant (.int 1) k p1) p2)) p3) pos) (.tup ds.reverse) :=
  PEimp (pe_back ha) fun σ H Q ⟨ok, sl, q⟩ => ⟨ok, sl, fun z v H1 e1 ok1 hz r1 => by
    subst hz
    obtain ⟨p, us, rfl, n, he, l⟩ := id r1.tupI
    exact ⟨p, us, rfl, Or.inl (Or.inl he), fun p' hp => q _ _ _ (e1.trans (.new hp)) (W.new ok1 hp) rfl (.tup (W.fresh ok1 hp) upd_same (l.ext (.new hp)).reverse)⟩⟩
end
end K14

set_option Elab.async false
set_option linter.all false
set_option maxRecDepth 100000
set_option maxHeartbeats 4000000
namespace K14
open PySem L2
theorem cutD_take (ds : List D) (k : Nat) (h : k ≤ ds.length) : cutD ds none (some (k : Int)) = ds.take k := by
  unfold cutD
  rw [HT.sIx_nat, HT.sIx_none, Nat.min_eq_left h, List.drop_zero, Nat.sub_zero]
theorem cutD_drop (ds : List D) (k : Nat) (h : k ≤ ds.length) : cutD ds (some (k : Int)) none = ds.drop k := by
  unfold cutD
  rw [HT.sIx_nat, HT.sIx_none, Nat.min_eq_left h, List.take_of_length_le (by rw [List.length_drop]; exact Nat.le_refl _)]
theorem cutD_len (ds : List D) (i j : Option Int) : (cutD ds i j).length ≤ ds.length := by
  unfold cutD
  rw [List.length_take, List.length_drop]; omega
theorem cutD_mem {ds : List D} {i j : Option Int} {x : D} (h : x ∈ cutD ds i j) : x ∈ ds := List.mem_of_mem_drop (List.mem_of_mem_take h)
/-- bounds of a thing -/
def Bd (k w : Nat) (d : D) : Prop := fitD d = true ∧ dep d ≤ k ∧ wd d ≤ w
theorem depL_le {k : Nat} : ∀ {l : List D}, (∀ x ∈ l, dep x ≤ k) → depL l ≤ k
  | [], _ => by rw [depL]; exact Nat.zero_le _
  | d :: l, h => by
    rw [depL]
    exact Nat.max_le.mpr ⟨h d List.mem_cons_self, depL_le fun x hx => h x (List.mem_cons_of_mem _ hx)⟩
theorem depL_mem2 {k : Nat} : ∀ {l : List D}, depL l ≤ k → ∀ x ∈ l, dep x ≤ k
  | [], _, x, hx => by cases hx
  | d :: l, h, x, hx => by
    rw [depL] at h
    rcases List.mem_cons.mp hx with rfl | hx
    · omega
    · exact depL_mem2 (by omega) x hx
theorem wdL_le {k : Nat} : ∀ {l : List D}, (∀ x ∈ l, wd x ≤ k) → wdL l ≤ k
  | [], _ => by rw [wdL]; exact Nat.zero_le _
  | d :: l, h => by
    rw [wdL]
    exact Nat.max_le.mpr ⟨h d List.mem_cons_self, wdL_le fun x hx => h x (List.mem_cons_of_mem _ hx)⟩
theorem bd_tup {k w : Nat} {l : List D} (hl : l.length ≤ w) (h : ∀ x ∈ l, Bd k w x) : Bd (k + 1) w (.tup l) := by
  refine ⟨?_, ?_, ?_⟩
  · rw [fitD]; exact fitL_of fun x hx => (h x hx).1
  · rw [dep]; exact Nat.succ_le_succ (depL_le fun x hx => (h x hx).2.1)
  · rw [wd]; exact Nat.max_le.mpr ⟨hl, wdL_le fun x hx => (h x hx).2.2⟩
theorem bd_lst {k w : Nat} {l : List D} (hl : l.length ≤ w) (h : ∀ x ∈ l, fitD x = true ∧ wd x ≤ w) : Bd k w (.lst l) := by
  refine ⟨?_, ?_, ?_⟩
  · rw [fitD]; exact fitL_of fun x hx => (h x hx).1
  · simp [dep]
  · rw [wd]; exact Nat.max_le.mpr ⟨hl, wdL_le fun x hx => (h x hx).2⟩
theorem bd_mem {k w : Nat} {l : List D} (h : Bd k w (.tup l)) : l.length ≤ w ∧ ∃ k', k = k' + 1 ∧ ∀ x ∈ l, Bd k' w x := by
  obtain ⟨h1, h2, h3⟩ := h
  rw [dep] at h2
  rw [wd] at h3
  obtain ⟨k', rfl⟩ : ∃ k', k = k' + 1 := ⟨k - 1, by omega⟩
  exact ⟨by omega, k', rfl, fun x hx => ⟨fitL_mem h1 x hx, depL_mem2 (by omega) x hx, wdL_mem (by omega) x hx⟩⟩
theorem Bd.mono {j k u w : Nat} {d : D} (h : Bd j u d) (h1 : j ≤ k) (h2 : u ≤ w) : Bd k w d := ⟨h.1, Nat.le_trans h.2.1 h1, Nat.le_trans h.2.2 h2⟩
theorem bd_int {k w : Nat} {i : Int} : Bd k w (.int i) := ⟨rfl, by simp [dep], by simp [wd]⟩
theorem bd_bl {k w : Nat} {b : Bool} : Bd k w (.bl b) := ⟨rfl, by simp [dep], by simp [wd]⟩
theorem bd_non {k w : Nat} : Bd k w .non := ⟨rfl, by simp [dep], by simp [wd]⟩
theorem RR.imp {W : Res} {r : R2} {x y : D} {P P' : D → Prop} (h : RR W r x y P) (k : ∀ d, P d → P' d) : RR W r x y P' := fun v1 v2 H ok r1 r2 Q q => h v1 v2 H ok r1 r2 Q fun d v H' e ok' p r => q d v H' e ok' (k d p) r
section
variable {P : Program} {w : World} {K : PySem.W.Frag} {mg : Str → Option Value} {base : Heap} {f : Addr} {fd : FuncData}
def okBent (m : Nat) (W : Res) (ds : List D) (Q : D → Prop) : Prop := ∃ (l : Addr) (thing : D), HasTape W l ∧ ds = [.obj l, thing] ∧ Bd m 10 thing ∧ Q = Bd (m + 3) 11
theorem ok63 (F : FnP K "_law_bent" (top 63) f fd) (T : Tx mg) (hm : mg "_law_bent" = some (.ref f)) (hB : Binds K fd A63 []) (C1 : Cal P w K mg base CX0 1 "_law_pick" A43 (spW okPick)) (C2 : Cal P w K mg base CX0 2 "_law_odd" A50 (spW okOdd)) :
    ∀ m, FnOk P w K mg base CX0 (3 + m) f fd A63 (spW (okBent m)) := by
  intro m
  induction m with
  | zero => exact step 0 fun m' h => (by cases h)
  | succ m ih => exact step (m + 1) fun m' h => (by cases h; exact ih)
where
  step (m : Nat) (ih : ∀ m', m = m' + 1 → FnOk P w K mg base CX0 (3 + m') f fd A63 (spW (okBent m'))) : FnOk P w K mg base CX0 (3 + m) f fd A63 (spW (okBent m)) := by
    rw [show 3 + m = (2 + m) + 1 by omega]
    refine fn_dataW F sc63 (fun W ds Q ⟨_, _, _, h, _⟩ => by rw [h]; rfl) fun cdv A outer s H E W ds Q B hr h => ?_
    obtain ⟨l, thing, ht, rfl, hb, rfl⟩ := h
    have hk := fit_kn hb.1
    have hr1 := hr.mono (show 1 ≤ 2 + m by omega)
    have hr2 := hr.mono (show 2 ≤ 2 + m by omega)
    by_cases hT : isTup thing = true
    · obtain ⟨ds, rfl⟩ : ∃ ds, thing = .tup ds := by cases thing <;> first | exact ⟨_, rfl⟩ | cases hT
      obtain ⟨hl, m', rfl, hx⟩ := bd_mem hb
      have rest : SS (cxOf CX0 P w K mg base N63 "_law_bent" (defScope (top 63)) f cdv A outer s H E).nox (At B W [] [some (.obj l), some (.tup ds), none]) ((defBody (top 63)).drop 1) (FE B W (Bd (m' + 1 + 3) 11)) := by
        refine ss_skip (tb_val (ed_isBl T.isinst T.bool (ed_var 1) rfl)) rfl (ss_skip (tb_val (ed_isInt T.isinst T.int (ed_var 1) rfl)) rfl (ss_take (tb_val (ed_isTup T.isinst T.tuple (ed_var 1) rfl)) rfl ?_))
        refine ss_retP2 (P := Bd (m' + 1 + 3) 11) (P' := Bd (m' + 1 + 3) 11) (ed_ixLP (ed_lst (ad_cons (ed_listT T.list (ed_var 1)) (ad_cons (ed_sliceT (ed_var 1) (od_some ed_int) od_none) (ad_cons (ed_catT (ed_var 1) (ed_tup (ad_cons ed_int ad_nil) (Nat.le_of_ble_eq_true rfl)) (by rw [List.length_cons, List.length_nil]; omega)) (ad_cons (ed_back (ed_var 1)) ad_nil)))) (Nat.le_of_ble_eq_true rfl)) (ed_pick (n := 4) ht C1 hr1 (ed_var 0) ed_int (by decide)) fun z ⟨k, hk, hz⟩ => ?_) (fun d hd => hd) .refl
        refine ⟨(k : Int), _, hz, Int.natCast_nonneg k, by rw [Int.toNat_natCast]; exact List.getElem?_eq_getElem hk, ?_⟩
        match k, hk with
        | 0, _ => exact bd_lst (by omega) fun x h => ⟨(hx x h).1, Nat.le_trans (hx x h).2.2 (by omega)⟩
        | 1, _ => exact (bd_tup (k := m') (w := 11) (Nat.le_trans (cutD_len ds (some 1) none) (Nat.le_trans hl (by omega))) fun x h => (hx x (cutD_mem h)).mono (Nat.le_refl _) (by omega)).mono (by omega) (Nat.le_refl _)
        | 2, _ => exact (bd_tup (k := m') (w := 11) (by rw [List.length_append, List.length_cons, List.length_nil]; omega) fun x h => (List.mem_append.mp h).elim (fun h => (hx x h).mono (Nat.le_refl _) (by omega)) fun h => by rw [List.mem_singleton.mp h]; exact bd_int).mono (by omega) (Nat.le_refl _)
        | 3, _ => exact (bd_tup (k := m') (w := 11) (by rw [List.length_reverse]; omega) fun x h => (hx x (List.mem_reverse.mp h)).mono (Nat.le_refl _) (by omega)).mono (by omega) (Nat.le_refl _)
      by_cases h0 : ds = []
      · subst h0
        exact ss_skip (u := isTup (.tup []) && decide ((0 : Int) < (([] : List D).length : Int))) (WB.tb (wb_and (tb_val (ed_isTup T.isinst T.tuple (ed_var 1) rfl)) fun _ => wb_and0 (tb_gt (ed_lenT T.len (ed_var 1)) ed_int) rfl)) rfl rest
      have hpos : 0 < ds.length := List.length_pos_iff.mpr h0
      refine ss_ifr (PWt (wd_and (tb_val (ed_isTup T.isinst T.tuple (ed_var 1) rfl)) (wd_and (tb_gt (ed_lenT T.len (ed_var 1)) ed_int) (wd_and1 (td_pickGt (ed_pick (n := 5) ht C1 hr1 (ed_var 0) ed_int (by decide)) ed_int))))) (fun _ => ?_) (fun _ => rest)
      refine ss_setP 2 (P := pickD ds.length) (ed_pick (n := ds.length) ht C1 hr1 (ed_var 0) (EE.is (ed_lenT T.len (ed_var 1)) rfl) ⟨hpos, by omega⟩) (fun d hd => ?_) sc63.nd
      obtain ⟨k, hk, rfl⟩ := hd
      have CR : Cal P w K mg base CX0 (3 + m') "_law_bent" A63 (spW (okBent m')) := ⟨f, fd, ih m' rfl, hm, F.kp, hB⟩
      have hr3 := hr.mono (show 3 + m' ≤ 2 + (m' + 1) by omega)
      have e1 : cutD ds none (some (k : Int)) = ds.take k := cutD_take ds k (by omega)
      have e2 : cutD ds (some ((k : Int) + 1)) none = ds.drop (k + 1) := cutD_drop ds (k + 1) hk
      have hxk := hx ds[k] (List.getElem_mem hk)
      refine ss_retP2 (P := Bd (m' + 1 + 3) 11) (P' := fun z => ∃ d, Bd (m' + 3) 11 d ∧ z = .tup ((ds.take k ++ [d]) ++ ds.drop (k + 1))) (ed_opP (P1 := fun z => ∃ d, Bd (m' + 3) 11 d ∧ z = .tup (ds.take k ++ [d])) (P2 := fun z => z = .tup (ds.drop (k + 1))) op_catA
        (ed_opP (P1 := fun z => z = .tup (ds.take k)) (P2 := fun z => ∃ ds', z = .tup ds' ∧ ∃ d r, ds' = d :: r ∧ Bd (m' + 3) 11 d ∧ r = []) op_catA (EE.is (ed_sliceT (ed_var 1) od_none (od_some (ed_var 2))) (by rw [e1])) (ed_tupP (ad_consP (P1 := Bd (m' + 3) 11) (ed_calW CR hr3 (E := fun _ _ _ => False) pass0 (ad_cons (ed_var 0) (ad_cons (ed_ixT (d := ds[k]) (ed_var 1) (ed_var 2) (Int.natCast_nonneg k) (by rw [Int.toNat_natCast]; exact List.getElem?_eq_getElem hk)) ad_nil)) ⟨l, _, ht, rfl, hxk, rfl⟩) ad_nil) fun ds' ⟨d, r, h1, _, h2⟩ => by rw [h1, h2]; exact Nat.le_of_ble_eq_true rfl) fun x y h1 h2 => ?_)
        (EE.is (ed_sliceT (ed_var 1) (od_some (ed_add (ed_var 2) ed_int)) od_none) (by rw [e2])) fun x y h1 h2 => ?_) (fun z hz => ?_) .refl
      · obtain ⟨ds', rfl, d, r, rfl, hd, rfl⟩ := h2
        subst h1
        exact (rr_catT (by rw [List.length_take]; simp only [List.length_cons, List.length_nil]; omega)).imp fun z hz => ⟨d, hd, hz⟩
      · obtain ⟨d, hd, rfl⟩ := h1
        subst h2
        exact (rr_catT (by rw [List.length_append, List.length_take, List.length_drop]; simp only [List.length_cons, List.length_nil]; omega)).imp fun z hz => ⟨d, hd, hz⟩
      · obtain ⟨d, hd, rfl⟩ := hz
        refine (bd_tup (k := m' + 3) (w := 11) ?_ fun x hxm => ?_).mono (by omega) (Nat.le_refl _)
        · rw [List.length_append, List.length_append, List.length_take, List.length_drop]; simp only [List.length_cons, List.length_nil]; omega
        · rcases List.mem_append.mp hxm with h | h
          · rcases List.mem_append.mp h with h | h
            · exact (hx x (List.mem_of_mem_take h)).mono (by omega) (by omega)
            · rw [List.mem_singleton.mp h]; exact hd
          · exact (hx x (List.mem_of_mem_drop h)).mono (by omega) (by omega)
    · refine ss_skip (u := false) (WB.tb (wb_and0 (tb_val (ed_isTup T.isinst T.tuple (ed_var 1) hk)) (eq_false_of_ne_true hT))) rfl ?_
      by_cases hB : isBl thing = true
      · obtain ⟨b, rfl⟩ : ∃ b, thing = .bl b := by cases thing <;> first | exact ⟨_, rfl⟩ | cases hB
        refine ss_take (tb_val (ed_isBl T.isinst T.bool (ed_var 1) rfl)) rfl ?_
        refine ss_retP2 (P := Bd (m + 3) 11) (P' := Bd (m + 3) 11) (ed_ixLP (ds := [.bl (!b), .int (if b then 1 else 0), .non]) (ed_lst (ad_cons (ed_not (ed_var 1)) (ad_cons (ED.imp (ed_intB (Pb := fun c => c = b) T.int (ED.imp (ed_var 1) fun z hz => ⟨b, hz, rfl⟩)) fun z ⟨c, h1, h2⟩ => by rw [h1, h2]) (ad_cons ed_non ad_nil))) (Nat.le_of_ble_eq_true rfl)) (ed_pick (n := 3) ht C1 hr1 (ed_var 0) ed_int (by decide)) fun z ⟨k, hk, hz⟩ => ?_) (fun d hd => hd) .refl
        refine ⟨(k : Int), _, hz, Int.natCast_nonneg k, by rw [Int.toNat_natCast]; exact List.getElem?_eq_getElem hk, ?_⟩
        match k, hk with
        | 0, _ => exact bd_bl
        | 1, _ => exact bd_int
        | 2, _ => exact bd_non
      · by_cases hI : isInt thing = true
        · obtain ⟨i, rfl⟩ : ∃ i, thing = .int i := by cases thing <;> first | exact ⟨_, rfl⟩ | exact absurd rfl hB | cases hI
          refine ss_skip (tb_val (ed_isBl T.isinst T.bool (ed_var 1) rfl)) rfl (ss_take (tb_val (ed_isInt T.isinst T.int (ed_var 1) rfl)) rfl ?_)
          refine ss_retP2 (P := Bd (m + 3) 11) (P' := fun z => ∃ i, z = .int i) (ed_opP (P1 := fun z => z = .int (i + 1)) (P2 := fun z => ∃ j, z = .int j) op_sub (ed_add (ed_var 1) ed_int) (ed_opP (P1 := fun z => z = .int 2) (P2 := pickD 2) op_mul ed_int (ed_pick (n := 2) ht C1 hr1 (ed_var 0) ed_int (by decide)) fun x y h1 h2 => ?_) fun x y h1 h2 => ?_) (fun d ⟨i, h⟩ => by rw [h]; exact bd_int) .refl
          · obtain ⟨k, hk, rfl⟩ := h2
            subst h1
            exact (rr_intC (i := 2) (j := (k : Int)) (Or.inl (by decide))).imp fun d h => ⟨_, h⟩
          · obtain ⟨j, rfl⟩ := h2
            subst h1
            exact rr_int.imp fun d h => ⟨_, h⟩
        · refine ss_skip (tb_val (ed_isBl T.isinst T.bool (ed_var 1) hk)) (eq_false_of_ne_true hB) (ss_skip (tb_val (ed_isInt T.isinst T.int (ed_var 1) hk)) (eq_false_of_ne_true hI) (ss_skip (tb_val (ed_isTup T.isinst T.tuple (ed_var 1) hk)) (eq_false_of_ne_true hT) ?_))
          exact ss_retP2 (P := Bd (m + 3) 11) (P' := OddD) (ed_calW C2 hr2 (E := fun _ _ _ => False) pass0 (ad_cons (ed_var 0) ad_nil) ⟨l, ht, rfl, rfl⟩) (fun d hd => ⟨hd.1, Nat.le_trans hd.2.1 (by omega), Nat.le_trans hd.2.2 (by omega)⟩) .refl
end
end K14

set_option Elab.async false
set_option linter.all false
set_option maxRecDepth 100000
set_option maxHeartbeats 4000000
namespace K14
open PySem L2
theorem keeps_add {W : Res} {c : Cell} {H : Hp} {p : Addr} {o : HO} (hp : H p = none) : Keeps W.m (W.add p c).m H (upd H p o) := fun b u n hb => ⟨fun z => z.elim n fun z => (by rw [z, hp] at hb; cases hb), by rw [upd_ne (ne_of_none hb hp)]; exact hb⟩
section
variable {X : Cx} {W : Res} {ρ : List (Option D)} {e : Expr} {pos : Pos}
/-- a new list, owned -/
theorem ed_lstO {es : List Expr} {ds : List D} (h : AE X W ρ es ds) (hl : ds.length ≤ 100000) : PE X (.List es pos) (tDO W ρ fun p c d => c = ownL ds ∧ d = .obj p) :=
  PEimp (pe_lst h) fun σ H Q ⟨ok, sl, q⟩ => ⟨ok, sl, fun ds' vs H1 e1 ok1 p1 r1 => ⟨by rw [r1.length]; subst p1; exact sz_of hl, fun p hp => by
    subst p1
    exact q p (ownL ds') (.obj p) (.ref p) _ ⟨rfl, rfl⟩ (e1.dom p hp) (e1.trans (.new hp)) (ok_own (H := H1) ok1 hp ⟨vs, upd_same, r1.mono (keeps_add hp)⟩) (.obj p)⟩⟩
/-- list(s), s a list of numbers that stands outside -/
theorem ed_listS {a : Addr} {sc : List Int} {p : Pos} (hm : X.mg "list" = none) (hS : ∀ H, W.ok H → SqL X.K H a (sc.map .int)) (ha : EE X W ρ e (.obj a)) (hg : Gl X "list" := by rfl) (hs : starEach [e] X.env = (false, eval e X.env) :: starEach [] X.env := by rfl) : EE X W ρ (.Call (.Name "list" p) [e] [] pos) (.lst (sc.map .int)) :=
  ed_callT call_list_of hg hm (by decide +kernel) (ad_cons ha ad_nil hs) (fun vs H ok l Q q => by
    obtain ⟨v, rfl, r⟩ := l.one
    cases r
    exact ⟨a, _, rfl, .inl (hS H ok), fun l' hl => q _ _ _ (.new hl) (W.new ok hl) rfl (.lst (W.fresh ok hl) upd_same RpL.of_ints)⟩) (by decide) (by decide) hs
end
/-- the world of the script -/
def scR (K : PySem.W.Frag) (a : Addr) (xs : List V) : Res where
  m := fun _ => False
  I := fun M H => (¬ M a ∧ Rd H a (.lst xs)) ∨ ∃ (o : Obj) (its : Array Value) (n : Nat), K.lookup a = some o ∧ o.cls = .type "list" ∧ o.dict = none ∧ o.data = .seq its n ∧ its.size ≤ sizeLine ∧ Vals xs its.toList
  dom := fun _ h => h.elim
  stab := fun h _ k => h.elim (fun ⟨n, r⟩ => .inl ⟨n, r.elim (fun z => .inl (k _ _ n z)) fun ⟨o, z⟩ => .inr ⟨o, k _ _ n z⟩⟩) .inr
  grow := fun h k => h.elim (fun ⟨n, r⟩ => .inl ⟨fun z => (k _ z).elim n fun z => r.elim (fun r => (by rw [z] at r; cases r)) fun ⟨o, r⟩ => (by rw [z] at r; cases r), r⟩) .inr
  shrink := fun h k => h.elim (fun ⟨n, r⟩ => .inl ⟨fun z => n (k _ z), r⟩) .inr
theorem scR_sq {K : PySem.W.Frag} {a : Addr} {xs : List V} {H : Hp} (h : (scR K a xs).ok H) : SqL K H a xs := h.elim (fun h => .inl h.2) .inr
theorem scR_ok {K : PySem.W.Frag} {a : Addr} {xs : List V} {H : Hp} (h : SqL K H a xs) : (scR K a xs).ok H := h.elim (fun h => .inl ⟨fun z => z, h⟩) .inr
section
variable {P : Program} {w : World} {K : PySem.W.Frag} {mg : Str → Option Value} {base : Heap} {f : Addr} {fd : FuncData}
def okTapeK (K : PySem.W.Frag) (W : Res) (ds : List D) (G : GX) (R : RX) : Prop := ∃ (sc : List Int) (a : Addr), ds = [.obj a] ∧ (∀ H, W.ok H → SqL K H a (sc.map .int)) ∧ G = gDO W (fun p c d => c = someL Tape ∧ d = .obj p) ∧ R = fun _ _ _ => False
theorem ok42 (F : FnM K "_law_tape" "_law_tape" (top 42) f fd) (T : Tx mg) : FnOk P w K mg base (L2N.CX P w) 1 f fd A42 (spG (okTapeK K)) := by
  refine fn_G F sc42 (fun W ds G R ⟨_, _, h, _⟩ => by rw [h]; rfl) fun cdv A outer s H E W ds G R B hr h hB hE => ?_
  obtain ⟨sc, a, rfl, hS, rfl, rfl⟩ := h
  refine ss_retO (PEO.imp (ed_lstO (ad_cons (ed_listS T.list hS (ed_var 0)) (ad_cons ed_int (ad_cons ed_int (ad_cons ed_int (ad_cons ed_int ad_nil))))) (Nat.le_of_ble_eq_true rfl)) fun p c d ⟨h1, h2⟩ => ⟨someL Tape, fun M H h => ?_, rfl, h2⟩) hB fun v H' h => h
  subst h1
  exact ⟨_, ⟨sc, 0, 0, 1, 0, rfl, Int.le_refl 0⟩, h⟩
end
end K14

set_option Elab.async false
set_option linter.all false
set_option maxRecDepth 100000
set_option maxHeartbeats 4000000
namespace K14
open PySem L2
/-! ### calls below which no repr runs -/
section
open PySem.Spec PyProof.Rows
structure FnOkG (P : Program) (w : World) (K : PySem.W.Frag) (mg : Str → Option Value) (base : Heap) (CX : CXT) (k : Nat) (f : Addr) (fd : FuncData) (ps : List Str) (sp : Sp) : Prop where
  len : ∀ vs H Q E, sp vs H Q E → vs.length = ps.length
  run : ∀ (A : Around) (outer : List Env) (s : Shared) (H : Hp) (args : Args) (us : List Value) (vs : List V) (Q : VK) (E : XK), A.guards = some [] → Room k A → Env0 P w K mg base A outer s H → BindsTo s fd args (ps.zip us) → Vals vs us → sp vs H Q E → codeAny (model P w) A (.call (.ref f) args) (CR CX outer P w H s Q E) s
theorem FnOkG.mono {P : Program} {w : World} {K : PySem.W.Frag} {mg : Str → Option Value} {base : Heap} {CX : CXT} {j k : Nat} {f : Addr} {fd : FuncData} {ps : List Str} {sp : Sp} (F : FnOkG P w K mg base CX j f fd ps sp) (h : j ≤ k) : FnOkG P w K mg base CX k f fd ps sp :=
  ⟨F.len, fun A o s H as us vs Q E g hr => F.run A o s H as us vs Q E g (hr.mono h)⟩
theorem fun_okG {CX : CXT} {P : Program} {w : World} {K : PySem.W.Frag} {mg : Str → Option Value} {base : Heap} {x qual : Str} {params : Arguments} {body : List Stmt} {scope : Scope} {f : Addr} {fd : FuncData} {N ps : List Str} {k : Nat} {sp : Sp} (F : FunD K x qual params body scope [] [] f fd) (S : FnScope N ps scope)
    (len : ∀ vs H Q E, sp vs H Q E → vs.length = ps.length)
    (hb : ∀ (cdv : Value) (A : Around) (outer : List Env) (s : Shared) (H : Hp) (vs : List V) (Q : VK) (E : XK), A.guards = some [] → Room k (A.deeper (envOfC qual scope s.heap.objs.size f cdv)) → sp vs H Q E → ∃ t, PSs (cxOf CX P w K mg base N qual scope f cdv A outer s H E) body t ∧ t { nx := fun _ H' => Q .non H', rt := Q } (start N vs) H) :
    FnOkG P w K mg base CX (k + 1) f fd ps sp := by
  obtain ⟨oc, od, dV, kV, doc, pm, an, cdv, ct, osl, rfl, lk, hcd, _, _⟩ := F.ex
  refine ⟨len, fun A outer s H args us vs Q E g hr e0 bd r hsp => ?_⟩
  have keep : ∀ b o, base.get? b = some o → s.heap.get? b = some o := fun b o e => (e0.bs b o e).1
  have KX : K.In s.heap := e0.mod.kin.keeps keep; have lim : s.heap.NoLimit := e0.mod.nolimit.keeps keep
  refine codeAny_call_function hr.depth (KX _ _ lk) rfl S.co S.gen rfl (PySem.W.codeRec_of KX hcd) (bd _ _ _ _ (wpAny_newFunctionEnv_cells S.kind (fun ⟨n, v⟩ hy => (S.par n (List.of_mem_zip hy).1).elim .inl fun q => .inr ⟨q, PySem.W.cellsFrom_some _ _ _ (.inl q)⟩) fun env he s1 x => ?_))
  subst he; refine ⟨lim.keeps x.toInCall.keep, codeAny_func ?_⟩
  obtain ⟨t, ht, hq⟩ := hb cdv A outer s H vs Q E g (hr.deeper _) hsp
  have I : Inv (cxOf CX P w K mg base N qual scope f cdv A outer s H E) [] (start N vs) H s1 := inv_start S hr.hd e0 (len _ _ _ _ hsp) r x
  refine wpAny_mono (ht.run [] s1 (start N vs) H _ I hq) (fun fl s' hs => ?_) fun e s' hs => hs
  cases fl with
  | ret u => obtain ⟨v, σ', H', J, rv, q⟩ := hs; exact ⟨v, H', J.os, J.bare, J.base, J.hok, rv, q⟩
  | next => obtain ⟨σ', H', J, q⟩ := hs; exact ⟨V.non, H', J.os, J.bare, J.base, J.hok, rfl, q⟩
  | brk => obtain ⟨_, _, _, q⟩ := hs; exact q.elim
  | cont => obtain ⟨_, _, _, q⟩ := hs; exact q.elim
theorem pe_callGd {X : Cx} {CX : CXT} {k : Nat} {f : Addr} {fd : FuncData} {ps : List Str} {sp : Sp} {E : XK} {x : Str} {p pos : Pos} {e : Expr} {es : List Expr} {t : TA} (F : FnOkG X.prog X.w X.K X.mg X.base CX k f fd ps sp) (g : X.A.guards = some []) (hr : Room k X.A) (hg : Gl X x) (hm : X.mg x = some (.ref f)) (hk : PySem.W.keepIn X.K (.ref f) = true) (hb : Binds X.K fd ps []) (hx : Passes CX X E)
    (ha : PA X (e :: es) t) (hdb : (x == ("__debug__" : Str)) = false := by decide) (he : starEach (e :: es) X.env = (false, eval e X.env) :: starEach es X.env := by rfl) (hpl : (backTo pos (starEach es X.env)).any (·.1) = false := by rfl) : PE X (.Call (.Name x p) (e :: es) [] pos) (tCall sp [] E t) := by
  refine ⟨fun pins s σ H Q I h => wpAny_Call_Name_kw (ld_glob I hg hm (PySem.W.callWith_K (h₀ := X.base) I.ok.mod.kin hk (thn (ha.run pos pins s σ H _ I h) fun us s1 ⟨vs, H1, I1, r, q⟩ => ⟨I1.kIn, ?_⟩) he hpl) hdb)⟩
  have q' : sp vs H1 Q E := by have z : sp (vs ++ []) H1 Q E := q; rw [List.append_nil] at z; exact z
  have bd := hb s1 us I1.kIn (by rw [List.append_nil, ← r.length]; exact F.len _ _ _ _ q'); rw [List.append_nil] at bd
  refine wpAny_call (codeAny_mono (F.run X.A X.stack s1 H1 ⟨us, []⟩ us vs Q E g hr I1.env0 bd r q') fun r s' hq => ?_)
  cases r with
  | error e => exact hx pins σ H1 s1 e s' I1 hq
  | ok fl => cases fl with
    | ret u => exact I1.after hq
    | next => exact False.elim hq
    | brk => exact False.elim hq
    | cont => exact False.elim hq
/-- repr(x), x a list or a tuple of data -/
theorem call_reprD {X : Cx} (g : X.A.guards = some []) (hu : X.A.units + 70 < cLine) : CallR X (.builtin "repr") (fun xs H Q => ∃ a d, xs = [.ref a] ∧ Dp X.K H (.ref a) d ∧ PyData.showable d = true ∧ d.hasDict = false ∧ d.depth ≤ 60 ∧ d.shown.length ≤ sizeLine ∧ Q (.str d.shown) H) := by
  intro pins s σ H xs us Q I r h
  obtain ⟨a, d, rfl, hd, hs, hn, hdp, hz, q⟩ := h
  obtain ⟨u, rfl, ru⟩ := vals1 r
  obtain ⟨as, rd⟩ := Dp.reads I d (.ref a) u hd ru
  cases ru
  exact repr_of_reads' rd hs (fun z => by rw [hn] at z; cases z) g (by omega) (fun _ _ e => e) (fun h' u tk hk => ⟨.str d.shown, H, I.kept hk, ⟨_, rfl⟩, q⟩) hz
end
end K14

set_option Elab.async false
set_option linter.all false
set_option maxRecDepth 100000
set_option maxHeartbeats 4000000
namespace K14
open PySem L2
section
variable {K : PySem.W.Frag} {x qual : Str} {params : Arguments} {body : List Stmt} {scope : Scope} {f : Addr} {fd : FuncData} {P : Program} {w : World} {mg : Str → Option Value} {base : Heap}
theorem fn_dataWG {N ps : List Str} {k : Nat} {ok : Res → List D → (D → Prop) → Prop} (F : FunD K x qual params body scope [] [] f fd) (S : FnScope N ps scope) (hlen : ∀ W ds Q, ok W ds Q → ds.length = ps.length)
    (hb : ∀ (cdv : Value) (A : Around) (outer : List Env) (s : Shared) (H : Hp) (E : XK) (W : Res) (ds : List D) (Q : D → Prop) (B : Bs), A.guards = some [] → Room k (A.deeper (PyProof.Rows.envOfC qual scope s.heap.objs.size f cdv)) → ok W ds Q →
      SS (cxOf CX0 P w K mg base N qual scope f cdv A outer s H E).nox (At B W [] (ds.map some ++ List.replicate (N.length - ds.length) none)) body (FE B W Q)) : FnOkG P w K mg base CX0 (k + 1) f fd ps (spW ok) := by
  refine fun_okG F S (fun vs H Q E h => ?_) (fun cdv A outer s H vs Q E g hr h => ?_)
  · obtain ⟨W, ds, P, o, l, q, _⟩ := h; rw [l.length]; exact hlen _ _ _ q
  · obtain ⟨W, ds, P, o, l, q, kq⟩ := h
    refine ⟨_, (hb cdv A outer s H E W ds P ⟨W.m, H⟩ g hr q).nox, ⟨.refl, o, start_sl l, fun p hp => (by cases hp), fun a m => .inl m⟩, fun σ H' h => ?_, fun v H' h => ?_, fun _ _ h => h, fun _ _ h => h⟩ <;> (obtain ⟨d, p, e, o', r⟩ := h; exact kq d _ H' e o' p r)
structure CalG (P : Program) (w : World) (K : PySem.W.Frag) (mg : Str → Option Value) (base : Heap) (CX : CXT) (k : Nat) (x : Str) (ps : List Str) (sp : Sp) : Prop where
  ex : ∃ f fd, FnOkG P w K mg base CX k f fd ps sp ∧ mg x = some (.ref f) ∧ PySem.W.keepIn K (.ref f) = true ∧ Binds K fd ps []
end
section
variable {X : Cx} {W : Res} {ρ : List (Option D)} {e a : Expr} {es : List Expr} {p pos : Pos} {k : Nat} {ps : List Str} {x : Str} {ds : List D} {P : D → Prop} {CX : CXT} {E : XK} {okW : Res → List D → (D → Prop) → Prop}
theorem ed_calG (c : CalG X.prog X.w X.K X.mg X.base CX k x ps (spW okW)) (g : X.A.guards = some []) (hr : Room k X.A) (hx : Passes CX X E) (ha : AE X W ρ (e :: es) ds) (hok : okW W ds P)
    (hg : Gl X x := by rfl) (hdb : (x == ("__debug__" : Str)) = false := by decide) (he : starEach (e :: es) X.env = (false, eval e X.env) :: starEach es X.env := by rfl) (hpl : (backTo pos (starEach es X.env)).any (·.1) = false := by rfl) : ED X W ρ (.Call (.Name x p) (e :: es) [] pos) P := by
  obtain ⟨f, fd, F, hm, hk, hb⟩ := c.ex
  exact PEimp (pe_callGd F g hr hg hm hk hb hx ha hdb he hpl) fun σ H Q ⟨o, sl, q⟩ => ⟨o, sl, fun ds' vs H1 e1 ok1 hd r1 => by
    subst hd; rw [List.append_nil]
    exact ⟨W, ds', P, ok1, r1, hok, fun d v H2 e2 ok2 p r => q d v H2 (e1.trans e2) ok2 p r⟩⟩
end
/-! ### repr of a list of orders -/
def shP (o : List Nat) : PyData := .tuple (o.map fun (n : Nat) => .int (n : Int))
def shS (S : List (List Nat)) : PyData := .list (S.map shP)
def keyT (S : List (List Nat)) : Str := (shS S).shown
theorem small5 {P : Nat → Prop} (h0 : P 0) (h1 : P 1) (h2 : P 2) (h3 : P 3) (h4 : P 4) : ∀ x < 5, P x := fun x h => match x, h with
  | 0, _ => h0
  | 1, _ => h1
  | 2, _ => h2
  | 3, _ => h3
  | 4, _ => h4
theorem sh_ints : ∀ o : List Nat, (∀ x ∈ o, x < 5) → PyData.leavesShortAll 13 (o.map fun (n : Nat) => .int (n : Int)) = true ∧ PyData.showableAll (o.map fun (n : Nat) => .int (n : Int)) = true ∧ PyData.hasDictAll (o.map fun (n : Nat) => .int (n : Int)) = false ∧ PyData.depthAll (o.map fun (n : Nat) => .int (n : Int)) = 0 ∧ PyData.weightAll (o.map fun (n : Nat) => .int (n : Int)) ≤ 4 * o.length
  | [], _ => ⟨rfl, rfl, rfl, by simp [PyData.depthAll], by simp [PyData.weightAll]⟩
  | x :: o, h => by
    obtain ⟨h1, h2, h3, h4, h5⟩ := sh_ints o fun y hy => h y (List.mem_cons_of_mem _ hy)
    have hx := h x List.mem_cons_self
    have w : PyData.weight (.int (x : Int)) ≤ 3 := small5 (P := fun x => PyData.weight (.int ((x : Nat) : Int)) ≤ 3) (by decide +kernel) (by decide +kernel) (by decide +kernel) (by decide +kernel) (by decide +kernel) x hx
    have s : PyData.showable (.int (x : Int)) = true := small5 (P := fun x => PyData.showable (.int ((x : Nat) : Int)) = true) (by decide +kernel) (by decide +kernel) (by decide +kernel) (by decide +kernel) (by decide +kernel) x hx
    refine ⟨?_, ?_, ?_, ?_, ?_⟩
    · rw [List.map_cons, PyData.leavesShortAll, h1, Bool.and_true, PyData.leavesShort]
      exact decide_eq_true (PyData.shown_int_le (by show x < _; omega))
    · rw [List.map_cons, PyData.showableAll, h2, s]; rfl
    · rw [List.map_cons, PyData.hasDictAll, h3, PyData.hasDict]; rfl
    · rw [List.map_cons, PyData.depthAll, h4, PyData.depth]; rfl
    · rw [List.map_cons, PyData.weightAll, List.length_cons]; omega
theorem sh_ords : ∀ S : List (List Nat), (∀ o ∈ S, o.length ≤ 5 ∧ ∀ x ∈ o, x < 5) → PyData.leavesShortAll 13 (S.map shP) = true ∧ PyData.showableAll (S.map shP) = true ∧ PyData.hasDictAll (S.map shP) = false ∧ PyData.depthAll (S.map shP) ≤ 1 ∧ PyData.weightAll (S.map shP) ≤ 21 * S.length
  | [], _ => ⟨rfl, rfl, rfl, by simp [PyData.depthAll], by simp [PyData.weightAll]⟩
  | o :: S, h => by
    obtain ⟨h1, h2, h3, h4, h5⟩ := sh_ords S fun y hy => h y (List.mem_cons_of_mem _ hy)
    obtain ⟨hl, hx⟩ := h o List.mem_cons_self
    obtain ⟨g1, g2, g3, g4, g5⟩ := sh_ints o hx
    refine ⟨?_, ?_, ?_, ?_, ?_⟩
    · rw [List.map_cons, PyData.leavesShortAll, h1, Bool.and_true, shP, PyData.leavesShort]; exact g1
    · rw [List.map_cons, PyData.showableAll, h2, Bool.and_true, shP, PyData.showable]; exact g2
    · rw [List.map_cons, PyData.hasDictAll, h3, Bool.or_false, shP, PyData.hasDict]; exact g3
    · rw [List.map_cons, PyData.depthAll, shP, PyData.depth, g4]; omega
    · rw [List.map_cons, PyData.weightAll, List.length_cons, shP, PyData.weight]; omega
theorem shS_ok {S : List (List Nat)} (hl : S.length ≤ 1000) (h : ∀ o ∈ S, o.length ≤ 5 ∧ ∀ x ∈ o, x < 5) : PyData.showable (shS S) = true ∧ (shS S).hasDict = false ∧ (shS S).depth ≤ 60 ∧ (shS S).shown.length ≤ sizeLine := by
  obtain ⟨h1, h2, h3, h4, h5⟩ := sh_ords S h
  refine ⟨?_, ?_, ?_, ?_⟩
  · rw [shS, PyData.showable]; exact h2
  · rw [shS, PyData.hasDict]; exact h3
  · rw [shS, PyData.depth]; omega
  · refine PyData.shown_fits (B := 13) (by decide) (by decide) ?_ ?_
    · rw [shS, PyData.leavesShort]; exact h1
    · rw [shS, PyData.weight]; omega
/-! the digits of a text -/
def dg (s : Str) : List Nat := s.cps.toList.filter fun c => decide (48 ≤ c ∧ c ≤ 57)
theorem dg_append (a b : Str) : dg (a ++ b) = dg a ++ dg b := by
  unfold dg
  rw [Str.cps_append, Array.toList_append, List.filter_append]
theorem dg_from : ∀ (ts : List Str) (k : Nat) (acc : Str), dg (textFrom k acc ts) = dg acc ++ ts.flatMap dg
  | [], k, acc => by rw [textFrom, List.flatMap_nil, List.append_nil]
  | t :: ts, k, acc => by
    rw [textFrom, dg_from ts, dg_append, dg_append, List.flatMap_cons, List.append_assoc, List.append_assoc]
    have : dg ((if k > 0 then ", " else "" : String) : Str) = [] := by
      split <;> decide +kernel
    rw [this]; rfl
theorem dg_list (ts : List Str) : dg (listText ts) = ts.flatMap dg := by
  rw [listText, dg_append, dg_from, show dg (("[" : String) : Str) = [] by decide +kernel, show dg (("]" : String) : Str) = [] by decide +kernel, List.nil_append, List.append_nil]
theorem dg_join : ∀ ts : List Str, dg (Str.join ", " ts) = ts.flatMap dg
  | [] => by decide +kernel
  | [x] => by show dg x = _; simp
  | x :: y :: r => by
    show dg (x ++ ", " ++ Str.join ", " (y :: r)) = _
    rw [dg_append, dg_append, dg_join (y :: r), show dg ((", " : String) : Str) = [] by decide +kernel, List.append_nil]
    rfl
theorem dg_tuple (ts : List Str) : dg (tupleText ts) = ts.flatMap dg := by
  rw [tupleText, dg_append, dg_append, dg_join, show dg (("(" : String) : Str) = [] by decide +kernel, List.nil_append]
  have : dg ((if ts.length == 1 then ",)" else ")" : String) : Str) = [] := by
    split <;> decide +kernel
  rw [this, List.append_nil]
theorem dg_ints : ∀ o : List Nat, (∀ x ∈ o, x < 5) → (PyData.shownAll (o.map fun (n : Nat) => .int (n : Int))).flatMap dg = o.map (48 + ·)
  | [], _ => rfl
  | x :: o, h => by
    have hx : dg (PyData.shown (.int (x : Int))) = [48 + x] := small5 (P := fun x => dg (PyData.shown (.int ((x : Nat) : Int))) = [48 + x]) (by decide +kernel) (by decide +kernel) (by decide +kernel) (by decide +kernel) (by decide +kernel) x (h x List.mem_cons_self)
    rw [List.map_cons, PyData.shownAll, List.flatMap_cons, hx, dg_ints o fun y hy => h y (List.mem_cons_of_mem _ hy)]; rfl
theorem dg_ords : ∀ S : List (List Nat), (∀ o ∈ S, ∀ x ∈ o, x < 5) → (PyData.shownAll (S.map shP)).flatMap dg = S.flatMap fun o => o.map (48 + ·)
  | [], _ => rfl
  | o :: S, h => by
    rw [List.map_cons, PyData.shownAll, List.flatMap_cons, List.flatMap_cons, dg_ords S fun y hy => h y (List.mem_cons_of_mem _ hy), shP, PyData.shown, dg_tuple, dg_ints o (h o List.mem_cons_self)]
theorem dg_key {S : List (List Nat)} (h : ∀ o ∈ S, ∀ x ∈ o, x < 5) : dg (keyT S) = S.flatMap fun o => o.map (48 + ·) := by
  rw [keyT, shS, PyData.shown, dg_list, dg_ords S h]
theorem chunks {n : Nat} (hn : 0 < n) : ∀ {S T : List (List Nat)}, (∀ o ∈ S, o.length = n) → (∀ o ∈ T, o.length = n) → (S.flatMap fun o => o.map (48 + ·)) = (T.flatMap fun o => o.map (48 + ·)) → S = T
  | [], [], _, _, _ => rfl
  | [], o :: T, _, hT, e => by
    have := congrArg List.length e
    rw [List.flatMap_cons, List.length_append, List.length_map, hT o List.mem_cons_self] at this
    simp at this; omega
  | o :: S, [], hS, _, e => by
    have := congrArg List.length e
    rw [List.flatMap_cons, List.length_append, List.length_map, hS o List.mem_cons_self] at this
    simp at this; omega
  | o :: S, q :: T, hS, hT, e => by
    rw [List.flatMap_cons, List.flatMap_cons] at e
    obtain ⟨e1, e2⟩ := List.append_inj e (by rw [List.length_map, List.length_map, hS o List.mem_cons_self, hT q List.mem_cons_self])
    rw [chunks hn (fun y hy => hS y (List.mem_cons_of_mem _ hy)) (fun y hy => hT y (List.mem_cons_of_mem _ hy)) e2]
    have : o = q := (List.map_inj_right (fun a b h => Nat.add_left_cancel h)).mp e1
    rw [this]
theorem perm_small {n : Nat} {S : List (List Nat)} (hn : n ≤ 5) (h : Perms n S) : ∀ o ∈ S, o.length ≤ 5 ∧ ∀ x ∈ o, x < 5 := fun o ho => ⟨by rw [perm_len (h o ho)]; exact hn, fun x hx => Nat.lt_of_lt_of_le ((perm_mem (h o ho)).mp hx) hn⟩
theorem keyT_inj {n : Nat} {S T : List (List Nat)} (h0 : 0 < n) (hn : n ≤ 5) (hS : Perms n S) (hT : Perms n T) (e : keyT S = keyT T) : S = T := by
  have := congrArg dg e
  rw [dg_key fun o ho => (perm_small hn hS o ho).2, dg_key fun o ho => (perm_small hn hT o ho).2] at this
  exact chunks h0 (fun o ho => perm_len (hS o ho)) (fun o ho => perm_len (hT o ho)) this
theorem dp_ints {K : PySem.W.Frag} {H : Hp} : ∀ o : List Nat, DpAll K H (nV o) (o.map fun (n : Nat) => .int (n : Int))
  | [] => .nil
  | x :: o => .cons (.int _) (dp_ints o)
theorem dp_ords {K : PySem.W.Frag} {M : Ms} {H : Hp} : ∀ {S : List (List Nat)} {vs : List V}, RpL M H vs (S.map .ord) → DpAll K H vs (S.map shP)
  | [], _, .nil => .nil
  | o :: S, _, .cons r l => by
    obtain ⟨p, ob, rfl, _, e, _⟩ := r.ordI
    exact .cons (.tup (.inl (.inr ⟨ob, e⟩)) (dp_ints o)) (dp_ords l)
section
variable {X : Cx} {W : Res} {ρ : List (Option D)} {a : Expr} {p pos : Pos}
theorem ed_repr {S : List (List Nat)} (g : X.A.guards = some []) (hu : X.A.units + 70 < cLine) (hm : X.mg "repr" = none) (hl : S.length ≤ 1000) (hS : ∀ o ∈ S, o.length ≤ 5 ∧ ∀ x ∈ o, x < 5) (ha : EE X W ρ a (ordsL S)) (hg : Gl X "repr" := by rfl) (hs : starEach [a] X.env = (false, eval a X.env) :: starEach [] X.env := by rfl) :
    EE X W ρ (.Call (.Name "repr" p) [a] [] pos) (.str (keyT S)) :=
  ed_callB (call_reprD g hu) hg hm (by decide +kernel) (ad_cons ha ad_nil hs) (fun vs H ok l Q q => by
    obtain ⟨v, rfl, r⟩ := l.one
    obtain ⟨b, xs, rfl, n, e, l⟩ := id r.lstI
    obtain ⟨h1, h2, h3, h4⟩ := shS_ok hl hS
    exact ⟨b, shS S, rfl, .lst (.inl (.inl e)) (dp_ords l), h1, h2, h3, h4, q _ _ H .refl ok rfl (.str _)⟩) (by decide) (by decide) hs
end
end K14

set_option Elab.async false
set_option linter.all false
set_option maxRecDepth 100000
set_option maxHeartbeats 4000000
namespace K14
open PySem L2
/-! ### a dict by texts that callee and caller share -/
def ownV (kvs : List (Key × V)) : Cell where
  I := fun _ H a => H a = some (.dK kvs)
  dom := fun e z => by rw [e] at z; cases z
  stab := fun e q _ => by rw [q, e]
  grow := fun e _ => e
  shrink := fun e _ => e
def someV (Inv : List (Key × V) → Prop) : Cell where
  I := fun _ H a => ∃ kvs, Inv kvs ∧ H a = some (.dK kvs)
  dom := fun ⟨_, _, e⟩ z => by rw [e] at z; cases z
  stab := fun ⟨kvs, i, e⟩ q _ => ⟨kvs, i, by rw [q, e]⟩
  grow := fun e _ => e
  shrink := fun e _ => e
section
variable {X : Cx} {B : Bs} {W : Res} {Γ : List (V × D)} {ρ : List (Option D)} {a b c : Expr} {pos pos2 : Pos} {rest : List Stmt} {E : Ends} {l : Addr} {kvs : List (Key × V)} {s : Str}
theorem ss_openV {Inv : List (Key × V) → Prop} (h : ∀ es, Inv es → SS X (At B (W.add l (ownV es)) Γ ρ) rest E) : SS X (At B (W.add l (someV Inv)) Γ ρ) rest E :=
  SS.pre (Ψ := fun σ H => ∃ es, Inv es ∧ At B (W.add l (ownV es)) Γ ρ σ H) (SS.exP h) fun σ H a => by
    obtain ⟨es, i, q⟩ := id a.ok.2; exact ⟨es, i, ⟨a.ext, ⟨a.ok.1, q⟩, a.sl, a.gh, a.own⟩⟩
theorem At.closeV {Inv : List (Key × V) → Prop} {es : List (Key × V)} {σ : St} {H : Hp} (a : At B (W.add l (ownV es)) Γ ρ σ H) (i : Inv es) : At B (W.add l (someV Inv)) Γ ρ σ H := a.recell fun h => ⟨es, i, h⟩
theorem ss_closeV {Inv : List (Key × V) → Prop} {es : List (Key × V)} (i : Inv es) (h : SS X (At B (W.add l (someV Inv)) Γ ρ) rest E) : SS X (At B (W.add l (ownV es)) Γ ρ) rest E := h.pre fun σ H a => a.closeV i
theorem RLe.memoV {Inv : List (Key × V) → Prop} {es : List (Key × V)} (i : Inv es) : RLe (W.add l (someV Inv)) (W.add l (ownV es)) := ⟨fun _ h => h, fun _ _ h => ⟨h.1, es, i, h.2⟩⟩
theorem tb_inV (hu : X.A.units + 1 < cLine) (ha : EE X (W.add l (ownV kvs)) ρ a (.str s)) (hb : EE X (W.add l (ownV kvs)) ρ b (.obj l)) (hm : behindInMarks .In b = false := by rfl) : TB X (W.add l (ownV kvs)) ρ (.Compare a [.In] [b] pos) (valV kvs (.inr s)).isSome :=
  PTimp (pt_cmp (pc_din hu ha hb) hm) fun σ H Q ⟨ok, sl, q⟩ => ⟨ok, sl, fun z v H1 e1 ok1 hz r1 => ⟨ok1, sl.ext e1, fun z2 v2 H2 e2 ok2 hz2 r2 => by
    subst hz hz2; cases r1; cases r2
    exact ⟨l, _, rfl, DGet.k (k := .inr s) ok2.2, _, rfl, q _ H2 (e1.trans e2) ok2 rfl⟩⟩⟩
theorem ed_getV {i : Int} (hu : X.A.units + 1 < cLine) (ha : EE X (W.add l (ownV kvs)) ρ a (.obj l)) (hb : EE X (W.add l (ownV kvs)) ρ b (.str s)) (h : valV kvs (.inr s) = some (.int i)) (hs : NoSl b := by exact fun _ _ => rfl) : EE X (W.add l (ownV kvs)) ρ (.Subscript a b pos) (.int i) :=
  PEimp (pe_dget hu ha hb hs) fun σ H Q ⟨ok, sl, q⟩ => ⟨ok, sl, fun z v H1 e1 ok1 hz r1 => ⟨ok1, sl.ext e1, fun z2 v2 H2 e2 ok2 hz2 r2 => by
    subst hz hz2; cases r1; cases r2
    exact ⟨l, .int i, rfl, .inl ⟨kvs, .inr s, .inl ok2.2, rfl, h.symm⟩, q _ _ H2 (e1.trans e2) ok2 rfl (.int i)⟩⟩⟩
theorem ss_putV {i : Int} (hu : X.A.units + 1 < cLine) (hl : ¬ W.m l) (ha : EE X (W.add l (ownV kvs)) ρ a (.obj l)) (hb : EE X (W.add l (ownV kvs)) ρ b (.str s)) (hv : EE X (W.add l (ownV kvs)) ρ c (.int i)) (hz : kvs.length < 16000000) (h2 : SS X (At B (W.add l (ownV (putK kvs (.inr s) (.int i)))) Γ ρ) rest E)
    (hs : swapsWith c (some (.Subscript a b pos2)) pos.line X.env = pure false := by rfl) : SS X (At B (W.add l (ownV kvs)) Γ ρ) (.Assign [.Subscript a b pos2] c pos :: rest) E :=
  ss_cons (ps_dput hu ha hb hv hs) (fun Dn σ H at_ kn _ _ _ => ⟨at_.ok, at_.sl, fun z v H1 e1 ok1 hz1 r1 => ⟨ok1, at_.sl.ext e1, fun z2 v2 H2 e2 ok2 hz2 r2 => ⟨ok2, (at_.sl.ext e1).ext e2, fun z3 v3 H3 e3 ok3 hz3 r3 => by
    subst hz1 hz2 hz3; cases r1; cases r2; cases r3
    exact ⟨l, _, rfl, DPut.k (k := .inr s) ok3.2 (Nat.lt_of_lt_of_le hz (by decide)), kn _ _ ((((at_.go e1 ok1).go e2 ok2).go e3 ok3).upd (c' := ownV (putK kvs (.inr s) (.int i))) hl upd_same)⟩⟩⟩⟩) h2
end
/-- what the law's memory holds -/
structure MemoT (fl : List Nat → List Bool) (n : Nat) (S0 : List (List Nat)) (kvs : List (Key × V)) : Prop where
  nd : (kvs.map (·.1)).Nodup
  keys : ∀ k ∈ kvs.map (·.1), ∃ S, Reach n S0 S ∧ k = .inr (keyT S)
  good : ∀ S, Reach n S0 S → ∀ v, valV kvs (.inr (keyT S)) = some v → v = .int (lst fl n S : Nat)
theorem valV_mem {kvs : List (Key × V)} {k : Key} (h : k ∈ kvs.map (·.1)) : (valV kvs k).isSome = true := by
  obtain ⟨x, hx, rfl⟩ := List.mem_map.mp h
  unfold valV
  rw [Option.isSome_map, List.find?_isSome]
  exact ⟨x, hx, decide_eq_true rfl⟩
theorem putK_keys {kvs : List (Key × V)} {k : Key} {v : V} : (putK kvs k v).map (·.1) = if (kvs.any fun kv => decide (kv.1 = k)) = true then kvs.map (·.1) else kvs.map (·.1) ++ [k] := by
  unfold putK
  split
  · rw [List.map_map]
    refine List.map_congr_left fun x _ => ?_
    show (if x.1 = k then (x.1, v) else x).1 = x.1
    split <;> rfl
  · rw [List.map_append]; rfl
theorem MemoT.put {fl : List Nat → List Bool} {n : Nat} {S0 S : List (List Nat)} {kvs : List (Key × V)} (h0 : 0 < n) (hn : n ≤ 5) (hp : Perms n S0) (m : MemoT fl n S0 kvs) (r : Reach n S0 S) : MemoT fl n S0 (putK kvs (.inr (keyT S)) (.int (lst fl n S : Nat))) where
  nd := by
    rw [putK_keys]
    split
    · exact m.nd
    · rename_i h
      refine List.nodup_append.mpr ⟨m.nd, List.nodup_cons.mpr ⟨List.not_mem_nil, List.nodup_nil⟩, fun a ha b hb e => h ?_⟩
      obtain ⟨x, hx, hx2⟩ := List.mem_map.mp ha
      exact List.any_eq_true.mpr ⟨x, hx, decide_eq_true (by rw [hx2, e]; exact List.mem_singleton.mp hb)⟩
  keys := fun k hk => by
    rw [putK_keys] at hk
    split at hk
    · exact m.keys k hk
    · rcases List.mem_append.mp hk with hk | hk
      · exact m.keys k hk
      · exact ⟨S, r, List.mem_singleton.mp hk⟩
  good := fun T hT v h => by
    rw [valV_put] at h
    split at h
    · rename_i e
      cases h
      rw [keyT_inj h0 hn (hT.perms hp) (r.perms hp) (Sum.inr.inj e)]
    · exact m.good T hT v h
theorem MemoT.len {fl : List Nat → List Bool} {n : Nat} {S0 : List (List Nat)} {kvs : List (Key × V)} (hn : n ≤ 5) (m : MemoT fl n S0 kvs) : kvs.length < 16000000 := by
  have := keys_le (f := fun S => (Sum.inr (keyT S) : Key)) hn m.nd m.keys
  rw [List.length_map] at this; omega
theorem MemoT.start {fl : List Nat → List Bool} {n : Nat} {S0 : List (List Nat)} : MemoT fl n S0 [] := ⟨List.nodup_nil, fun k h => (by cases h), fun S _ v h => (by cases h)⟩
end K14

set_option Elab.async false
set_option linter.all false
set_option maxRecDepth 100000
set_option maxHeartbeats 4000000
namespace K14
open PySem L2
/-- the best so far -/
def BestB (fl : List Nat → List Bool) (n : Nat) (S : List (List Nat)) (done : Nat × Nat → Prop) (b : Nat) : Prop := b ≤ 99 ∧ (∀ p, splits n S p → done p → b ≤ worth fl n S p.1 p.2) ∧ (b = 99 ∨ ∃ p, splits n S p ∧ b = worth fl n S p.1 p.2)
theorem worth_le {fl : List Nat → List Bool} {n : Nat} {S : List (List Nat)} (hn : n ≤ 5) (hp : Perms n S) (a b : Nat) : worth fl n S a b ≤ 11 := by
  unfold worth
  have h1 := Nat.le_trans (lst_sp (fl := fl) (hp.fst a b)) (sp_le_ten hn)
  have h2 := Nat.le_trans (lst_sp (fl := fl) (hp.fst b a)) (sp_le_ten hn)
  omega
theorem BestB.step {fl : List Nat → List Bool} {n : Nat} {S : List (List Nat)} {done done' : Nat × Nat → Prop} {b : Nat} {p : Nat × Nat} (h : BestB fl n S done b) (hs : splits n S p) (hd : ∀ q, done' q → done q ∨ q = p) : BestB fl n S done' (min b (worth fl n S p.1 p.2)) := by
  obtain ⟨h1, h2, h3⟩ := h
  refine ⟨by omega, fun q hq dq => ?_, ?_⟩
  · rcases hd q dq with d | rfl
    · have := h2 q hq d; omega
    · omega
  · by_cases c : b ≤ worth fl n S p.1 p.2
    · rw [Nat.min_eq_left c]; exact h3
    · rw [Nat.min_eq_right (by omega)]; exact .inr ⟨p, hs, rfl⟩
theorem BestB.skip {fl : List Nat → List Bool} {n : Nat} {S : List (List Nat)} {done done' : Nat × Nat → Prop} {b : Nat} (h : BestB fl n S done b) (hd : ∀ q, splits n S q → done' q → done q) : BestB fl n S done' b := ⟨h.1, fun q hq dq => h.2.1 q hq (hd q hq dq), h.2.2⟩
theorem BestB.fin {fl : List Nat → List Bool} {n : Nat} {S : List (List Nat)} {done : Nat × Nat → Prop} {b : Nat} (hn : n ≤ 5) (hp : Perms n S) (nc : ¬ Const fl S) (h : BestB fl n S done b) (hd : ∀ p, splits n S p → done p) : b = lst fl n S := by
  obtain ⟨h1, h2, h3⟩ := h
  obtain ⟨a, c, g1, g2, g3, g4, g5⟩ := exists_worth (fl := fl) hp nc
  have h4 := h2 (a, c) ⟨g1, g2, g3, g4⟩ (hd _ ⟨g1, g2, g3, g4⟩)
  have h5 := worth_le (fl := fl) hn hp a c
  rcases h3 with h3 | ⟨p, ⟨s1, s2, s3, s4⟩, h3⟩
  · have : b ≤ worth fl n S a c := h4
    omega
  · have := lst_le_worth (fl := fl) hp s1 s2 s3 s4
    have : b ≤ worth fl n S a c := h4
    omega
section
variable {P : Program} {w : World} {K : PySem.W.Frag} {mg : Str → Option Value} {base : Heap} {f : Addr} {fd : FuncData}
structure LeastIn (W : Res) (m : Nat) (ds : List D) (fl : List Nat → List Bool) (n : Nat) (S : List (List Nat)) : Prop where
  ex : ∃ (W0 : Res) (l : Addr) (es : List (NestedKey × D)) (S0 : List (List Nat)), W = W0.add l (someV (MemoT fl n S0)) ∧ ¬ W0.m l ∧ ds = [natD n, .dnk es, ordsL S, .obj l] ∧ 0 < n ∧ n ≤ 5 ∧ S0.length ≤ 1000 ∧ Perms n S0 ∧ Reach n S0 S ∧ S ≠ [] ∧ Flagged fl es S0 ∧ sp n S ≤ m
def okLeastL (m : Nat) (W : Res) (ds : List D) (Q : D → Prop) : Prop := ∃ (fl : List Nat → List Bool) (n : Nat) (S : List (List Nat)), LeastIn W m ds fl n S ∧ Q = fun d => d = natD (lst fl n S)
theorem ok60 (F : FnP K "_law_least" (top 60) f fd) (T : Tx mg) (hm : mg "_law_least" = some (.ref f)) (hB : Binds K fd A60 []) (C2 : Cal P w K mg base CX0 1 "_law_parted" A59 (spN okParted)) :
    ∀ m, FnOkG P w K mg base CX0 (2 + m) f fd A60 (spW (okLeastL m)) := by
  intro m
  induction m with
  | zero => exact step 0 fun m' h => (by cases h)
  | succ m ih => exact step (m + 1) fun m' h => (by cases h; exact ih)
where
  step (m : Nat) (ih : ∀ m', m = m' + 1 → FnOkG P w K mg base CX0 (2 + m') f fd A60 (spW (okLeastL m'))) : FnOkG P w K mg base CX0 (2 + m) f fd A60 (spW (okLeastL m)) := by
    rw [show 2 + m = (1 + m) + 1 by omega]
    refine fn_dataWG F sc60 (fun W ds Q ⟨_, _, _, ⟨_, _, _, _, _, _, h, _⟩, _⟩ => by rw [h]; rfl) fun cdv A outer s H E W ds Q B hg hr h => ?_
    obtain ⟨fl, n, S, ⟨W0, l, es, S0, rfl, nl, rfl, h0, hn, hlen, hp0, hre, hS, hfl0, hsp⟩, rfl⟩ := h
    have hp := hre.perms hp0
    have hle : S.length ≤ 1000 := Nat.le_trans hre.le hlen
    have hfl := hfl0.reach hre
    have hr1 := hr.mono (show 1 ≤ 1 + m by omega)
    have hu : (A.deeper (PyProof.Rows.envOfC "_law_least" (defScope (top 60)) s.heap.objs.size f cdv)).units + 64 < cLine := hr.units
    have hu9 : (A.deeper (PyProof.Rows.envOfC "_law_least" (defScope (top 60)) s.heap.objs.size f cdv)).units + 9 < cLine := by have := hr.units; omega
    have hu1 : (A.deeper (PyProof.Rows.envOfC "_law_least" (defScope (top 60)) s.heap.objs.size f cdv)).units + 1 < cLine := by have := hr.units; omega
    have hu70 : (A.deeper (PyProof.Rows.envOfC "_law_least" (defScope (top 60)) s.heap.objs.size f cdv)).units + 70 < cLine := by have := hr.un; omega
    obtain ⟨o0, S', rfl⟩ : ∃ o0 S', S = o0 :: S' := by
      cases S with
      | nil => exact absurd rfl hS
      | cons o S => exact ⟨o, S, rfl⟩
    have ho0 : o0 ∈ o0 :: S' := List.mem_cons_self
    generalize hT : o0 :: S' = T at *
    refine ss_set 4 (d := .str (keyT T)) (ed_repr hg hu70 ‹Tx mg›.repr hle (perm_small hn hp) (ed_var 2)) ?_ sc60.nd
    refine ss_openV fun kvs mv => ?_
    refine ss_ifr (tb_inV hu1 (ed_var 4) (ed_var 3)) (fun hin => ?_) (fun hin => ?_)
    · obtain ⟨v, hv⟩ : ∃ v, valV kvs (.inr (keyT T)) = some v := Option.isSome_iff_exists.mp hin.symm
      have ev := mv.good T hre v hv
      subst ev
      exact ss_retP2 (P := fun d => d = natD (lst fl n T)) (P' := fun d => d = natD (lst fl n T)) (ed_getV hu1 (ed_var 3) (ed_var 4) hv) (fun z hz => hz) (RLe.memoV mv)
    · refine ss_closeV mv ?_
      have e0 : (T.map fun o => D.tup ((fl o).map .bl))[0]? = some (.tup ((fl o0).map .bl)) := by rw [← hT]; rfl
      refine ss_set 5 (d := .lst (T.map fun o => .tup ((fl o).map .bl))) (ed_map1A 12 T .ord (fun o => .tup ((fl o).map .bl)) rfl sc60.nd (id_lst (ed_var 2)) (blkOk_by (N := N60) (sc := defScope (top 60)) (by decide +kernel)) (by omega) (fun _ _ _ _ _ => pg_name sc60.nd rfl (Or.inl rfl))
        (fun o ho ys L nL s H C cl fp => ed_nget hu9 (nd_is (ed_var 1)) (ed_var 12) (keyD_ord o) (hfl o ho).1)) ?_ sc60.nd
      refine ss_set 6 (d := natD 0) ed_int ?_ sc60.nd
      refine ss_if (fun σ H => ∃ b : Nat, b = lst fl n T ∧ At B (W0.add l (someV (MemoT fl n S0))) [] [some (natD n), some (.dnk es), some (ordsL T), some (.obj l), some (.str (keyT T)), some (.lst (T.map fun o => .tup ((fl o).map .bl))), some (natD b), none, none, none, none, none, none] σ H)
        (tb_gt (ed_lenL ‹Tx mg›.len (ed_filter1A 7 (T.map fl) (fun bs => .tup (bs.map .bl)) (fun bs => !decide (bs = fl o0)) (fun bs => .tup (bs.map .bl)) rfl sc60.nd (PIimp (id_lst (ed_var 5)) fun σ H R ⟨ok, sl, q⟩ => ⟨ok, sl, fun J H1 Δ xs hx => q J H1 Δ xs (by rw [hx, List.map_map]; rfl)⟩) (blkOk_by (N := N60) (sc := defScope (top 60)) (by decide +kernel)) (by rw [List.length_map]; omega) (fun _ _ _ _ _ => pg_name sc60.nd rfl (Or.inl rfl))
          (fun bs hb ys L nL s H C cl fp => tb_neBs hu (ed_var 7) (ed_ixL (ed_var 5) ed_int (by decide) e0)) (fun bs hb _ ys L nL s H C cl fp => ed_var 7))) ed_int) (fun hc => ?_) (fun hc => ?_) (SS.exP fun b hb => ?_)
      · have nc : ¬ Const fl T := fun c => by
          have : ((T.map fl).filter fun bs => !decide (bs = fl o0)) = [] := List.filter_eq_nil_iff.mpr fun bs hb => by
            obtain ⟨o, ho, rfl⟩ := List.mem_map.mp hb
            rw [c o ho o0 ho0]; simp
          rw [this] at hc; cases hc
        refine ss_set 6 (d := natD 99) ed_int ?_ sc60.nd
        refine ss_for (α := Nat) (fun _ i b => BestB fl n T (fun p => p.1 < i) b) (fun _ => W0.add l (someV (MemoT fl n S0))) (fun b => [some (natD n), some (.dnk es), some (ordsL T), some (.obj l), some (.str (keyT T)), some (.lst (T.map fun o => .tup ((fl o).map .bl))), some (natD b), none, none, none, none, none, none]) 99 rfl rfl
          (fun σ H => ∃ b : Nat, b = lst fl n T ∧ At B (W0.add l (someV (MemoT fl n S0))) [] [some (natD n), some (.dnk es), some (ordsL T), some (.obj l), some (.str (keyT T)), some (.lst (T.map fun o => .tup ((fl o).map .bl))), some (natD b), none, none, none, none, none, none] σ H) PassesOwn.never rfl
          (id_rangeN ‹Tx mg›.range (ed_var 0) (by omega)) (gd_name 7 sc60.nd) (fun xs _ => ⟨Nat.le_refl _, fun p _ h => absurd h (Nat.not_lt_zero _), .inl rfl⟩) (fun xs i a _ _ d _ => ⟨_, rfl⟩) (fun xs hx Γ1 i x b ρ' hxi hR hp' => ?_) (fun xs hx b σ H hR at_ => ?_) (SS.exP fun b hb => ss_nil fun σ H at_ => ⟨b, hb, at_⟩)
        · cases hp'
          subst hx
          obtain ⟨rfl, ha⟩ := rng_at hxi
          refine ss_for (α := Nat) (fun _ j b => BestB fl n T (fun p => p.1 < i ∨ (p.1 = i ∧ p.2 < i + 1 + j)) b) (fun _ => W0.add l (someV (MemoT fl n S0))) (fun b => [some (natD n), some (.dnk es), some (ordsL T), some (.obj l), some (.str (keyT T)), some (.lst (T.map fun o => .tup ((fl o).map .bl))), some (natD b), some (natD i), none, none, none, none, none]) b rfl rfl
            (Lp B (fun i b => BestB fl n T (fun p => p.1 < i) b) (fun _ : Nat => W0.add l (someV (MemoT fl n S0))) (fun b => [some (natD n), some (.dnk es), some (ordsL T), some (.obj l), some (.str (keyT T)), some (.lst (T.map fun o => .tup ((fl o).map .bl))), some (natD b), none, none, none, none, none, none]) Γ1 (i + 1)) PassesOwn.never rfl
            (PIimp (id_range2 (i := (i : Int) + 1) (j := (n : Int)) ‹Tx mg›.range (ed_add (ed_var 7) ed_int) (ed_var 0) (by omega)) fun σ H R ⟨ok, sl, q⟩ => ⟨ok, sl, fun J H1 Δ xs hx => q J H1 Δ xs (show xs = ((List.range (n - (i + 1))).map fun k => i + 1 + k).map natD by rw [hx, rngD_from])⟩)
            (gd_name 8 sc60.nd) (fun xs _ => hR.skip fun q ⟨hq, _⟩ dq => by omega) (fun xs i a _ _ d _ => ⟨_, rfl⟩) (fun xs hx Γ2 j x b2 ρ' hxj hR2 hp' => ?_) (fun xs hx b2 σ H hR2 at_ => ?_) (ss_nil fun σ H h => h)
          · cases hp'
            subst hx
            obtain ⟨c, hb, rfl, hbm⟩ := map_at hxj
            obtain ⟨k, hk, rfl⟩ := List.mem_map.mp hbm
            have ek : k = j := by
              rw [List.getElem?_map] at hb
              obtain ⟨k', hk', e'⟩ := Option.map_eq_some_iff.mp hb
              obtain ⟨h2, h3⟩ := List.getElem?_eq_some_iff.mp hk'
              rw [List.getElem_range] at h3
              omega
            subst ek
            have hkn := List.mem_range.mp hk
            have hbn : i + 1 + k < n := by omega
            refine ss_unpack (P := fun d => d = .tup [ordsL (K14.fst T i (i + 1 + k)), ordsL (K14.fst T (i + 1 + k) i)]) (gd_tup (js := [9, 10]) rfl (gns_cons 9 (gns_cons 10 gns_nil sc60.nd) sc60.nd)) (ed_cal C2 hr1 pass0 (ad_cons (ed_var 2) (ad_cons (ed_var 7) (ad_cons (ed_var 8) ad_nil))) ⟨n, T, i, i + 1 + k, rfl, hp, ha, hbn, hle, rfl⟩) fun d hd => ?_
            subst hd
            refine ⟨_, rfl, ?_⟩
            refine ss_if (Lp B (fun j b => BestB fl n T (fun p => p.1 < i ∨ (p.1 = i ∧ p.2 < i + 1 + j)) b) (fun _ : Nat => W0.add l (someV (MemoT fl n S0))) (fun b => [some (natD n), some (.dnk es), some (ordsL T), some (.obj l), some (.str (keyT T)), some (.lst (T.map fun o => .tup ((fl o).map .bl))), some (natD b), some (natD i), none, none, none, none, none]) Γ2 (k + 1))
              (WB.tb (wb_and (tb_gt (ed_lenL ‹Tx mg›.len (ed_var 9)) ed_int) fun _ => wb_and1 (tb_gt (ed_lenL ‹Tx mg›.len (ed_var 10)) ed_int))) (fun hg2 => ?_) (fun hg2 => ?_) (ss_nil fun σ H h => h)
            · have f1 : K14.fst T i (i + 1 + k) ≠ [] := fun e => by rw [e] at hg2; cases hg2
              have f2 : K14.fst T (i + 1 + k) i ≠ [] := fun e => by rw [e, Bool.and_comm] at hg2; cases hg2
              have hs : splits n T (i, i + 1 + k) := ⟨by show i < i + 1 + k; omega, hbn, f1, f2⟩
              have lt1 := sp_lt (show i < i + 1 + k by omega) hbn f1 f2
              obtain ⟨m', rfl⟩ : ∃ m', m = m' + 1 := ⟨m - 1, by omega⟩
              have CR : CalG P w K mg base CX0 (2 + m') "_law_least" A60 (spW (okLeastL m')) := ⟨f, fd, ih m' rfl, hm, F.kp, hB⟩
              have hr2 := hr.mono (show 2 + m' ≤ 1 + (m' + 1) by omega)
              refine ss_set 11 (d := natD (worth fl n T i (i + 1 + k))) (EE.is (ed_add ed_int (ed_max rfl ‹Tx mg›.max
                (ed_calG CR hg hr2 (E := fun _ _ _ => False) pass0 (ad_cons (ed_var 0) (ad_cons (ed_var 1) (ad_cons (ed_var 9) (ad_cons (ed_var 3) ad_nil)))) ⟨fl, n, _, ⟨W0, l, es, S0, rfl, nl, rfl, h0, hn, hlen, hp0, hre.step (by omega) hbn (by omega), f1, hfl0, by omega⟩, rfl⟩)
                (ed_calG CR hg hr2 (E := fun _ _ _ => False) pass0 (ad_cons (ed_var 0) (ad_cons (ed_var 1) (ad_cons (ed_var 10) (ad_cons (ed_var 3) ad_nil)))) ⟨fl, n, _, ⟨W0, l, es, S0, rfl, nl, rfl, h0, hn, hlen, hp0, hre.step hbn (by omega) (by omega), f2, hfl0, by omega⟩, rfl⟩))) worth_int) ?_ sc60.nd
              refine ss_set 6 (d := natD (min b2 (worth fl n T i (i + 1 + k)))) (EE.is (ed_min rfl ‹Tx mg›.min (ed_var 6) (ed_var 11)) (by unfold natD; refine congrArg D.int ?_; omega)) ?_ sc60.nd
              exact ss_nil fun σ H at_ => ⟨_, hR2.step hs fun q dq => (by
                have e := dq
                by_cases c : q.1 = i ∧ q.2 = i + 1 + k
                · exact .inr (Prod.ext c.1 c.2)
                · exact .inl (by omega)), at_.forget (by repeat (first | exact Wk.nil | refine Wk.keep ?_ | refine Wk.drop ?_))⟩
            · refine ss_nil fun σ H at_ => ⟨b2, hR2.skip fun q hq dq => ?_, at_.forget (by repeat (first | exact Wk.nil | refine Wk.keep ?_ | refine Wk.drop ?_))⟩
              by_cases c : q.1 = i ∧ q.2 = i + 1 + k
              · obtain ⟨_, _, g3, g4⟩ := hq
                rw [c.1, c.2] at g3 g4
                have l1 := List.length_pos_iff.mpr g3
                have l2 := List.length_pos_iff.mpr g4
                rw [List.length_map, List.length_map, decide_eq_true (by omega), decide_eq_true (by omega)] at hg2
                cases hg2
              · omega
          · subst hx
            rw [List.length_map, List.length_map, List.length_range] at hR2
            exact ⟨b2, hR2.skip fun q ⟨g1, g2, _⟩ dq => (by
              have : q.1 < i + 1 := dq
              omega), at_.forget (by repeat (first | exact Wk.nil | refine Wk.keep ?_ | refine Wk.drop ?_))⟩
        · subst hx
          rw [List.length_map, List.length_range] at hR
          exact ⟨b, hR.fin hn hp nc fun p ⟨g1, g2, _⟩ => (by show p.1 < n; omega), at_⟩
      · refine ss_nil fun σ H at_ => ⟨0, (lst_const hp fun o ho o' ho' => ?_).symm, at_⟩
        have all : ∀ o ∈ T, fl o = fl o0 := fun o ho => by
          by_cases q : fl o = fl o0
          · exact q
          · have : 0 < ((T.map fl).filter fun bs => !decide (bs = fl o0)).length := List.length_pos_of_mem (List.mem_filter.mpr ⟨List.mem_map_of_mem ho, by rw [decide_eq_false q]; rfl⟩)
            rw [Bool.false_eq] at hc
            simp only [List.length_map, decide_eq_false_iff_not] at hc
            omega
        rw [all o ho, all o' ho']
      · subst hb
        refine ss_openV fun kvs2 m2 => ?_
        refine ss_putV hu1 nl (ed_var 3) (ed_var 4) (ed_var 6) (m2.len hn) ?_
        exact ss_retP2 (P := fun d => d = natD (lst fl n T)) (P' := fun d => d = natD (lst fl n T)) (ed_var 6) (fun z hz => hz) (RLe.memoV (m2.put h0 hn hp0 hre))
end
end K14

set_option Elab.async false
set_option linter.all false
set_option maxRecDepth 100000
set_option maxHeartbeats 4000000
namespace K14
open PySem L2
/-! ### a list made while an exception is handled -/
section
open PySem.Spec PyProof.Rows L2H
/-- the same context, the exception told again -/
theorem Inv.repin {X : Cx} {σ : L2.St} {H : Hp} {s : Shared} {pn pl : List (Addr × Obj)} (I : Inv X [] σ H s) (h : ∀ p ∈ pn ++ pl, s.heap.get? p.1 = some p.2 ∧ H p.1 = none ∧ p.1 ≠ X.env.locals ∧ p.1 ∉ X.fs ∧ ∀ v, p.2.data ≠ .cell v) : Inv { X with pn := pn } pl σ H s :=
  ⟨⟨I.ok.mod, I.ok.kind, I.ok.glob, I.ok.blt, I.ok.above, I.ok.inj, I.ok.has, I.ok.cab, I.ok.hd, I.ok.frames, I.ok.stk, I.ok.exf, I.ok.bs, I.ok.bsz, I.ok.noex, I.ok.exfs, I.ok.funs, I.ok.frf⟩, I.os, I.bare, I.base, I.loc, I.cell, I.free, I.freeC, h, I.hok, I.len⟩
variable {X : Cx}
theorem lc_hot {pins : List (Addr × Obj)} {s : Shared} {σ : L2.St} {H : Hp} {Q : VK} {elt tg iter : Expr} {ifs : List Expr} {scope : Scope} {own : List (Str × Nat)} {pos pos' : Pos} {wi : TI} {g : TG} {tt : TT} {te : TE} {use : Option (Value → Sem Unit)} {Qf : Value → Shared → Prop} (hc : HotC X) (hN : X.N.Nodup) (I : Inv X pins σ H s) (hi : PIH X tg iter wi) (ok : BlkOk X.N X.env.scope scope own)
    (hg : ∀ (s : Shared) (H : Hp) (C : Addr) (cl : List (Str × Addr)) (fp : List Addr), PG (X.blk s H scope (compEnvC scope cl C X.env) fp) tg g) (ht : ∀ (s : Shared) (H : Hp) (C : Addr) (cl : List (Str × Addr)) (fp : List Addr), PTs (X.blk s H scope (compEnvC scope cl C X.env) fp) ifs tt) (he : ∀ (s : Shared) (H : Hp) (C : Addr) (cl : List (Str × Addr)) (fp : List Addr), PE (X.blk s H scope (compEnvC scope cl C X.env) fp) elt te)
    (hs : ∀ x, foldedSetIterable iter X.env x = pure x) (h : tLc wi g tt te (own.map (·.2)) σ H Q) (hRR : ∀ D C s' m H', Inv X pins σ H' s' → Q (.ref D) H' → s'.heap.Ns C m → FpOk X pins H' C → compPost (model X.prog X.w) X.A X.xe use Qf (.ref D) C (.ok .next) s') :
    wpAny (model X.prog X.w) X.A (comprehension (.ListComp elt [⟨tg, iter, ifs, 0⟩] scope pos) scope X.env pos' (newList []) false (eval iter X.env) use) Qf X.xe s := by
  have hfree : ∀ y ∈ scope.names, y.2 = .free → ∃ c, X.env.cells.lookup y.1 = some c := fun y hy e => (ok.free y hy e).elim (fun k => I.ok.has _ (.inl k)) fun k => I.ok.has _ (.inr k)
  obtain ⟨hp, hot1, hpn⟩ := hc
  refine wpAny_comprehension_free (use := use) rfl hs (closure_ok hfree) ok.kind (fun y hy e => by rw [ok.uniq y hy, e]) (thn (hi.run pins s σ H _ I h) fun xv s1 hx => thn hx fun itv s2 h2 => ?_)
  obtain ⟨it, fp, tn, J, H2, e, I2, T, st2, f2, q⟩ := h2; subst e
  refine wpAny_newObj_type (newEnv_comp ?_) (by show 0 ≤ sizeLine; decide)
  generalize hD : s2.heap.objs.size = D; have hDn : H2 D = none := I2.hok.fresh (Nat.le_of_eq hD); obtain ⟨W, ⟨m0, w0⟩, turn⟩ := q D hDn
  generalize hs3 : ({ s2 with heap := s2.heap.push { cls := .type "list", data := .seq ([] : List Value).toArray } } : Shared) = s3
  have I3 : Inv X pins σ (upd H2 D (.lst [])) s3 := by
    rw [← hs3]; refine I2.laid (t' := s2.toks) (fun b o e => Heap.get?_push_of_some _ e) (Nat.le_of_eq hD) ⟨Nat.zero_le _, [], 0, .nil, ?_⟩; rw [← hD]; exact Heap.get?_push_size _ rfl
  have h3 : s3.heap = s2.heap.push { cls := .type "list", data := .seq ([] : List Value).toArray } := by rw [← hs3]
  have sz : ∀ b ∈ fp, b < s2.heap.objs.size := fun b hb => let ⟨o, e, _⟩ := T.obj _ _ st2 b hb; Heap.lt_size e
  have f3 : ∀ b ∈ fp, FpOk X pins (upd H2 D (.lst [])) b ∧ b < s3.heap.objs.size := fun b hb => ⟨⟨by rw [upd_ne (by rw [← hD]; exact Nat.ne_of_lt (sz b hb))]; exact (f2 b hb).1, (f2 b hb).2⟩, by rw [h3, Heap.size_push]; exact Nat.lt_succ_of_lt (sz b hb)⟩
  have st3 : tn 0 s3.heap := T.keep _ _ _ st2 fun b _ o e => by rw [h3]; exact Heap.get?_push_of_some _ e
  have I4 := block_start I3 ok hN f3
  have pg := hg s3 (upd H2 D (.lst [])) s3.heap.objs.size (cellsFrom (s3.heap.objs.size + 1) scope.names (cloFrom X.env.cells scope.names [])) fp; have pt := ht s3 (upd H2 D (.lst [])) s3.heap.objs.size (cellsFrom (s3.heap.objs.size + 1) scope.names (cloFrom X.env.cells scope.names [])) fp; have pe := he s3 (upd H2 D (.lst [])) s3.heap.objs.size (cellsFrom (s3.heap.objs.size + 1) scope.names (cloFrom X.env.cells scope.names [])) fp
  show codeAny _ _ (.compStart (.ListComp elt [⟨tg, iter, ifs, 0⟩] scope pos) 0 (.ref it) (.ref D) (compEnvC scope (cellsFrom (s3.heap.objs.size + 1) scope.names (cloFrom X.env.cells scope.names [])) s3.heap.objs.size X.env)) (compPost (model X.prog X.w) X.A X.xe use Qf (.ref D) s3.heap.objs.size) { s3 with heap := pushCells (s3.heap.push { cls := .type "dict", data := .dict #[] }) scope.names }
  have nfp : ∀ b ∈ fp, (upd H2 D (.lst [])) b = none := fun b hb => (f3 b hb).1.1
  have P3 := I3.pin hp (List.mem_append_left _ hpn)
  have nofp : hp.1 ∉ fp := fun z => (f3 _ z).1.2.2.2.2.2 hp (List.mem_append_left _ hpn) rfl
  generalize hce : compEnvC scope (cellsFrom (s3.heap.objs.size + 1) scope.names (cloFrom X.env.cells scope.names [])) s3.heap.objs.size X.env = ce at I4 pg pt pe ⊢
  have cL : ce.locals = s3.heap.objs.size := by subst hce; rfl
  generalize hH3 : upd H2 D (.lst []) = H3 at I3 I4 pg pt pe w0 nfp f3 P3
  generalize hs4 : ({ s3 with heap := pushCells (s3.heap.push { cls := .type "dict", data := .dict #[] }) scope.names } : Shared) = s4 at I4 ⊢
  have st4 : tn 0 s4.heap := T.keep _ _ _ st3 fun b _ o e => by rw [← hs4]; exact pushCells_keeps _ _ _ _ (Heap.get?_push_of_some _ e)
  have nofs : hp.1 ∉ (X.blk s3 H3 scope ce fp).fs := fun z => by
    have z' : hp.1 ∈ frs X.stack := z
    exact (List.mem_cons.mp (I3.stkSub hp.1 z')).elim P3.2.2.1 P3.2.2.2.1
  have pinB : ∀ {σ' : L2.St} {H' : Hp} {s' : Shared}, Inv (X.blk s3 H3 scope ce fp) [] σ' H' s' → ∀ p ∈ [hp] ++ ([] : List (Addr × Obj)), s'.heap.get? p.1 = some p.2 ∧ H' p.1 = none ∧ p.1 ≠ ce.locals ∧ p.1 ∉ (X.blk s3 H3 scope ce fp).fs ∧ ∀ v, p.2.data ≠ .cell v := fun {σ' H' s'} I' p hpm => by
    have e : p = hp := by simpa using hpm
    subst e
    exact ⟨I'.base.keep _ _ P3.1 P3.2.1 nofs nofp, I'.base.free _ _ P3.1 P3.2.1 nofp, by rw [cL]; exact Nat.ne_of_lt (Heap.lt_size P3.1), nofs, P3.2.2.2.2⟩
  have hotB : HotC { X.blk s3 H3 scope ce fp with pn := [hp] } := ⟨hp, hot1, List.mem_singleton.mpr rfl⟩
  have stat : ∀ {σ' : L2.St} {H' : Hp} {s' : Shared}, Inv (X.blk s3 H3 scope ce fp) [] σ' H' s' → (∀ b ∈ fp, H' b = none) → ∀ b ∈ fp, FpOk (X.blk s3 H3 scope ce fp) [] H' b := fun {σ' H' s'} I' hn b hb => ⟨hn b hb, (I'.ok.exf b hb).1, I'.ok.exfs b hb, .inl hb, fun x c e => (I'.ok.exf b hb).2 x c e, fun p hp => absurd (show p ∈ ([] : List (Addr × Obj)) ++ [] from hp) (by simp)⟩
  have statB : ∀ {σ' : L2.St} {H' : Hp} {s' : Shared}, Inv (X.blk s3 H3 scope ce fp) [] σ' H' s' → (∀ b ∈ fp, H' b = none) → ∀ b ∈ fp, FpOk { X.blk s3 H3 scope ce fp with pn := [hp] } [] H' b := fun {σ' H' s'} I' hn b hb => ⟨hn b hb, (I'.ok.exf b hb).1, I'.ok.exfs b hb, .inl hb, fun x c e => (I'.ok.exf b hb).2 x c e, fun p hpm => by
    have e : p = hp := by simpa using hpm
    subst e; exact fun z => nofp (z ▸ hb)⟩
  have back : ∀ {σ' : L2.St} {H' : Hp} {s' : Shared}, Inv { X.blk s3 H3 scope ce fp with pn := [hp] } [] σ' H' s' → Inv (X.blk s3 H3 scope ce fp) [] σ' H' s' := fun {σ' H' s'} I' => ⟨⟨I'.ok.mod, I'.ok.kind, I'.ok.glob, I'.ok.blt, I'.ok.above, I'.ok.inj, I'.ok.has, I'.ok.cab, I'.ok.hd, I'.ok.frames, I'.ok.stk, I'.ok.exf, I'.ok.bs, I'.ok.bsz, I'.ok.noex, I'.ok.exfs, I'.ok.funs, I'.ok.frf⟩, I'.os, I'.bare, I'.base, I'.loc, I'.cell, I'.free, I'.freeC, fun p z => absurd (show p ∈ ([] : List (Addr × Obj)) ++ [] from z) (by simp), I'.hok, I'.len⟩
  have loop : codeAny (model X.prog X.w) X.A (.compLoop (.ListComp elt [⟨tg, iter, ifs, 0⟩] scope pos) 0 (.ref it) (.ref D) ce) (compPost (model X.prog X.w) X.A X.xe use Qf (.ref D) s3.heap.objs.size) s4 := by
    refine compLoop_any (fun n s' => ∃ i H', Inv (X.blk s3 H3 scope ce fp) [] (wipe σ (own.map (·.2))) H' s' ∧ tn i s'.heap ∧ (∀ b ∈ fp, H' b = none) ∧ W i n H') ?_ m0 ⟨0, H3, I4, st4, nfp, w0⟩
    rintro n s5 ⟨i, H5, I5, st5, n5, w5⟩
    rcases turn i n H5 w5 with ⟨stop, qq⟩ | ⟨go, Nx, hNx, step⟩
    · refine thnF (T.done { X.blk s3 H3 scope ce fp with pn := [hp] } rfl rfl rfl hotB i [] s5 _ H5 (fun _ _ => False) (Inv.repin I5 (pinB I5)) (statB I5 n5) st5 stop) fun r s6 ⟨hr, I6b⟩ => ?_
      subst hr; have I6 := back I6b
      have I7 : Inv X pins σ H5 s6 := I3.call' (ch := fp) I6.os I6.base I6.hok I6.bare fun b hb => ⟨(f3 b hb).1.2.2.2.1, (f3 b hb).1.2.1, (f3 b hb).1.2.2.2.2.1, (f3 b hb).1.2.2.2.2.2⟩
      have nC : H5 s3.heap.objs.size = none := by
        have z : H5 ce.locals = none := I6.free
        rw [cL] at z; exact z
      obtain ⟨m, hn, _⟩ := I6.loc; have hn : s6.heap.Ns ce.locals m := hn; rw [cL] at hn
      exact hRR D s3.heap.objs.size s6 m H5 I7 qq hn (I3.fpOk (Nat.le_refl _) nC)
    · refine thnF (T.item { X.blk s3 H3 scope ce fp with pn := [hp] } rfl rfl rfl hotB i [] s5 _ H5 (fun _ _ => False) (Inv.repin I5 (pinB I5)) (statB I5 n5) st5 go) fun r s6 ⟨u, hr, h6⟩ => ?_
      subst hr; refine thnF h6 fun _ s7 ⟨x, H7, I7b, r7, y7, st7, n7⟩ => ?_
      have I7 := back I7b; have I7' := I7.pinned (stat I7 n7) (T.obj _ _ st7)
      refine thnF (pg.run _ s7 _ H7 x u _ I7' r7 (step x H7 y7)) fun _ s8 ⟨σ8, H8, I8, hw8, q8⟩ => thnF (pt.run _ s8 σ8 H8 _ I8 q8) fun b s9 ⟨H9, I9, q9⟩ => ?_
      have fin : ∀ {s' : Shared} {H' : Hp}, Inv (X.blk s3 H3 scope ce fp) ([] ++ pinsAt fp s7.heap) σ8 H' s' → Nx H' → ∃ m, m < n ∧ ∃ i H', Inv (X.blk s3 H3 scope ce fp) [] (wipe σ (own.map (·.2))) H' s' ∧ tn i s'.heap ∧ (∀ b ∈ fp, H' b = none) ∧ W i m H' := fun {s' H'} I' nx => by
        obtain ⟨m', hm, w'⟩ := hNx H' nx
        have pin' : ∀ b ∈ fp, ∀ o, s7.heap.get? b = some o → s'.heap.get? b = some o ∧ H' b = none := fun b hb o e => let z := I'.pin (b, o) (List.mem_append_right _ (List.mem_append_right _ (mem_pinsAt hb e))); ⟨z.1, z.2.1⟩
        exact ⟨m', hm, i + 1, H', (I'.unpinned (pins := [])).weak (by rw [← hw8, wipe_length]) (fun j v e => by rw [← hw8] at e; exact (wipe_some e).1), T.keep _ _ _ st7 fun b hb o e => (pin' b hb o e).1, fun b hb => (let ⟨o, e, _⟩ := T.obj _ _ st7 b hb; (pin' b hb o e).2), w'⟩
      cases b with
      | false => simp only [Bool.false_eq_true, if_false] at q9 ⊢; exact fin I9 q9
      | true =>
        simp only [if_true] at q9 ⊢; refine thnF (pe.run _ s9 σ8 H9 _ I9 q9) fun z s10 ⟨yv, H10, I10, r10, acc, hD10, hz10, nx⟩ => ?_
        exact app_ok (X := X.blk s3 H3 scope ce fp) I10 hD10 hz10 r10 fun s11 I11 => fin I11 nx
  exact codeAny_compStart_list loop (T.self X.A 0 _ _ _ st4 loop)
theorem pe_lcH {elt tg iter : Expr} {ifs : List Expr} {scope : Scope} {own : List (Str × Nat)} {pos : Pos} {wi : TI} {g : TG} {tt : TT} {te : TE} (hc : HotC X) (hN : X.N.Nodup) (hi : PIH X tg iter wi) (ok : BlkOk X.N X.env.scope scope own) (hg : ∀ (s : Shared) (H : Hp) (C : Addr) (cl : List (Str × Addr)) (fp : List Addr), PG (X.blk s H scope (compEnvC scope cl C X.env) fp) tg g)
    (ht : ∀ (s : Shared) (H : Hp) (C : Addr) (cl : List (Str × Addr)) (fp : List Addr), PTs (X.blk s H scope (compEnvC scope cl C X.env) fp) ifs tt) (he : ∀ (s : Shared) (H : Hp) (C : Addr) (cl : List (Str × Addr)) (fp : List Addr), PE (X.blk s H scope (compEnvC scope cl C X.env) fp) elt te) (hs : ∀ x, foldedSetIterable iter X.env x = pure x := by intro _; rfl) : PE X (.ListComp elt [⟨tg, iter, ifs, 0⟩] scope pos) (tLc wi g tt te (own.map (·.2))) := by
  refine ⟨fun pins s σ H Q I h => ?_⟩; rw [eval_ListComp]
  refine lc_hot hc hN I hi ok hg ht he hs h fun D C s' m H' I' q hn ⟨f0, f1, f2, f3, f4, f5⟩ => ⟨m, hn, fun h'' sb => ⟨.ref D, H', I'.turned (t' := s'.toks) (fun b o hb e => (sb.2 b hb).trans e) f0 f1 f3 f4 f5, rfl, q⟩⟩
end
end K14

set_option Elab.async false
set_option linter.all false
set_option maxRecDepth 100000
set_option maxHeartbeats 4000000
namespace K14
open PySem L2
/-! ### try .. except C as e -/
section
open L2H
variable {X : Cx} {W : Res} {ρ : List (Option D)}
theorem pe_callFx {CX : CXT} {k : Nat} {f : Addr} {fd : FuncData} {ps : List Str} {sp : Sp} {E : L2.St → XK} {fe e : Expr} {es : List Expr} {pos : Pos} {tf : TE} {t : TA} (F : FnOk X.prog X.w X.K X.mg X.base CX k f fd ps sp) (hr : Room k X.A) (hk : PySem.W.keepIn X.K (.ref f) = true) (hb : Binds X.K fd ps []) (hx : ∀ σ, PassesAt CX X σ (E σ)) (hf : PE X fe tf) (ha : PA X (e :: es) t)
    (he : starEach (e :: es) X.env = (false, eval e X.env) :: starEach es X.env := by rfl) (hpl : (backTo pos (starEach es X.env)).any (·.1) = false := by rfl) (ht : eval (.Call fe (e :: es) [] pos) X.env = (do callWith pos (← eval fe X.env) [] (backTo pos (starEach (e :: es) X.env)) (backToKw pos (keywordEach [] X.env))) := by rfl) :
    PE X (.Call fe (e :: es) [] pos) (fun σ H Q => tf σ H fun v H1 => v = .ref f ∧ t σ H1 fun vs H2 => sp vs H2 Q (E σ)) :=
  ⟨fun pins s σ H Q I h => PyProof.Rows.Call_ (thn (hf.run pins s σ H _ I h) fun u s1 ⟨v, H1, I1, r1, ev, q⟩ => by
    subst ev; obtain rfl : u = Value.ref f := r1
    exact PySem.W.callWith_K (h₀ := X.base) I1.ok.mod.kin hk (thn (ha.run pos pins s1 σ H1 _ I1 q) fun us s2 ⟨vs, H2, I2, r, q2⟩ => ⟨I2.kIn, run_fnS F hr hb (hx σ) I2 r q2⟩) he hpl) ht⟩
theorem pe_callGx {k : Nat} {ps : List Str} {ok : Res → List D → GX → RX → Prop} {fe e : Expr} {es : List Expr} {pos : Pos} {ds : List D} {G : GX} {R : RX} {Wx : WX} {f : Addr} {fd : FuncData} (F : FnOk X.prog X.w X.K X.mg X.base (L2N.CX X.prog X.w) k f fd ps (spG ok)) (hk : PySem.W.keepIn X.K (.ref f) = true) (hb : Binds X.K fd ps []) (hr : Room k X.A) (tk : L2N.Takes X Wx) (hf : EE X W ρ fe (.obj f)) (ha : AE X W ρ (e :: es) ds) (hok : ok W ds G R)
    (he : starEach (e :: es) X.env = (false, eval e X.env) :: starEach es X.env := by rfl) (hpl : (backTo pos (starEach es X.env)).any (·.1) = false := by rfl) (ht : eval (.Call fe (e :: es) [] pos) X.env = (do callWith pos (← eval fe X.env) [] (backTo pos (starEach (e :: es) X.env)) (backToKw pos (keywordEach [] X.env))) := by rfl) :
    PE X (.Call fe (e :: es) [] pos) (tCG W ρ G R Wx) :=
  PEimp (pe_callFx F hr hk hb (fun σ => L2N.passAt tk σ) hf ha he hpl ht) fun σ H Q ⟨o, sl, q, qx⟩ => ⟨o, sl, fun z v H0 e0 ok0 hz r0 => by
    subst hz; cases r0
    exact ⟨rfl, ok0, sl.ext e0, fun ds' vs H1 e1 ok1 hd r1 => by
      subst hd
      exact ⟨W, ds', G, R, ok1, r1, hok, fun v H2 g => q H1 v H2 (e0.trans e1) ok1 g, fun c d H2 e2 ok2 r => qx c d H2 ((e0.trans e1).trans e2) ok2 r⟩⟩⟩
theorem ed_gfn {n : Str} {f : Addr} {pos : Pos} (hm : X.mg n = some (.ref f)) (hg : Gl X n := by rfl) (hd : (n == ("__debug__" : Str)) = false := by decide) : EE X W ρ (.Name n pos) (.obj f) := ed_cv (v := .ref f) (pe_glob hg hm rfl hd) fun _ _ => .obj f
end
section
variable {X : Cx} {B : Bs} {W : Res} {Γ : List (V × D)} {ρ : List (Option D)} {rest : List Stmt} {E : Ends} {R : RX}
theorem ss_tryAs {x n : Str} {C : Addr} {i : Nat} {body suite : List Stmt} {b₀ : Stmt} {np pos pos' : Pos} (Ψ : L2.St → Hp → Prop) (hs : X.stack = X.env :: X.outer) (hf : X.env.frame = some X.env.locals) (hN : X.N.Nodup) (hi : X.N[i]? = some n) (hln : X.env.kindOf n = some .local) (hg : Gl X x) (hd : (x == ("__debug__" : Str)) = false) (hm : X.mg x = some (.ref C))
    (hR : ∀ c d H, R c d H → PySem.W.exmOne X.K c (.ref C) = some true)
    (hb : ∀ (Wx : WX) (pn : List (Addr × Obj)) (xe : Value → Shared → Prop), L2N.Takes (X.tr pn xe) Wx → (∀ c d σ H, At B W Γ ρ σ H → R c d H → Wx c d σ H) → SS (X.tr pn xe) (At B W Γ ρ) body { nx := Ψ, rt := fun _ _ => False })
    (hsu : ∀ (a : Addr) (oe : Obj) (cls : Value) (d : Option Addr) (pn : List (Addr × Obj)), L2N.Zn cls d oe → (∃ vs, oe.data = .fields vs) → SS (X.suite a ((a, oe) :: pn)) (fun σ H => At B W Γ (ρ.set i (some (.obj a))) σ H ∧ R cls d H) (b₀ :: suite) { nx := fun σ H => Ψ (σ.set i none) H, rt := fun _ _ => False })
    (h2 : SS X Ψ rest E) : SS X (At B W Γ ρ) (.Try body [.ExceptHandler (some (.Name x np)) (some n) (b₀ :: suite) pos'] [] [] pos :: rest) E := by
  refine ss_cons (L2N.ps_try_as (i := i) (tb := fun Wx D σ H => (∀ c d σ H, At B W Γ ρ σ H → R c d H → Wx c d σ H) ∧ tS (At B W Γ ρ) { nx := Ψ, rt := fun _ _ => False } D σ H) (ts := fun a cls d D σ H => tS (fun σ H => At B W Γ (ρ.set i (some (.obj a))) σ H ∧ R cls d H) { nx := fun σ H => Ψ (σ.set i none) H, rt := fun _ _ => False } D σ H) (Wout := fun _ _ _ _ => False)
    hs hf hN hi hln ⟨hg, hd, .inl hm⟩ takesN0 (fun Wx pn xe tk _ => ⟨fun pins s σ H D I ⟨h1, h2⟩ => (hb Wx pn xe tk h1).run pins s σ H D I h2⟩) fun a oe cls d pn hz hv => hsu a oe cls d pn hz hv) (fun D σ H at_ kn kr kb kc => ?_) h2
  refine ⟨fun c d σ' H' at2 hr => ⟨true, hR c d H' hr, fun _ a ha => ⟨⟨at2.set i (.obj a), hr⟩, ⟨fun σ2 H2 z => kn _ _ z, fun v H2 z => z.elim, fun σ2 H2 z => z.elim, fun σ2 H2 z => z.elim⟩⟩, fun z => by cases z⟩, at_, ⟨fun σ2 H2 z => kn _ _ z, fun v H2 z => z.elim, fun σ2 H2 z => z.elim, fun σ2 H2 z => z.elim⟩⟩
end
end K14

set_option Elab.async false
set_option linter.all false
set_option maxRecDepth 100000
set_option maxHeartbeats 4000000
namespace K14
open PySem L2
/-! ### isinstance of a caught exception; its field -/
/-- the dict of an exception, if it has one -/
def dictAt (d : Option Addr) (H : Hp) : Prop := ∀ dd, d = some dd → ∃ fs, H dd = some (.xd fs)
theorem call_isX {X : Cx} {a D : Addr} {oe : Obj} {d : Option Addr} {pn : List (Addr × Obj)} (C : ExcC X.K D) (hz : Zc (.ref D) d oe) (hf : ∃ vs, oe.data = .fields vs) :
    CallR (X.suite a ((a, oe) :: pn)) (.builtin "isinstance") (fun xs H Q => ∃ (c : V) (cv : Value) (b : Bool), xs = [.ref a, c] ∧ (∀ u, RelV c u → u = cv) ∧ PySem.W.kitOne X.K (.ref D) cv = some b ∧ dictAt d H ∧ Q (.bl b) H) := by
  intro pins s σ H xs us Q I r h
  obtain ⟨c, cv, b, rfl, hcv, e, hd, q⟩ := h
  cases r with
  | cons rx rr =>
    cases rr with
    | cons rt rr =>
      cases rr; cases rx
      have ec := hcv _ rt
      subst ec
      obtain ⟨hget, _⟩ := I.pin (a, oe) (List.mem_append.mpr (.inl List.mem_cons_self))
      obtain ⟨vs, hv⟩ := hf
      have J : ∃ od, PySem.W.InstAt s.heap a oe D od := by
        cases d with
        | none => exact ⟨none, hget, hz.1, by unfold PySem.W.notCls; rw [hv], by rw [hz.2]; trivial⟩
        | some dd =>
          obtain ⟨fs, ea⟩ := hd dd rfl
          have hx : ObjOk X.prog X.w H s.heap dd (.xd fs) := I.hok dd _ ea
          obtain ⟨mA, hns, _⟩ := hx
          obtain ⟨od, ho, _⟩ := lookIn_ns hns
          exact ⟨some od, hget, hz.1, by unfold PySem.W.notCls; rw [hv], by rw [hz.2]; exact ho⟩
      obtain ⟨od, J⟩ := J
      have hcl : (PySem.W.clsIn X.K D).isSome = true := by
        have := C.hd
        unfold PySem.W.hasDictIn at this
        cases q : PySem.W.clsIn X.K D with
        | none => rw [q] at this; cases this
        | some z => rfl
      exact PySem.W.kia_one (PySem.W.kitx_exc hcl C.hg C.hk C.hs C.ha C.hn C.ht C.hm) I.kIn J e (fun z => nomatch z) fun tk => ⟨.bl b, H, I.kept (t' := tk) fun _ _ z => z, rfl, q⟩
/-- a world that knows an exception's dict -/
def Res.exd (W : Res) (d : Option Addr) (fs : List (Str × V)) : Res where
  m := W.m
  I := fun M H => W.I M H ∧ ∀ dd, d = some dd → ¬ M dd ∧ H dd = some (.xd fs)
  dom := fun h => W.dom h.1
  stab := fun h e k => ⟨W.stab h.1 e k, fun dd e => ⟨(h.2 dd e).1, k _ _ (h.2 dd e).1 (h.2 dd e).2⟩⟩
  grow := fun h k => ⟨W.grow h.1 k, fun dd e => ⟨fun z => (k _ z).elim (h.2 dd e).1 fun z => (by rw [(h.2 dd e).2] at z; cases z), (h.2 dd e).2⟩⟩
  shrink := fun h k => ⟨W.shrink h.1 k, fun dd e => ⟨fun z => (h.2 dd e).1 (k _ z), (h.2 dd e).2⟩⟩
section
variable {X : Cx} {W : Res} {ρ : List (Option D)} {d : Option Addr} {fs : List (Str × V)} {e : Expr}
theorem ed_isX {a DD C : Addr} {oe : Obj} {pn : List (Addr × Obj)} {b : Bool} {n : Str} {p p2 pos : Pos} (CC : ExcC X.K DD) (hz : Zc (.ref DD) d oe) (hf : ∃ vs, oe.data = .fields vs) (hm : X.mg "isinstance" = none) (hm2 : X.mg n = some (.ref C)) (hk : PySem.W.kitOne X.K (.ref DD) (.ref C) = some b)
    (ha : EE (X.suite a ((a, oe) :: pn)) (W.exd d fs) ρ e (.obj a)) (hg : Gl (X.suite a ((a, oe) :: pn)) "isinstance" := by rfl) (hg2 : Gl (X.suite a ((a, oe) :: pn)) n := by rfl) (hd2 : (n == ("__debug__" : Str)) = false := by decide)
    (hs : starEach [e, .Name n p2] X.env = (false, eval e X.env) :: starEach [.Name n p2] X.env := by rfl) (hs2 : starEach [.Name n p2] X.env = (false, eval (.Name n p2) X.env) :: starEach [] X.env := by rfl) (hp : (backTo pos (starEach [.Name n p2] X.env)).any (·.1) = false := by rfl) :
    EE (X.suite a ((a, oe) :: pn)) (W.exd d fs) ρ (.Call (.Name "isinstance" p) [e, .Name n p2] [] pos) (.bl b) :=
  ed_callB (call_isX CC hz hf) hg hm (by decide +kernel) (ad_cons ha (ad_cons (ed_gfn hm2 hg2 hd2) ad_nil hs2) hs) (fun vs H ok l Q q => by
    obtain ⟨v, v2, rfl, r, r2⟩ := l.two
    cases r; cases r2
    exact ⟨.ref C, .ref C, b, rfl, fun u h => h, hk, fun dd e => ⟨fs, (ok.2 dd e).2⟩, q _ _ H .refl ok rfl (.bl b)⟩) (by decide) (by decide) hs hp
end
end K14

set_option Elab.async false
set_option linter.all false
set_option maxRecDepth 100000
set_option maxHeartbeats 4000000
namespace K14
open PySem L2
section
open L2H
variable {X : Cx} {W : Res} {ρ : List (Option D)} {elt c a : Expr} {scope : Scope} {n : Str} {np p p2 pos : Pos}
theorem PIHimp {tg e : Expr} {wi wi' : TI} (h : PIH X tg e wi) (k : ∀ σ H R, wi' σ H R → wi σ H R) : PIH X tg e wi' := ⟨fun pins s σ H R I q => h.run pins s σ H R I (k σ H R q)⟩
theorem id_rangeH {tg : Expr} {k : Nat} (hm : X.mg "range" = none) (ha : EE X W ρ a (natD k)) (hk : k ≤ 100000) (hg : Gl X "range" := by rfl) (hs : starEach [a] X.env = [(false, eval a X.env)] := by rfl) :
    PIH X tg (.Call (.Name "range" p) [a] [] pos) (iD W ρ fun z => z = (List.range k).map natD) :=
  PIHimp (pi_range1H hg hm (ad_cons ha ad_nil hs) hs) fun σ H R ⟨ok, sl, q⟩ => ⟨ok, sl, fun ds vs H' e1 ok' hd r => by
    subst hd
    obtain ⟨v, rfl, r1⟩ := r.one
    cases r1
    refine ⟨(k : Int), rfl, by omega, by omega, q (Itr 0 (k : Int).toNat) H' [] _ rfl e1 ok' (fun p hp => by cases hp) ?_⟩
    have := walk_r (lo := 0) (n := (k : Int).toNat)
    rw [rngD_nat] at this
    exact this⟩
/-- [f k for name in range(m) if t k], while an exception is handled -/
theorem ed_filterH (m j : Nat) (t : Nat → Bool) (f : Nat → D) (hc : HotC X) (hN : X.N.Nodup) (hm : X.mg "range" = none) (ha : EE X W ρ a (natD m)) (hk : m ≤ 50000) (ok : BlkOk X.N X.env.scope scope [(n, j)])
    (hG : ∀ (s : Shared) (H : Hp) (C : Addr) (cl : List (Str × Addr)) (fp : List Addr), PG (X.blk s H scope (compEnvC scope cl C X.env) fp) (.Name n np) (gName j))
    (ht : ∀ k < m, ∀ (ys : List D) (L : Addr), ¬ W.m L → ∀ (s : Shared) (H : Hp) (C : Addr) (cl : List (Str × Addr)) (fp : List Addr), TB (X.blk s H scope (compEnvC scope cl C X.env) fp) (W.add L (ownL ys)) ((ρ.set j none).set j (some (natD k))) c (t k))
    (he : ∀ k < m, t k = true → ∀ (ys : List D) (L : Addr), ¬ W.m L → ∀ (s : Shared) (H : Hp) (C : Addr) (cl : List (Str × Addr)) (fp : List Addr), EE (X.blk s H scope (compEnvC scope cl C X.env) fp) (W.add L (ownL ys)) ((ρ.set j none).set j (some (natD k))) elt (f k))
    (hg : Gl X "range" := by rfl) (hs1 : starEach [a] X.env = [(false, eval a X.env)] := by rfl) (hs : ∀ x, foldedSetIterable (.Call (.Name "range" p) [a] [] p2) X.env x = pure x := by intro _; rfl) : EE X W ρ (.ListComp elt [⟨.Name n np, .Call (.Name "range" p) [a] [] p2, [c], 0⟩] scope pos) (.lst (((List.range m).filter t).map f)) := by
  refine ED.imp (ed_lcPG (t := .one j) (own := [(n, j)]) (Px := fun z => z = (List.range m).map natD) (inv := fun zs i ys => ys = (((List.range m).take i).filter t).map f) (pt := fun zs i b => b = t i) (pe := fun zs i d => d = f i) (fun h1 h2 => pe_lcH hc hN (id_rangeH hm ha (by omega) hg hs1) ok hG h1 h2 hs) (fun k hk => hk) (gt_name j) (fun z h => by rw [h, List.length_map, List.length_range]; exact hk) (fun _ _ => rfl) (fun z h i d hd' => ⟨_, rfl⟩)
    (fun z h i x ys L ρ' hx _ nL hp s H C cl fp => ?_) (fun z h i x ys L ρ' hx _ nL hp hb s H C cl fp => ?_) (fun z h i ys d hi hy hb hd => ?_) (fun z h i ys hi hy hb => ?_) (fun z i ys h hy => ?_)) fun z ⟨xs', ys, h1, h2, h3⟩ => ?_
  · subst h; obtain ⟨rfl, hi⟩ := rng_at hx; cases hp
    exact pts_one (ht i hi ys L nL s H C cl fp)
  · subst h; obtain ⟨rfl, hi⟩ := rng_at hx; cases hp
    exact he i hi hb.symm ys L nL s H C cl fp
  · subst h; rw [List.length_map, List.length_range] at hi
    have hx : (List.range m)[i]? = some i := by rw [List.getElem?_range hi]
    rw [take_succ_get hx, List.filter_append, List.map_append, hy, hd, List.filter_cons, if_pos hb.symm]; rfl
  · subst h; rw [List.length_map, List.length_range] at hi
    have hx : (List.range m)[i]? = some i := by rw [List.getElem?_range hi]
    rw [take_succ_get hx, List.filter_append, List.map_append, hy, List.filter_cons, if_neg (by rw [← hb]; decide)]; simp
  · rw [hy, List.length_map]; exact Nat.le_trans (List.length_filter_le _ _) (by rw [List.length_take]; omega)
  · rw [h2, h3, h1, List.length_map, List.length_range]
    have : (List.range m).take m = List.range m := List.take_of_length_le (by rw [List.length_range]; exact Nat.le_refl _)
    rw [this]
end
end K14

set_option Elab.async false
set_option linter.all false
set_option maxRecDepth 100000
set_option maxHeartbeats 4000000
namespace K14
open PySem L2
section
variable {X : Cx} {W : Res} {ρ : List (Option D)} {e o : Expr}
theorem ed_xfO {a C dd : Addr} {oe : Obj} {pn : List (Addr × Obj)} {i : Int} {fs : List (Str × V)} {f : Str} {pos : Pos} (T : XfC X.K C) (hno : PySem.W.findIn X.K (.ref C) f = some none) (hz : Zc (.ref C) (some dd) oe) (hf : ∃ vs, oe.data = .fields vs) (hl : fs.lookup f = some (.int i))
    (ha : EE (X.suite a ((a, oe) :: pn)) (W.exd (some dd) fs) ρ e (.obj a)) (hb : attributeBase e f X.env (eval e X.env) = eval e X.env := by rfl) : EE (X.suite a ((a, oe) :: pn)) (W.exd (some dd) fs) ρ (.Attribute e f pos) (.int i) :=
  PEimp (pe_xf T hno hz hf ha hb) fun σ H Q ⟨ok, sl, q⟩ => ⟨ok, sl, fun z v H1 e1 ok1 hz1 r1 => by
    subst hz1; cases r1
    exact ⟨rfl, rfl, dd, fs, .int i, rfl, (ok1.2 dd rfl).2, hl, q _ _ H1 e1 ok1 rfl (.int i)⟩⟩
theorem ed_join {sep : Str} {ys : List Str} {apos cpos : Pos} (hz : (ys.map (·.length)).sum + ys.length * sep.length ≤ 16777216) (ho : EE X W ρ o (.str sep)) (ha : EE X W ρ e (.lst (ys.map .str)))
    (hbase : attributeBase o "join" X.env (eval o X.env) = eval o X.env := by rfl)
    (hfew : ((backTo cpos (starEach [e] X.env)).all (fun x => !x.1) && (backToKw cpos (keywordEach [] X.env)).all (fun x => x.1.isSome) && decide (([e] : List Expr).length + ([] : List Keyword).length + (if ([] : List Keyword).isEmpty then 0 else 1) < 30)) = true := by rfl)
    (hline : (apos.endLine == cpos.line) = true := by rfl) (hs : starEach [e] X.env = (false, eval e X.env) :: starEach [] X.env := by rfl) : EE X W ρ (.Call (.Attribute o "join" apos) [e] [] cpos) (.str (Txt.join sep ys)) :=
  PEimp (pe_bm PySem.F.plainAttrs_str PySem.F.slot_str_join PySem.F.type_str_join mt_join ho (ad_cons ha ad_nil hs) hbase hfew hline hs) fun σ H Q ⟨ok, sl, q⟩ => ⟨ok, sl, fun z v H1 e1 ok1 hz1 r1 => by
    subst hz1; cases r1
    exact ⟨rfl, ok1, sl.ext e1, fun ds vs H2 e2 ok2 hd l => by
      subst hd
      obtain ⟨v, rfl, r⟩ := l.one
      obtain ⟨b, xs, rfl, n, e3, l3⟩ := id r.lstI
      have := l3.strs
      subst this
      exact ⟨sep, b, ys, rfl, rfl, .inl (.inl (.inl e3)), hz, q _ _ H2 (e1.trans e2) ok2 rfl (.str _)⟩⟩⟩
end
end K14

set_option Elab.async false
set_option linter.all false
set_option maxRecDepth 100000
set_option maxHeartbeats 4000000
namespace K14
open PySem L2
/-! ### tried -/
/-- what the classes say of one another -/
structure TryT (K : PySem.W.Frag) (mg : Str → Option Value) (CS0 CR CK CM : Addr) : Prop where
  g0 : mg "SeatError" = some (.ref CS0)
  cR : ExcC K CR
  cK : ExcC K CK
  cM : ExcC K CM
  xM : XfC K CM
  eR : PySem.W.exmOne K (.ref CR) (.ref CS0) = some true
  eK : PySem.W.exmOne K (.ref CK) (.ref CS0) = some true
  eM : PySem.W.exmOne K (.ref CM) (.ref CS0) = some true
  kRR : PySem.W.kitOne K (.ref CR) (.ref CR) = some true
  kRK : PySem.W.kitOne K (.ref CR) (.ref CK) = some false
  kRM : PySem.W.kitOne K (.ref CR) (.ref CM) = some false
  kKR : PySem.W.kitOne K (.ref CK) (.ref CR) = some false
  kKK : PySem.W.kitOne K (.ref CK) (.ref CK) = some true
  kKM : PySem.W.kitOne K (.ref CK) (.ref CM) = some false
  kMR : PySem.W.kitOne K (.ref CM) (.ref CR) = some false
  kMK : PySem.W.kitOne K (.ref CM) (.ref CK) = some false
  kMM : PySem.W.kitOne K (.ref CM) (.ref CM) = some true
def NoXd (W : Res) : Prop := ∀ H dd fs, W.ok H → H dd = some (.xd fs) → ¬ W.m dd
def TriedD (m : Str) (row : List Str) (thing : D) (d : D) : Prop :=
  (d = .str "told" ∧ ∃ prs es, AskOut m row thing prs es) ∨ (d = .str "row" ∧ rowB m row = false) ∨ (d = .str "known" ∧ rowB m row = true ∧ BadKnown row.length thing) ∨ (d = .str "many" ∧ rowB m row = true ∧ 5 < row.length ∧ ∃ prs es, Fine row.length thing prs es ∧ Loose row.length es)
def okTried (CS : Addr) (W : Res) (ds : List D) (Q : D → Prop) : Prop := ∃ (k : Nat) (m : Str) (ls : List (List Str)) (row : List Str) (thing : D), NoXd W ∧ ds = [natD k, seatD CS m ls, .tup (row.map .str), thing] ∧ k < 3 ∧ AskIn CS [seatD CS m ls, .tup (row.map .str), thing] m ls row thing ∧ NeAsk m row thing ∧ Q = TriedD m row thing
theorem hotC_suite {X : Cx} {a : Addr} {oe : Obj} {cls : Value} {d : Option Addr} {pn : List (Addr × Obj)} (hz : L2N.Zn cls d oe) (hf : ∃ vs, oe.data = .fields vs) : L2H.HotC (X.suite a ((a, oe) :: pn)) := by
  obtain ⟨vs, hv⟩ := hf
  exact ⟨(a, oe), ⟨rfl, vs, hv, hz.2.2 vs hv⟩, List.mem_cons_self⟩
def namesT : List Str := ["row", "known", "many"]
end K14

set_option Elab.async false
set_option linter.all false
set_option maxRecDepth 100000
set_option maxHeartbeats 4000000
namespace K14
open PySem L2
theorem ss_cases3 {X : Cx} {A1 A2 A3 Φ : L2.St → Hp → Prop} {sts : List Stmt} {E : Ends} (hp : ∀ σ H, Φ σ H → A1 σ H ∨ A2 σ H ∨ A3 σ H) (h1 : SS X A1 sts E) (h2 : SS X A2 sts E) (h3 : SS X A3 sts E) : SS X Φ sts E :=
  ⟨fun pins s σ H D I ⟨q, l⟩ => (hp σ H q).elim (fun q => h1.run pins s σ H D I ⟨q, l⟩) fun q => q.elim (fun q => h2.run pins s σ H D I ⟨q, l⟩) fun q => h3.run pins s σ H D I ⟨q, l⟩⟩
theorem ss_prop {X : Cx} {p : Prop} {A : L2.St → Hp → Prop} {sts : List Stmt} {E : Ends} (h : p → SS X A sts E) : SS X (fun σ H => p ∧ A σ H) sts E := ⟨fun pins s σ H D I ⟨q, l⟩ => (h q.1).run pins s σ H D I ⟨q.2, l⟩⟩
theorem at_exd {B : Bs} {W : Res} {Γ : List (V × D)} {ρ : List (Option D)} {σ : L2.St} {H : Hp} {d : Option Addr} {fs : List (Str × V)} (a : At B W Γ ρ σ H) (h : ∀ dd, d = some dd → ¬ W.m dd ∧ H dd = some (.xd fs)) : At B (W.exd d fs) Γ ρ σ H := ⟨a.ext, ⟨a.ok, h⟩, a.sl, a.gh, a.own⟩
theorem at_exd0 {B : Bs} {W : Res} {Γ : List (V × D)} {ρ : List (Option D)} {σ : L2.St} {H : Hp} {d : Option Addr} {fs : List (Str × V)} (a : At B (W.exd d fs) Γ ρ σ H) : At B W Γ ρ σ H := ⟨a.ext, a.ok.1, a.sl, a.gh, a.own⟩
section
variable {P : Program} {w : World} {K : PySem.W.Frag} {mg : Str → Option Value} {base : Heap} {f CR CK CM fM CA CS CS0 : Addr} {fd fdM : FuncData}
theorem ok64 (F : FnM K "_law_tried" "_law_tried" (top 64) f fd) (T : Tx mg) (TE : ExT K mg CR CK CM fM fdM) (TT : TryT K mg CS0 CR CK CM)
    (C1 : Cal P w K mg base (L2N.CX P w) 13 "asked_least" A36 (spG (okLeast CS CR CK CM))) (C2 : Cal P w K mg base (L2N.CX P w) 14 "tree" A37 (spG (okTreeF CS CR CK CM))) (C3 : Cal P w K mg base (L2N.CX P w) 63 "is_tree" A39 (spG (okIsTree CS CR CK CM))) :
    FnOk P w K mg base CX0 64 f fd A64 (spW (okTried CS)) := by
  refine fn_dataW F sc64 (fun W ds Q ⟨_, _, _, _, _, _, h, _⟩ => by rw [h]; rfl) fun cdv A outer s H E W ds Q B hr h => ?_
  obtain ⟨k, m, ls, row, thing, nx, rfl, hk, hin, hne, rfl⟩ := h
  refine ss_set 4 (d := .str "told") ed_str ?_ sc64.nd
  refine ss_tryAs (i := 5) (R := RAsk CR CK CM m row thing) (fun σ H => ∃ d, TriedD m row thing d ∧ At B W [] [some (natD k), some (seatD CS m ls), some (.tup (row.map .str)), some thing, some d, none, none, none] σ H) rfl rfl sc64.nd rfl rfl rfl (by decide) TT.g0 (fun c d H hR => ?_) (fun Wx pn xe tk hx => ?_) (fun a oe cls d pn hz hv => ?_) (SS.exP fun d hd => ss_retP2 (P := TriedD m row thing) (P' := fun z => z = d) (ed_var 4) (fun z hz => by rw [hz]; exact hd) .refl)
  · rcases hR with ⟨_, rfl, _⟩ | ⟨_, _, rfl, _⟩ | ⟨_, _, ⟨rfl, _⟩, _⟩
    · exact TT.eR
    · exact TT.eK
    · exact TT.eM
  · have done : ∀ (dd : D) (σ : L2.St) (H : Hp), (∃ prs es, AskOut m row thing prs es) → At B W [] [some (natD k), some (seatD CS m ls), some (.tup (row.map .str)), some thing, some (.str "told"), none, none, none] σ H → ∃ d, TriedD m row thing d ∧ At B W [] [some (natD k), some (seatD CS m ls), some (.tup (row.map .str)), some thing, some d, none, none, none] σ H := fun _ σ H h at_ => ⟨_, .inl ⟨rfl, h⟩, at_⟩
    refine ss_if (fun σ H => ∃ d, TriedD m row thing d ∧ At B W [] [some (natD k), some (seatD CS m ls), some (.tup (row.map .str)), some thing, some d, none, none, none] σ H) (tb_eqI (ed_var 0) ed_int) (fun h => ?_) (fun h => ?_) (ss_nil fun σ H h => h)
    · refine ss_exprGP (P1 := fun d => ∃ prs es, AskOut m row thing prs es ∧ d = .bl (dpt (flL ls row) row.length (ordsE row.length es) .non).isSome) (pe_callG C3 hr tk (ad_cons (ed_var 1) (ad_cons (ed_var 2) (ad_cons (ed_var 3) (ad_cons ed_non ad_nil)))) ⟨m, ls, row, thing, .non, [seatD CS m ls, .tup (row.map .str), thing], rfl, hin, hne, rfl, by simp [dep], by simp [wd], rfl, rfl⟩) (fun c d σ H at_ hR => hx c d σ H at_ hR) fun d ⟨prs, es, ho, _⟩ => ss_nil fun σ H at_ => done d σ H ⟨prs, es, ho⟩ at_
    · obtain ⟨f1, fd1, F1, g1, k1, b1⟩ := C1.ex
      obtain ⟨f2, fd2, F2, g2, k2, b2⟩ := C2.ex
      have hk2 : k = 0 ∨ k = 1 := by
        have : ¬ ((k : Int) = 2) := of_decide_eq_false h.symm
        omega
      rcases hk2 with rfl | rfl
      · exact ss_exprGP (pe_callGx F1 k1 b1 (hr.mono (by decide)) tk (ed_ixL (ds := [.obj f1, .obj f2]) (ed_lst (ad_cons (ed_gfn g1) (ad_cons (ed_gfn g2) ad_nil)) (Nat.le_of_ble_eq_true rfl)) (ed_var 0) (by decide) rfl) (ad_cons (ed_var 1) (ad_cons (ed_var 2) (ad_cons (ed_var 3) ad_nil))) ⟨m, ls, row, thing, hin, hne, rfl, rfl⟩) (fun c d σ H at_ hR => hx c d σ H at_ hR) fun d ⟨prs, es, ho, _⟩ => ss_nil fun σ H at_ => done d σ H ⟨prs, es, ho⟩ at_
      · exact ss_exprGP (pe_callGx F2 k2 b2 (hr.mono (by decide)) tk (ed_ixL (ds := [.obj f1, .obj f2]) (ed_lst (ad_cons (ed_gfn g1) (ad_cons (ed_gfn g2) ad_nil)) (Nat.le_of_ble_eq_true rfl)) (ed_var 0) (by decide) rfl) (ad_cons (ed_var 1) (ad_cons (ed_var 2) (ad_cons (ed_var 3) ad_nil))) ⟨m, ls, row, thing, hin, hne, rfl, rfl⟩) (fun c d σ H at_ hR => hx c d σ H at_ hR) fun d ⟨prs, es, ho, _⟩ => ss_nil fun σ H at_ => done d σ H ⟨prs, es, ho⟩ at_
  · have hzc := hz.zc
    have leave : ∀ {fs : List (Str × V)} {t : Str} {x : D} {σ : L2.St} {H : Hp}, TriedD m row thing (.str t) → At B (W.exd d fs) [] [some (natD k), some (seatD CS m ls), some (.tup (row.map .str)), some thing, some (.str t), some (.obj a), some x, none] σ H → ∃ d, TriedD m row thing d ∧ At B W [] [some (natD k), some (seatD CS m ls), some (.tup (row.map .str)), some thing, some d, none, none, none] (σ.set 5 none) H := fun {fs t x σ H} h at_ =>
      have a0 := at_exd0 at_
      have a1 : At B W [] [some (natD k), some (seatD CS m ls), some (.tup (row.map .str)), some thing, some (.str t), none, some x, none] (σ.set 5 none) H := ⟨a0.ext, a0.ok, a0.sl.wiped [5], a0.gh, a0.own⟩
      ⟨_, h, a1.forget (by repeat (first | exact Wk.nil | refine Wk.keep ?_ | refine Wk.drop ?_))⟩
    refine ss_cases3 (A1 := fun σ H => (rowB m row = false ∧ cls = .ref CR ∧ d = none) ∧ At B (W.exd d []) [] [some (natD k), some (seatD CS m ls), some (.tup (row.map .str)), some thing, some (.str "told"), some (.obj a), none, none] σ H)
      (A2 := fun σ H => (rowB m row = true ∧ BadKnown row.length thing ∧ cls = .ref CK ∧ d = none) ∧ At B (W.exd d []) [] [some (natD k), some (seatD CS m ls), some (.tup (row.map .str)), some thing, some (.str "told"), some (.obj a), none, none] σ H)
      (A3 := fun σ H => (rowB m row = true ∧ 5 < row.length ∧ (cls = .ref CM ∧ ∃ dd, d = some dd) ∧ ∃ prs es, Fine row.length thing prs es ∧ Loose row.length es) ∧ At B (W.exd d [(("most" : Str), .int 5)]) [] [some (natD k), some (seatD CS m ls), some (.tup (row.map .str)), some thing, some (.str "told"), some (.obj a), none, none] σ H)
      (fun σ H ⟨at_, hR⟩ => ?_) (ss_prop fun ⟨h1, h2, h3⟩ => ?_) (ss_prop fun ⟨h1, hb, h2, h3⟩ => ?_) (ss_prop fun ⟨h1, hl, ⟨h2, dd, h3⟩, hfl⟩ => ?_)
    · rcases hR with ⟨h1, h2, h3⟩ | ⟨h1, hb, h2, h3⟩ | ⟨h1, hl, ⟨h2, dd, h3, h4⟩, hf⟩
      · exact .inl ⟨⟨h1, h2, h3⟩, at_exd at_ fun dd e => by rw [h3] at e; cases e⟩
      · exact .inr (.inl ⟨⟨h1, hb, h2, h3⟩, at_exd at_ fun dd e => by rw [h3] at e; cases e⟩)
      · exact .inr (.inr ⟨⟨h1, hl, ⟨h2, dd, h3⟩, hf⟩, at_exd at_ fun dd' e => by rw [h3] at e; cases e; exact ⟨nx H dd _ at_.ok h4, h4⟩⟩)
    · subst h2
      refine ss_set 6 (d := .lst [.bl true, .bl false, .bl false]) (ed_lst (ad_cons (ed_isX TT.cR hzc hv T.isinst TE.gR TT.kRR (ed_var 5)) (ad_cons (ed_isX TT.cR hzc hv T.isinst TE.gK TT.kRK (ed_var 5)) (ad_cons (ed_and0 (ed_isX TT.cR hzc hv T.isinst TE.gM TT.kRM (ed_var 5))) ad_nil))) (Nat.le_of_ble_eq_true rfl)) ?_ sc64.nd
      refine ss_set 4 (d := .str "row") (EE.is (ed_join (sep := " ") (ys := ["row"]) (by decide) ed_str (EE.is (ed_filterH 3 7 (fun k => [true, false, false].getD k false) (fun k => .str (namesT.getD k "")) (hotC_suite hz hv) sc64.nd T.range ed_int (by decide) (blkOk_by (N := N64) (sc := defScope (top 64)) (by decide +kernel)) (fun _ _ _ _ _ => pg_name sc64.nd rfl (Or.inl rfl))
        (fun k hk ys L nL s H C cl fp => ?_) (fun k hk _ ys L nL s H C cl fp => ?_)) rfl)) rfl) (ss_nil fun σ H at_ => leave (.inr (.inl ⟨rfl, h1⟩)) at_) sc64.nd
      · exact tb_val (ed_ixL (ed_var 6) (ed_var 7) (Int.natCast_nonneg k) (by match k, hk with | 0, _ => rfl | 1, _ => rfl | 2, _ => rfl))
      · exact ed_ixL (ds := [.str "row", .str "known", .str "many"]) (ed_lst (ad_cons ed_str (ad_cons ed_str (ad_cons ed_str ad_nil))) (Nat.le_of_ble_eq_true rfl)) (ed_var 7) (Int.natCast_nonneg k) (by match k, hk with | 0, _ => rfl | 1, _ => rfl | 2, _ => rfl)
    · subst h2
      refine ss_set 6 (d := .lst [.bl false, .bl true, .bl false]) (ed_lst (ad_cons (ed_isX TT.cK hzc hv T.isinst TE.gR TT.kKR (ed_var 5)) (ad_cons (ed_isX TT.cK hzc hv T.isinst TE.gK TT.kKK (ed_var 5)) (ad_cons (ed_and0 (ed_isX TT.cK hzc hv T.isinst TE.gM TT.kKM (ed_var 5))) ad_nil))) (Nat.le_of_ble_eq_true rfl)) ?_ sc64.nd
      refine ss_set 4 (d := .str "known") (EE.is (ed_join (sep := " ") (ys := ["known"]) (by decide) ed_str (EE.is (ed_filterH 3 7 (fun k => [false, true, false].getD k false) (fun k => .str (namesT.getD k "")) (hotC_suite hz hv) sc64.nd T.range ed_int (by decide) (blkOk_by (N := N64) (sc := defScope (top 64)) (by decide +kernel)) (fun _ _ _ _ _ => pg_name sc64.nd rfl (Or.inl rfl))
        (fun k hk ys L nL s H C cl fp => ?_) (fun k hk _ ys L nL s H C cl fp => ?_)) rfl)) rfl) (ss_nil fun σ H at_ => leave (.inr (.inr (.inl ⟨rfl, h1, hb⟩))) at_) sc64.nd
      · exact tb_val (ed_ixL (ed_var 6) (ed_var 7) (Int.natCast_nonneg k) (by match k, hk with | 0, _ => rfl | 1, _ => rfl | 2, _ => rfl))
      · exact ed_ixL (ds := [.str "row", .str "known", .str "many"]) (ed_lst (ad_cons ed_str (ad_cons ed_str (ad_cons ed_str ad_nil))) (Nat.le_of_ble_eq_true rfl)) (ed_var 7) (Int.natCast_nonneg k) (by match k, hk with | 0, _ => rfl | 1, _ => rfl | 2, _ => rfl)
    · subst h2 h3
      refine ss_set 6 (d := .lst [.bl false, .bl false, .bl true]) (ed_lst (ad_cons (ed_isX TT.cM hzc hv T.isinst TE.gR TT.kMR (ed_var 5)) (ad_cons (ed_isX TT.cM hzc hv T.isinst TE.gK TT.kMK (ed_var 5)) (ad_cons (EE.is (ed_and (u := true) (w := true) (ed_isX TT.cM hzc hv T.isinst TE.gM TT.kMM (ed_var 5)) fun _ => ed_one (EE.is (ed_eqI (ed_xfO (i := 5) TT.xM TE.nM hzc hv rfl (ed_var 5)) ed_int) rfl)) rfl) ad_nil))) (Nat.le_of_ble_eq_true rfl)) ?_ sc64.nd
      refine ss_set 4 (d := .str "many") (EE.is (ed_join (sep := " ") (ys := ["many"]) (by decide) ed_str (EE.is (ed_filterH 3 7 (fun k => [false, false, true].getD k false) (fun k => .str (namesT.getD k "")) (hotC_suite hz hv) sc64.nd T.range ed_int (by decide) (blkOk_by (N := N64) (sc := defScope (top 64)) (by decide +kernel)) (fun _ _ _ _ _ => pg_name sc64.nd rfl (Or.inl rfl))
        (fun k hk ys L nL s H C cl fp => ?_) (fun k hk _ ys L nL s H C cl fp => ?_)) rfl)) rfl) (ss_nil fun σ H at_ => leave (.inr (.inr (.inr ⟨rfl, h1, hl, hfl⟩))) at_) sc64.nd
      · exact tb_val (ed_ixL (ed_var 6) (ed_var 7) (Int.natCast_nonneg k) (by match k, hk with | 0, _ => rfl | 1, _ => rfl | 2, _ => rfl))
      · exact ed_ixL (ds := [.str "row", .str "known", .str "many"]) (ed_lst (ad_cons ed_str (ad_cons ed_str (ad_cons ed_str ad_nil))) (Nat.le_of_ble_eq_true rfl)) (ed_var 7) (Int.natCast_nonneg k) (by match k, hk with | 0, _ => rfl | 1, _ => rfl | 2, _ => rfl)
end
end K14

set_option Elab.async false
set_option linter.all false
set_option maxRecDepth 100000
set_option maxHeartbeats 4000000
namespace K14
open PySem L2
/-! ### known pairs that are refused, plain -/
def NoFine (n : Nat) (thing : D) : Prop := ∀ prs es, Fine n thing prs es → ¬ Loose n es
theorem prs_mem {prs : List (Nat × Nat)} {ds : List D} {d : D} (e : D.tup ds = .tup (prsD prs)) (h : d ∈ ds) : ∃ p ∈ prs, d = .tup [natD p.1, natD p.2] := by
  injection e with e
  subst e
  obtain ⟨p, hp, rfl⟩ := List.mem_map.mp h
  exact ⟨p, hp, rfl⟩
theorem pair_inj {i j : Int} {p : Nat × Nat} (h : D.tup [.int i, .int j] = .tup [natD p.1, natD p.2]) : i = p.1 ∧ j = p.2 := by
  unfold natD at h
  simp only [D.tup.injEq, List.cons.injEq, D.int.injEq, and_true] at h
  exact h
theorem no1 {n : Nat} : NoFine n (.tup [.tup [.int 0, .int (n : Int)]]) := fun prs es f _ => by
  obtain ⟨p, hp, e⟩ := prs_mem f.eq List.mem_cons_self
  have h1 := pair_inj e
  have h2 := f.bnd p hp
  omega
theorem no2 {n : Nat} : NoFine n (.tup [.tup [.int (-1), .int 0]]) := fun prs es f _ => by
  obtain ⟨p, hp, e⟩ := prs_mem f.eq List.mem_cons_self
  have h1 := pair_inj e
  omega
theorem no3 {n : Nat} {l : List D} : NoFine n (.lst l) := fun prs es f _ => by cases f.eq
theorem no4 {n : Nat} {a b c : D} : NoFine n (.tup [.tup [a, b, c]]) := fun prs es f _ => by
  obtain ⟨p, hp, e⟩ := prs_mem f.eq List.mem_cons_self
  simp at e
theorem no5 {n : Nat} {b : Bool} {c : D} : NoFine n (.tup [.tup [.bl b, c]]) := fun prs es f _ => by
  obtain ⟨p, hp, e⟩ := prs_mem f.eq List.mem_cons_self
  unfold natD at e
  simp at e
theorem no7 {n : Nat} : NoFine n .non := fun prs es f _ => by cases f.eq
theorem int_inj {a b : Nat} {p : Nat × Nat} (h : D.tup [natD a, natD b] = .tup [natD p.1, natD p.2]) : (a, b) = p := by
  unfold natD at h
  simp only [D.tup.injEq, List.cons.injEq, D.int.injEq, and_true] at h
  exact Prod.ext (by have := h.1; omega) (by have := h.2; omega)
theorem no_cyc {n a b : Nat} {ds : List D} (h1 : D.tup [natD a, natD b] ∈ ds) (h2 : D.tup [natD b, natD a] ∈ ds) : NoFine n (.tup ds) := fun prs es f l => by
  obtain ⟨p, hp, e⟩ := prs_mem f.eq h1
  obtain ⟨q, hq, e2⟩ := prs_mem f.eq h2
  have i1 := int_inj e
  have i2 := int_inj e2
  subst i1 i2
  have := f.step a b a hp hq
  rw [l a (f.bnd _ hp).1] at this
  cases this
theorem tried_known {m : Str} {row : List Str} {thing d : D} (hr : rowB m row = true) (nf : NoFine row.length thing) (h : TriedD m row thing d) : d = .str "known" := by
  rcases h with ⟨_, prs, es, ho⟩ | ⟨_, h⟩ | ⟨h, _⟩ | ⟨_, _, _, prs, es, f, l⟩
  · exact absurd ho.loose (nf _ _ ho.fine)
  · rw [hr] at h; cases h
  · exact h
  · exact absurd l (nf _ _ f)
theorem ne_nofine {m : Str} {row : List Str} {thing : D} (nf : NoFine row.length thing) : NeAsk m row thing := fun prs es ho => absurd ho.loose (nf _ _ ho.fine)
theorem tried_row {m : Str} {row : List Str} {thing d : D} (hr : rowB m row = false) (h : TriedD m row thing d) : d = .str "row" := by
  rcases h with ⟨_, prs, es, ho⟩ | ⟨h, _⟩ | ⟨_, h, _⟩ | ⟨_, h, _⟩
  · rw [ho.rowOk] at hr; cases hr
  · exact h
  · rw [hr] at h; cases h
  · rw [hr] at h; cases h
theorem ne_row {m : Str} {row : List Str} {thing : D} (hr : rowB m row = false) : NeAsk m row thing := fun prs es ho => by
  have := ho.rowOk
  rw [hr] at this; cases this
/-- pairs that some order obeys -/
def KnownOk (n : Nat) (prs : List (Nat × Nat)) : Prop := (∀ p ∈ prs, p.1 < n ∧ p.2 < n) ∧ ∃ o : List Nat, o.Perm (List.range n) ∧ ∀ p ∈ prs, o.idxOf p.1 < o.idxOf p.2
theorem prsD_inj : ∀ {a b : List (Nat × Nat)}, prsD a = prsD b → a = b
  | [], [], _ => rfl
  | [], _ :: _, h => by cases h
  | _ :: _, [], h => by cases h
  | p :: a, q :: b, h => by
    unfold prsD at h
    rw [List.map_cons, List.map_cons] at h
    injection h with h1 h2
    have e := int_inj h1
    rw [prsD_inj h2, ← e]
theorem KnownOk.loose {n : Nat} {prs prs' : List (Nat × Nat)} {es : List (NestedKey × D)} (h : KnownOk n prs) (f : Fine n (.tup (prsD prs)) prs' es) : Loose n es := fun c hc => by
  have e : prs = prs' := prsD_inj (by injection f.eq)
  subst e
  obtain ⟨_, o, _, ho⟩ := h
  cases q : cOf es c c with
  | false => rfl
  | true => exact absurd (f.clo.keeps ho c c q) (Nat.lt_irrefl _)
theorem KnownOk.ne {n : Nat} {prs prs' : List (Nat × Nat)} {es : List (NestedKey × D)} (h : KnownOk n prs) (f : Fine n (.tup (prsD prs)) prs' es) : ordsE n es ≠ [] := by
  have e : prs = prs' := prsD_inj (by injection f.eq)
  subst e
  obtain ⟨_, o, po, ho⟩ := h
  have : o ∈ ordsE n es := f.clo.same.mpr (mem_ordL.mpr ⟨po, ho⟩)
  exact List.ne_nil_of_mem this
theorem KnownOk.known {n : Nat} {prs : List (Nat × Nat)} (h : KnownOk n prs) : knownB n (.tup (prsD prs)) = true := by
  unfold knownB prsD
  rw [Bool.and_eq_true, List.all_map, List.all_map]
  refine ⟨List.all_eq_true.mpr fun p _ => rfl, List.all_eq_true.mpr fun p hp => ?_⟩
  have := h.1 p hp
  show (withinD (natD p.1) 0 ((n : Int) - 1) && withinD (natD p.2) 0 ((n : Int) - 1)) = true
  unfold natD withinD
  rw [Bool.and_eq_true, Bool.and_eq_true, Bool.and_eq_true]
  exact ⟨⟨decide_eq_true (by omega), decide_eq_true (by omega)⟩, decide_eq_true (by omega), decide_eq_true (by omega)⟩
theorem KnownOk.nil {n : Nat} : KnownOk n [] := ⟨fun p h => (by cases h), List.range n, List.Perm.refl _, fun p h => (by cases h)⟩
theorem tried_told {m : Str} {row : List Str} {prs : List (Nat × Nat)} {d : D} (hr : rowB m row = true) (h5 : row.length ≤ 5) (hk : KnownOk row.length prs) (h : TriedD m row (.tup (prsD prs)) d) : d = .str "told" := by
  rcases h with ⟨h, _⟩ | ⟨_, h⟩ | ⟨_, _, hb⟩ | ⟨_, _, h, _⟩
  · exact h
  · rw [hr] at h; cases h
  · rcases hb with hb | ⟨prs', es, f, nl⟩
    · rw [hk.known] at hb; cases hb
    · exact absurd (hk.loose f) nl
  · omega
theorem tried_many {m : Str} {row : List Str} {d : D} (hr : rowB m row = true) (h5 : 5 < row.length) (h : TriedD m row (.tup []) d) : d = .str "many" := by
  rcases h with ⟨_, prs, es, ho⟩ | ⟨_, h⟩ | ⟨_, _, hb⟩ | ⟨h, _⟩
  · have := ho.few; omega
  · rw [hr] at h; cases h
  · rcases hb with hb | ⟨prs', es, f, nl⟩
    · have := (KnownOk.nil (n := row.length)).known
      unfold prsD at this
      rw [List.map_nil] at this
      rw [this] at hb; cases hb
    · exact absurd ((KnownOk.nil (n := row.length)).loose (prs' := prs') f) nl
  · exact h
theorem ne_many {m : Str} {row : List Str} {thing : D} (h5 : 5 < row.length) : NeAsk m row thing := fun prs es ho => by
  have := ho.few; omega
theorem ne_known {m : Str} {row : List Str} {prs : List (Nat × Nat)} (hk : KnownOk row.length prs) : NeAsk m row (.tup (prsD prs)) := fun prs' es ho => hk.ne ho.fine
theorem row_tilde {m : Str} (h : m ∈ theMarks) : rowB m ["~"] = false := by
  unfold theMarks at h
  simp only [List.mem_cons, List.not_mem_nil, or_false] at h
  rcases h with rfl | rfl | rfl | rfl <;> decide +kernel
theorem row_ok {m : Str} {ks row : List Str} (e : Every m ks) (h : ∀ z ∈ row, z ∈ ks) : rowB m row = true := by
  unfold rowB
  rw [List.all_map]
  exact List.all_eq_true.mpr fun z hz => (e.kind z (h z hz)).1
end K14

set_option Elab.async false
set_option linter.all false
set_option maxRecDepth 100000
set_option maxHeartbeats 4000000
namespace K14
open PySem L2
theorem RpL.rep {M : Ms} {H : Hp} {xs : List V} {ds : List D} (l : RpL M H xs ds) : ∀ n : Nat, RpL M H (List.replicate n xs).flatten (List.replicate n ds).flatten
  | 0 => .nil
  | n + 1 => by
    rw [List.replicate_succ, List.replicate_succ, List.flatten_cons, List.flatten_cons]
    exact l.append (RpL.rep l n)
section
variable {X : Cx} {W : Res} {ρ : List (Option D)} {a b : Expr} {pos : Pos}
theorem ed_repT {ds : List D} {k : Int} (ha : EE X W ρ a (.tup ds)) (hb : EE X W ρ b (.int k)) (hne : ds ≠ []) (h1 : 2 ≤ k) (h2 : k ≤ 1000) (hl : ds.length ≤ 1000) : EE X W ρ (.BinOp a .Mult b pos) (.tup (List.replicate k.toNat ds).flatten) :=
  ed_op op_repT ha hb (fun v1 v2 H ok r1 r2 Q q => by
    obtain ⟨l, xs, rfl, n, e, l2⟩ := r1.tupI
    cases r2
    exact ⟨l, k, xs, rfl, rfl, .inl (.inl e), fun z => hne (l2.nil_iff.mp z), h1, h2, by rw [l2.length]; exact hl, fun p hp => q _ _ _ (.new hp) (W.new ok hp) rfl (.tup (W.fresh ok hp) upd_same ((l2.rep k.toNat).ext (.new hp)))⟩)
end
theorem fit_prs {prs : List (Nat × Nat)} {x : D} (h : x ∈ prsD prs) : kn x = true ∧ ∀ ys, x = .tup ys → ∀ y ∈ ys, kn y = true := by
  unfold prsD at h
  obtain ⟨p, _, rfl⟩ := List.mem_map.mp h
  refine ⟨rfl, fun ys e y hy => ?_⟩
  cases e
  simp only [List.mem_cons, List.not_mem_nil, or_false] at hy
  rcases hy with rfl | rfl <;> rfl
theorem prsD_len (prs : List (Nat × Nat)) : (prsD prs).length = prs.length := by unfold prsD; rw [List.length_map]
theorem fit_prsD {prs : List (Nat × Nat)} (h : prs.length ≤ 200) : Fit (.tup (prsD prs)) := ⟨rfl, fun ds e => by
  cases e
  exact ⟨by rw [prsD_len]; exact h, fun x hx => fit_prs hx⟩⟩
theorem fit_flat {d : D} (hk : kn d = true) (h : isTup d = false) : Fit d := ⟨hk, fun ds e => by subst e; cases h⟩
theorem fit_pair {ds : List D} (h : ∀ x ∈ ds, kn x = true) : Fit (.tup [.tup ds]) := ⟨rfl, fun es e => by
  cases e
  refine ⟨Nat.le_of_ble_eq_true rfl, fun x hx => ?_⟩
  rw [List.mem_singleton.mp hx]
  exact ⟨rfl, fun ys e => by cases e; exact h⟩⟩
/-- the pairs that are refused -/
def badsL (n : Nat) (prs : List (Nat × Nat)) : List D := [.tup [.tup [.int 0, .int (n : Int)]], .tup [.tup [.int (-1), .int 0]], .lst [], .tup [.tup [.int 0, .int 1, .int 2]], .tup [.tup [.bl true, .int 1]], .tup (prsD prs ++ [.tup [.int 0, .int 0]]), .non]
theorem kn_all2 {a b : D} (ha : kn a = true) (hb : kn b = true) : ∀ x ∈ [a, b], kn x = true := by
  intro x hx
  simp only [List.mem_cons, List.not_mem_nil, or_false] at hx
  rcases hx with rfl | rfl
  · exact ha
  · exact hb
theorem bads_no {n : Nat} {prs : List (Nat × Nat)} (h : prs.length ≤ 100) : ∀ x ∈ badsL n prs, Fit x ∧ NoFine n x := by
  intro x hx
  unfold badsL at hx
  simp only [List.mem_cons, List.not_mem_nil, or_false] at hx
  rcases hx with rfl | rfl | rfl | rfl | rfl | rfl | rfl
  · exact ⟨fit_pair (kn_all2 rfl rfl), no1⟩
  · exact ⟨fit_pair (kn_all2 rfl rfl), no2⟩
  · exact ⟨fit_flat rfl rfl, no3⟩
  · refine ⟨fit_pair fun x hx => ?_, no4⟩
    simp only [List.mem_cons, List.not_mem_nil, or_false] at hx
    rcases hx with rfl | rfl | rfl <;> rfl
  · exact ⟨fit_pair (kn_all2 rfl rfl), no5⟩
  · refine ⟨⟨rfl, fun ds e => ?_⟩, no_cyc (a := 0) (b := 0) (List.mem_append_right _ (List.mem_singleton.mpr rfl)) (List.mem_append_right _ (List.mem_singleton.mpr rfl))⟩
    cases e
    refine ⟨by rw [List.length_append, prsD_len, List.length_singleton]; omega, fun x hx => ?_⟩
    rcases List.mem_append.mp hx with hx | hx
    · exact fit_prs hx
    · rw [List.mem_singleton.mp hx]
      exact ⟨rfl, fun ys e => by cases e; exact kn_all2 rfl rfl⟩
  · exact ⟨fit_flat rfl rfl, no7⟩
section
variable {P : Program} {w : World} {K : PySem.W.Frag} {mg : Str → Option Value} {base : Heap} {f CS : Addr} {fd : FuncData}
structure RefIn (CS : Addr) (W : Res) (ds : List D) (m : Str) (ls : List (List Str)) (row ks : List Str) (prs : List (Nat × Nat)) : Prop where
  nx : NoXd W
  eq : ds = [seatD CS m ls, .tup (row.map .str), .lst (ks.map .str), .tup (prsD prs)]
  mrk : m ∈ theMarks
  ev : Every m ks
  inn : ∀ z ∈ row, z ∈ ks
  len : row.length ≤ 5
  lots : ls.length ≤ 1000
  few : prs.length ≤ 100
  kn : KnownOk row.length prs
def okRef (CS : Addr) (W : Res) (ds : List D) (Q : D → Prop) : Prop := ∃ (m : Str) (ls : List (List Str)) (row ks : List Str) (prs : List (Nat × Nat)), RefIn CS W ds m ls row ks prs ∧ Q = fun d => d = .bl true
theorem ok65 (F : FnM K "_law_refuses" "_law_refuses" (top 65) f fd) (T : Tx mg) (C : Cal P w K mg base CX0 64 "_law_tried" A64 (spW (okTried CS))) : FnOk P w K mg base CX0 65 f fd A65 (spW (okRef CS)) := by
  refine fn_dataW F sc65 (fun W ds Q ⟨_, _, _, _, _, h, _⟩ => by rw [h.eq]; rfl) fun cdv A outer s H E W ds Q B hr h => ?_
  obtain ⟨m, ls, row, ks, prs, ⟨nx, rfl, hm, ev, hrow, hlen, hls, hfew, hkn⟩, rfl⟩ := h
  obtain ⟨k0, ks', rfl⟩ : ∃ k0 ks', ks = k0 :: ks' := by
    cases ks with
    | nil => exact absurd rfl ev.ne
    | cons k ks => exact ⟨k, ks, rfl⟩
  have rowT : rowB m row = true := row_ok ev hrow
  have longT : rowB m (List.replicate 6 k0) = true := row_ok ev fun z hz => by rw [List.eq_of_mem_replicate hz]; exact List.mem_cons_self
  have short : ∀ z ∈ row, z.length ≤ 1000 := fun z hz => (ev.kind z (hrow z hz)).2.1
  have shortL : ∀ z ∈ List.replicate 6 k0, z.length ≤ 1000 := fun z hz => by rw [List.eq_of_mem_replicate hz]; exact (ev.kind k0 List.mem_cons_self).2.1
  have shortT : ∀ z ∈ [("~" : Str)], z.length ≤ 1000 := fun z hz => by rw [List.mem_singleton.mp hz]; decide
  refine ss_set 4 (d := .tup ((List.replicate 6 k0).map .str)) (EE.is (ed_repT (ds := [.str k0]) (k := 6) (ed_tup (ad_cons (ed_ixL (d := .str k0) (ed_var 2) ed_int (by decide) rfl) ad_nil) (Nat.le_of_ble_eq_true rfl)) ed_int (by intro h; cases h) (by decide) (by decide) (Nat.le_of_ble_eq_true rfl)) rfl) ?_ sc65.nd
  refine ss_for (α := Unit) (fun _ _ _ => True) (fun _ => W) (fun _ => [some (seatD CS m ls), some (.tup (row.map .str)), some (.lst ((k0 :: ks').map .str)), some (.tup (prsD prs)), some (.tup ((List.replicate 6 k0).map .str)), none, none]) () rfl rfl
    (fun σ H => ∃ _ : Unit, True ∧ At B W [] [some (seatD CS m ls), some (.tup (row.map .str)), some (.lst ((k0 :: ks').map .str)), some (.tup (prsD prs)), some (.tup ((List.replicate 6 k0).map .str)), none, none] σ H) PassesOwn.never rfl
    (id_range1 T.range ed_int (by decide)) (gd_name 5 sc65.nd) (fun xs _ => trivial) (fun xs k a _ _ d _ => ⟨_, rfl⟩) (fun xs hx Γ1 k x a ρ' hxk _ hpt => ?_) (fun xs hx a σ H _ at_ => ⟨(), trivial, at_⟩)
    (SS.exP fun _ _ => ss_ret (d := .bl true) ed_bl rfl rfl)
  cases hpt
  obtain ⟨j, hj, rfl⟩ : ∃ j, j < 3 ∧ x = natD j := by
    subst hx
    have hk : k < 3 := by
      have := (List.getElem?_eq_some_iff.mp hxk).1
      exact this
    match k, hk with
    | 0, _ => exact ⟨0, by decide, by cases hxk; rfl⟩
    | 1, _ => exact ⟨1, by decide, by cases hxk; rfl⟩
    | 2, _ => exact ⟨2, by decide, by cases hxk; rfl⟩
  refine ss_for (α := Unit) (fun _ _ _ => True) (fun _ => W) (fun _ => [some (seatD CS m ls), some (.tup (row.map .str)), some (.lst ((k0 :: ks').map .str)), some (.tup (prsD prs)), some (.tup ((List.replicate 6 k0).map .str)), some (natD j), none]) () rfl rfl
    (fun σ H => ∃ _ : Unit, True ∧ At B W Γ1 [some (seatD CS m ls), some (.tup (row.map .str)), some (.lst ((k0 :: ks').map .str)), some (.tup (prsD prs)), some (.tup ((List.replicate 6 k0).map .str)), some (natD j), none] σ H) PassesOwn.never rfl
    (id_lst (ds := badsL row.length prs) (ed_lst (ad_cons (ed_tup (ad_cons (ed_tup (ad_cons ed_int (ad_cons (EE.is (ed_lenT T.len (ed_var 1)) (by rw [List.length_map])) ad_nil)) (Nat.le_of_ble_eq_true rfl)) ad_nil) (Nat.le_of_ble_eq_true rfl))
      (ad_cons (ed_tup (ad_cons (ed_tup (ad_cons (EE.is (ed_neg ed_int) rfl) (ad_cons ed_int ad_nil)) (Nat.le_of_ble_eq_true rfl)) ad_nil) (Nat.le_of_ble_eq_true rfl))
      (ad_cons (ed_lst ad_nil)
      (ad_cons (ed_tup (ad_cons (ed_tup (ad_cons ed_int (ad_cons ed_int (ad_cons ed_int ad_nil))) (Nat.le_of_ble_eq_true rfl)) ad_nil) (Nat.le_of_ble_eq_true rfl))
      (ad_cons (ed_tup (ad_cons (ed_tup (ad_cons ed_bl (ad_cons ed_int ad_nil)) (Nat.le_of_ble_eq_true rfl)) ad_nil) (Nat.le_of_ble_eq_true rfl))
      (ad_cons (ed_catT (ed_var 3) (ed_tup (ad_cons (ed_tup (ad_cons ed_int (ad_cons ed_int ad_nil)) (Nat.le_of_ble_eq_true rfl)) ad_nil) (Nat.le_of_ble_eq_true rfl)) (by rw [prsD_len, List.length_singleton]; omega))
      (ad_cons ed_non ad_nil))))))) (Nat.le_of_ble_eq_true rfl))) (gd_name 6 sc65.nd) (fun xs _ => trivial) (fun xs k a _ _ d _ => ⟨_, rfl⟩) (fun xs hx2 Γ2 k2 x a ρ' hxk2 _ hpt => ?_) (fun xs hx a σ H _ at_ => ⟨(), trivial, at_⟩)
    (SS.exP fun _ _ => ?_)
  · cases hpt
    subst hx2
    obtain ⟨hfit, hno⟩ := bads_no (n := row.length) hfew x (List.mem_of_getElem? hxk2)
    refine ss_skip (tb_neS (i := "known") (ED.imp (ed_calW C hr (E := fun _ _ _ => False) pass0 (ad_cons (ed_var 5) (ad_cons (ed_var 0) (ad_cons (ed_var 1) (ad_cons (ed_var 6) ad_nil)))) ⟨j, m, ls, row, x, nx, rfl, hj, ⟨rfl, by omega, short, hls, hfit⟩, ne_nofine hno, rfl⟩) fun z hz => tried_known rowT hno hz) ed_str) rfl ?_
    exact ss_nil fun σ H at_ => ⟨(), trivial, at_.forget (by repeat (first | exact Wk.nil | refine Wk.keep ?_ | refine Wk.drop ?_))⟩
  · refine ss_skip (u := false || false) (WB.tb (wb_or (tb_neS (i := "row") (ED.imp (ed_calW C hr (E := fun _ _ _ => False) pass0 (ad_cons (ed_var 5) (ad_cons (ed_var 0) (ad_cons (ed_tup (ad_cons ed_str ad_nil) (Nat.le_of_ble_eq_true rfl)) (ad_cons ed_non ad_nil)))) ⟨j, m, ls, ["~"], .non, nx, rfl, hj, ⟨rfl, by decide, shortT, hls, fit_flat rfl rfl⟩, ne_row (row_tilde hm), rfl⟩) fun z hz => tried_row (row_tilde hm) hz) ed_str)
      fun _ => wb_or1 (tb_neS (i := "many") (ED.imp (ed_calW C hr (E := fun _ _ _ => False) pass0 (ad_cons (ed_var 5) (ad_cons (ed_var 0) (ad_cons (ed_var 4) (ad_cons (ed_tup ad_nil (Nat.le_of_ble_eq_true rfl)) ad_nil)))) ⟨j, m, ls, List.replicate 6 k0, .tup [], nx, rfl, hj, ⟨rfl, Nat.le_of_ble_eq_true rfl, shortL, hls, fit_prsD (prs := []) (by decide)⟩, ne_many (Nat.le_of_ble_eq_true rfl), rfl⟩) fun z hz => tried_many longT (Nat.le_of_ble_eq_true rfl) hz) ed_str))) rfl ?_
    have nc : NoFine (List.replicate 6 k0).length (.tup [.tup [.int 0, .int 1], .tup [.int 1, .int 0]]) := no_cyc (a := 0) (b := 1) List.mem_cons_self (List.mem_cons_of_mem _ List.mem_cons_self)
    refine ss_skip (u := false || false) (WB.tb (wb_or (tb_neS (i := "known") (ED.imp (ed_calW C hr (E := fun _ _ _ => False) pass0 (ad_cons (ed_var 5) (ad_cons (ed_var 0) (ad_cons (ed_var 4) (ad_cons (ed_tup (ad_cons (ed_tup (ad_cons ed_int (ad_cons ed_int ad_nil)) (Nat.le_of_ble_eq_true rfl)) (ad_cons (ed_tup (ad_cons ed_int (ad_cons ed_int ad_nil)) (Nat.le_of_ble_eq_true rfl)) ad_nil)) (Nat.le_of_ble_eq_true rfl)) ad_nil)))) ⟨j, m, ls, List.replicate 6 k0, _, nx, rfl, hj, ⟨rfl, Nat.le_of_ble_eq_true rfl, shortL, hls, fit_prsD (prs := [(0, 1), (1, 0)]) (by decide)⟩, ne_nofine nc, rfl⟩) fun z hz => tried_known longT nc hz) ed_str)
      fun _ => wb_or1 (tb_neS (i := "told") (ED.imp (ed_calW C hr (E := fun _ _ _ => False) pass0 (ad_cons (ed_var 5) (ad_cons (ed_var 0) (ad_cons (ed_var 1) (ad_cons (ed_var 3) ad_nil)))) ⟨j, m, ls, row, _, nx, rfl, hj, ⟨rfl, by omega, short, hls, fit_prsD (by omega)⟩, ne_known hkn, rfl⟩) fun z hz => tried_told rowT hlen hkn hz) ed_str))) rfl ?_
    exact ss_nil fun σ H at_ => ⟨(), trivial, at_.forget (by repeat (first | exact Wk.nil | refine Wk.keep ?_ | refine Wk.drop ?_))⟩
end
end K14

set_option Elab.async false
set_option linter.all false
set_option maxRecDepth 100000
set_option maxHeartbeats 4000000
namespace K14
open PySem L2
section
variable {X : Cx} {W : Res} {ρ : List (Option D)} {a b e : Expr} {pos : Pos} {P : D → Prop}
theorem ed_ixOrdP {ns : List Nat} {P2 : D → Prop} (ha : EE X W ρ a (.ord ns)) (hb : ED X W ρ b P2) (h : ∀ z, P2 z → ∃ i k : Nat, z = natD i ∧ ns[i]? = some k ∧ P (natD k)) (hs : PlainIx b := by exact fun _ _ => rfl) : ED X W ρ (.Subscript a b pos) P :=
  ed_ixP ix_tup hs ha hb fun _ z h1 h2 => by
    subst h1
    obtain ⟨i, k, rfl, hk, hP⟩ := h z h2
    intro v1 v2 H ok r1 r2 Q q
    obtain ⟨p, ob, rfl, n, e, _⟩ := r1.ordI
    cases r2
    exact ⟨p, nV ns, (i : Int), .int (k : Int), rfl, rfl, .inl (.inr ⟨ob, e⟩), atI_nat (by unfold nV; rw [List.getElem?_map, hk]; rfl), q _ _ H .refl ok hP (.int _)⟩
theorem ed_ixOrd {ns : List Nat} {i k : Nat} (ha : EE X W ρ a (.ord ns)) (hb : EE X W ρ b (natD i)) (h : ns[i]? = some k) (hs : PlainIx b := by exact fun _ _ => rfl) : EE X W ρ (.Subscript a b pos) (natD k) :=
  ed_ixOrdP ha hb (fun z hz => ⟨i, k, hz, h, rfl⟩) hs
/-- `is not` of flags -/
theorem tb_notBl {u v : Bool} (ha : EE X W ρ a (.bl u)) (hb : EE X W ρ b (.bl v)) : TB X W ρ (.Compare a [.IsNot] [b] pos) (!decide (u = v)) :=
  tb_cmp op_notBl (nomark b) ha hb (by
    intro v1 v2 H ok r1 r2 Q q
    cases r1; cases r2
    exact ⟨u, v, rfl, rfl, q _ _ H .refl ok rfl (.bl _)⟩)
/-- a call that raises nothing here -/
theorem ed_callGF {es : List Expr} {p : Pos} {k : Nat} {ps : List Str} {x : Str} {ds : List D} {R : RX} {ok : Res → List D → GX → RX → Prop} (c : Cal X.prog X.w X.K X.mg X.base (L2N.CX X.prog X.w) k x ps (spG ok)) (hr : Room k X.A) (ha : AE X W ρ (e :: es) ds) (hok : ok W ds (gD W P) R) (hR : ∀ c d H, ¬ R c d H)
    (hg : Gl X x := by rfl) (hdb : (x == ("__debug__" : Str)) = false := by decide) (he : starEach (e :: es) X.env = (false, eval e X.env) :: starEach es X.env := by rfl) (hpl : (backTo pos (starEach es X.env)).any (·.1) = false := by rfl) :
    ED X W ρ (.Call (.Name x p) (e :: es) [] pos) P :=
  PEimp (pe_callG c hr takesN0 ha hok hg hdb he hpl) fun σ H Q ⟨ok', sl, q⟩ => ⟨ok', sl, fun H1 v H2 e1 ok1 ⟨d, hp, e2, ok2, r⟩ => q d v H2 (e1.trans e2) ok2 hp r, fun c d H2 _ _ h => (hR c d H2 h).elim⟩
/-- arguments, the last one a new dict -/
def tDsV (W : Res) (ρ : List (Option D)) (ds : List D) (Inv : List (Key × V) → Prop) : TA := fun σ H Q => W.ok H ∧ Sl W.m H σ ρ ∧ ∀ vs p H', Ext W.m H H' → H p = none → (W.add p (someV Inv)).ok H' → RpL (W.add p (someV Inv)).m H' vs (ds ++ [.obj p]) → Q vs H'
theorem av_last {Inv : List (Key × V) → Prop} {p2 : Pos} (h0 : Inv []) (hs : starEach [.Dict [] [] p2] X.env = (false, eval (.Dict [] [] p2) X.env) :: starEach [] X.env := by rfl) : PA X [.Dict [] [] p2] (tDsV W ρ [] Inv) :=
  PAimp (pa_cons pe_dnewK pa_nil hs) fun σ H Q ⟨ok, sl, q⟩ => fun p hp => by
    have ok1 : (W.add p (someV Inv)).ok (upd H p (.dK [])) := ok_own (H := H) (c := someV Inv) ok hp ⟨[], h0, upd_same⟩
    show Q [.ref p] (upd H p (.dK []))
    exact q _ p _ (.new hp) hp ok1 (.cons (.obj p) .nil)
theorem av_cons {es : List Expr} {x : D} {ds : List D} {Inv : List (Key × V) → Prop} (ha : EE X W ρ a x) (hb : PA X es (tDsV W ρ ds Inv)) (hs : starEach (a :: es) X.env = (false, eval a X.env) :: starEach es X.env := by rfl) : PA X (a :: es) (tDsV W ρ (x :: ds) Inv) :=
  PAimp (pa_cons ha hb hs) fun σ H Q ⟨ok, sl, q⟩ => ⟨ok, sl, fun d v H1 e1 ok1 hd r1 => ⟨ok1, sl.ext e1, fun vs p H2 e2 hp ok2 r2 => by
    subst hd
    have hp0 : H p = none := e1.dom p hp
    refine q (v :: vs) p H2 (e1.trans e2) hp0 ok2 (.cons ?_ r2)
    have np : ¬ W.m p := W.fresh ok1 hp
    refine r1.mono fun b o nb hb => ⟨fun m => m.elim nb fun e => ?_, e2.keep b o nb hb⟩
    rw [e, hp] at hb
    cases hb⟩⟩
theorem ed_calGV {es : List Expr} {p : Pos} {k : Nat} {ps : List Str} {x : Str} {ds : List D} {CX : CXT} {E : XK} {okW : Res → List D → (D → Prop) → Prop} {Inv : List (Key × V) → Prop} (c : CalG X.prog X.w X.K X.mg X.base CX k x ps (spW okW)) (g : X.A.guards = some []) (hr : Room k X.A) (hx : Passes CX X E) (ha : PA X (e :: es) (tDsV W ρ ds Inv)) (hok : ∀ l, ¬ W.m l → okW (W.add l (someV Inv)) (ds ++ [.obj l]) P)
    (hg : Gl X x := by rfl) (hdb : (x == ("__debug__" : Str)) = false := by decide) (he : starEach (e :: es) X.env = (false, eval e X.env) :: starEach es X.env := by rfl) (hpl : (backTo pos (starEach es X.env)).any (·.1) = false := by rfl) : ED X W ρ (.Call (.Name x p) (e :: es) [] pos) P := by
  obtain ⟨f, fd, F, hm, hk, hb⟩ := c.ex
  refine PEimp (pe_callGd F g hr hg hm hk hb hx ha hdb he hpl) fun σ H Q ⟨o, sl, q⟩ => ⟨o, sl, fun vs l H1 e1 hl ok1 r1 => ?_⟩
  show spW okW (vs ++ []) H1 Q E
  rw [List.append_nil]
  have nl : ¬ W.m l := W.fresh o hl
  refine ⟨_, _, P, ok1, r1, hok l nl, fun d v H2 e2 ok2 hp r => q d v H2 ⟨fun b u nb hb => ?_, fun b z => e1.dom b (e2.dom b z)⟩ (W.shrink ok2.1 fun b m => .inl m) hp (r.mono (keeps_shrink fun b m => .inl m))⟩
  refine e2.keep b u (fun m => m.elim nb fun e => ?_) (e1.keep b u nb hb)
  rw [e, hl] at hb
  cases hb
end
theorem nx_tape {W : Res} {l : Addr} {Inv : List D → Prop} (h : NoXd W) : NoXd (W.add l (someL Inv)) := fun H dd fs ok e m => by
  rcases m with m | rfl
  · exact h H dd fs (W.shrink ok.1 fun b m => .inl m) e m
  · obtain ⟨ds, _, vs, e2, _⟩ := ok.2
    rw [e] at e2
    cases e2
end K14

set_option Elab.async false
set_option linter.all false
set_option maxRecDepth 100000
set_option maxHeartbeats 4000000
namespace K14
open PySem L2
/-! ### plain facts for the law -/
theorem ordL_nil (n : Nat) : ordL n [] = allL n := by
  unfold ordL
  exact List.filter_eq_self.mpr fun o _ => rfl
theorem ordL_le {n : Nat} {prs : List (Nat × Nat)} (h : n ≤ 5) : (ordL n prs).length ≤ 120 := Nat.le_trans (List.length_filter_le _ _) (allL_le h)
theorem many_at {n : Nat} (h2 : 2 ≤ n) (h5 : n ≤ 5) : [D.int 1, .int 1, .int 2, .int 6, .int 24, .int 120][((n : Int)).toNat]? = some (natD (ordL n []).length) := by
  rw [ordL_nil, Int.toNat_natCast]
  have e1 : (allL 1).length = 1 := by rw [allL_len]; rfl
  have e2 : (allL 2).length = 2 := by rw [allL_len, e1]
  have e3 : (allL 3).length = 6 := by rw [allL_len, e2]
  have e4 : (allL 4).length = 24 := by rw [allL_len, e3]
  have e5 : (allL 5).length = 120 := by rw [allL_len, e4]
  match n, h2, h5 with
  | 2, _, _ => rw [e2]; rfl
  | 3, _, _ => rw [e3]; rfl
  | 4, _, _ => rw [e4]; rfl
  | 5, _, _ => rw [e5]; rfl
/-- a place in an order -/
theorem ord_at {n : Nat} {o : List Nat} (h : o.Perm (List.range n)) {i : Nat} (hi : i < n) : ∃ k, o[i]? = some k ∧ k < n ∧ o.idxOf k = i := by
  have hl := perm_len h
  have hi' : i < o.length := by omega
  exact ⟨o[i], List.getElem?_eq_getElem hi', (perm_mem h).mp (List.getElem_mem hi'), (perm_nodup h).idxOf_getElem i hi'⟩
/-- a pair that the order o obeys -/
def Obey (n : Nat) (o : List Nat) (p : Nat × Nat) : Prop := p.1 < n ∧ p.2 < n ∧ o.idxOf p.1 < o.idxOf p.2
theorem obey_at {n : Nat} {o : List Nat} (h : o.Perm (List.range n)) {i j : Nat} (hij : i < j) (hj : j < n) : ∃ a b, o[i]? = some a ∧ o[j]? = some b ∧ Obey n o (a, b) := by
  obtain ⟨a, h1, h2, h3⟩ := ord_at h (show i < n by omega)
  obtain ⟨b, g1, g2, g3⟩ := ord_at h hj
  exact ⟨a, b, h1, g1, h2, g2, by show o.idxOf a < o.idxOf b; omega⟩
theorem obey_known {n : Nat} {o : List Nat} (h : o.Perm (List.range n)) {prs : List (Nat × Nat)} (hp : ∀ p ∈ prs, Obey n o p) : KnownOk n prs := ⟨fun p hm => ⟨(hp p hm).1, (hp p hm).2.1⟩, o, h, fun p hm => (hp p hm).2.2⟩
theorem obey_mem {n : Nat} {o : List Nat} (h : o.Perm (List.range n)) {prs : List (Nat × Nat)} (hp : ∀ p ∈ prs, Obey n o p) : o ∈ ordL n prs := mem_ordL.mpr ⟨h, fun p hm => (hp p hm).2.2⟩
theorem ask_prs {m : Str} {row : List Str} {prs prs' : List (Nat × Nat)} {es : List (NestedKey × D)} (h : AskOut m row (.tup (prsD prs)) prs' es) : prs = prs' := prsD_inj (by injection h.fine.eq)
theorem ask_same {m : Str} {row : List Str} {prs prs' : List (Nat × Nat)} {es : List (NestedKey × D)} (h : AskOut m row (.tup (prsD prs)) prs' es) : Sub (ordL row.length prs) (ordsE row.length es) ∧ Sub (ordsE row.length es) (ordL row.length prs) := by
  have e := ask_prs h
  subst e
  exact ⟨fun o ho => h.fine.clo.same.mpr ho, fun o ho => h.fine.clo.same.mp ho⟩
theorem ask_lst {m : Str} {row : List Str} {prs prs' : List (Nat × Nat)} {es : List (NestedKey × D)} (fl : List Nat → List Bool) (h : AskOut m row (.tup (prsD prs)) prs' es) : lst fl row.length (ordsE row.length es) = lst fl row.length (ordL row.length prs) := by
  obtain ⟨h1, h2⟩ := ask_same h
  exact lst_same h2 h1 (ordL_perms _ _)
theorem ask_dpt {m : Str} {row : List Str} {prs prs' : List (Nat × Nat)} {es : List (NestedKey × D)} (fl : List Nat → List Bool) (d : D) (h : AskOut m row (.tup (prsD prs)) prs' es) : dpt fl row.length (ordsE row.length es) d = dpt fl row.length (ordL row.length prs) d := by
  obtain ⟨h1, h2⟩ := ask_same h
  exact dpt_same d h2 h1
theorem ask_tree {m : Str} {row : List Str} {prs prs' : List (Nat × Nat)} {es : List (NestedKey × D)} {fl : List Nat → List Bool} {d : D} (h : AskOut m row (.tup (prsD prs)) prs' es) (t : TreeOf fl row.length (ordsE row.length es) d) :
    dpt fl row.length (ordL row.length prs) d = some (lst fl row.length (ordL row.length prs)) ∧ Bd 12 10 d := by
  obtain ⟨t1, t2, t3, t4⟩ := t
  rw [ask_dpt fl d h, ask_lst fl h] at t1
  have := sp_le_ten (S := ordsE row.length es) h.few
  exact ⟨t1, t2, by omega, t4⟩
theorem perm_zero {o : List Nat} (h : o.Perm (List.range 0)) : o = [] := List.Perm.eq_nil h
theorem perm_one {o : List Nat} (h : o.Perm (List.range 1)) : o = [0] := List.perm_singleton.mp h
theorem const_zero {fl : List Nat → List Bool} {S : List (List Nat)} (p : Perms 0 S) : Const fl S := fun o ho o' ho' => by rw [perm_zero (p o ho), perm_zero (p o' ho')]
theorem const_one {fl : List Nat → List Bool} {S : List (List Nat)} (p : Perms 1 S) : Const fl S := fun o ho o' ho' => by rw [perm_one (p o ho), perm_one (p o' ho')]
theorem dpt_zero {fl : List Nat → List Bool} {n : Nat} {S : List (List Nat)} {d : D} (hS : S ≠ []) (hf : ∀ o ∈ S, fl o = []) (h : dpt fl n S d = some 0) : d = .tup [.str toldS, .tup []] := by
  by_cases ht : isTup d = true
  · obtain ⟨ds, rfl⟩ : ∃ ds, d = .tup ds := by cases d <;> first | exact ⟨_, rfl⟩ | cases ht
    by_cases h2 : ds.length = 2
    · obtain ⟨x, y, rfl⟩ := two_of h2
      rcases dpt_two (fl := fl) (n := n) (S := S) (x := x) (y := y) with e | ⟨_, rfl, bs, rfl, hb⟩
      · rw [e] at h; cases h
      · obtain ⟨o, ho⟩ := List.exists_mem_of_ne_nil S hS
        have e1 := hb o ho
        rw [hf o ho] at e1
        rw [← e1]; rfl
    · by_cases h4 : ds.length = 4
      · obtain ⟨a, b, t1, t2, rfl⟩ := four_of h4
        by_cases hi : (isInt a && !isBl a) = true ∧ (isInt b && !isBl b) = true
        · obtain ⟨i, rfl⟩ := integer_is hi.1
          obtain ⟨j, rfl⟩ := integer_is hi.2
          by_cases g : goodQ n S i j
          · rw [dpt_four g] at h
            split at h
            · injection h with h; omega
            · cases h
          · rw [dpt_four_bad g] at h; cases h
        · rw [dpt_four_int hi] at h; cases h
      · rw [dpt_len h2 h4] at h; cases h
  · rw [dpt_not_tup (eq_false_of_ne_true ht)] at h; cases h
theorem odd_bd {d : D} (h : OddD d) : Bd 15 11 d := ⟨h.1, Nat.le_trans h.2.1 (by decide), Nat.le_trans h.2.2 (by decide)⟩
theorem sh_bd {d : D} (h : ShD 12 d) : Bd 12 10 d := h
theorem wd_of {d : D} (h : Bd 15 11 d) : fitD d = true ∧ dep d ≤ 15 ∧ dep d ≤ 60 ∧ wd d ≤ 1000 := ⟨h.1, h.2.1, Nat.le_trans h.2.1 (by decide), Nat.le_trans h.2.2 (by decide)⟩
/-- the flags of all orders -/
def lawEs (fl : List Nat → List Bool) (l : List (List Nat)) : List (NestedKey × D) := accN ordK (fun o => .tup ((fl o).map .bl)) l
theorem lawEs_ok {fl : List Nat → List Bool} {n : Nat} {S : List (List Nat)} (p : Perms n S) (hw : ∀ o, (fl o).length ≤ 10) : Flagged fl (lawEs fl (ordL n [])) S := fun o ho => by
  refine ⟨?_, hw o⟩
  unfold lawEs
  rw [accN_look (d := .tup ((fl o).map .bl)) (ordL n []) fun a _ e => by rw [ordK_inj e], if_pos ⟨o, mem_ordL.mpr ⟨p o ho, fun q hq => (by cases hq)⟩, rfl⟩]
theorem rask_no {CR CK CM : Addr} {m : Str} {row : List Str} {prs : List (Nat × Nat)} (hr : rowB m row = true) (h5 : row.length ≤ 5) (hk : KnownOk row.length prs) : ∀ c d H, ¬ RAsk CR CK CM m row (.tup (prsD prs)) c d H := fun c d H h => by
  rcases h with ⟨h, _⟩ | ⟨_, hb, _⟩ | ⟨_, h, _⟩
  · rw [hr] at h; cases h
  · rcases hb with hb | ⟨prs', es, f, nl⟩
    · rw [hk.known] at hb; cases hb
    · exact nl (hk.loose f)
  · omega
end K14

set_option Elab.async false
set_option linter.all false
set_option maxRecDepth 100000
set_option maxHeartbeats 4000000
namespace K14
open PySem L2
/-! ### the law's second half -/
theorem const_one' {fl : List Nat → List Bool} {k : Nat} {S : List (List Nat)} (e : k = 1) (p : Perms k S) : Const fl S := by
  subst e
  exact const_one p
theorem ad_allN {X : Cx} {W : Res} {ρ : List (Option D)} {P : D → Prop} : AD X W ρ [] (fun ds => ds.length ≤ 0 ∧ ∀ x ∈ ds, P x) := AD.imp ad_nil fun ds h => by rw [h]; exact ⟨Nat.le_refl _, fun x hx => (by cases hx)⟩
theorem ad_allC {X : Cx} {W : Res} {ρ : List (Option D)} {P : D → Prop} {k : Nat} {a : Expr} {es : List Expr} (ha : ED X W ρ a P) (hb : AD X W ρ es (fun ds => ds.length ≤ k ∧ ∀ x ∈ ds, P x)) (hs : starEach (a :: es) X.env = (false, eval a X.env) :: starEach es X.env := by rfl) :
    AD X W ρ (a :: es) (fun ds => ds.length ≤ k + 1 ∧ ∀ x ∈ ds, P x) := AD.imp (ad_consP ha hb hs) fun ds ⟨d, r, h1, h2, h3, h4⟩ => by
  rw [h1]
  refine ⟨by rw [List.length_cons]; omega, fun x hx => ?_⟩
  rcases List.mem_cons.mp hx with rfl | hx
  · exact h2
  · exact h4 x hx
section
variable {P : Program} {w : World} {K : PySem.W.Frag} {mg : Str → Option Value} {base : Heap} {f CR CK CM CS : Addr} {fd : FuncData}
structure LawC (P : Program) (w : World) (K : PySem.W.Frag) (mg : Str → Option Value) (base : Heap) (CR CK CM CS : Addr) : Prop where
  tape : Cal P w K mg base (L2N.CX P w) 1 "_law_tape" A42 (spG (okTapeK K))
  pick : Cal P w K mg base CX0 1 "_law_pick" A43 (spW okPick)
  kinds : Cal P w K mg base CX0 1 "_law_kinds" A44 (spN okKinds)
  lots : Cal P w K mg base CX0 3 "_law_lots" A47 (spW okLots)
  seats : CalK P w K mg base CX0 5 "Seats" CS A22_0 (spI (okSeats CS))
  orders : Cal P w K mg base CX0 1 "_law_orders" A57 (spN okOrders)
  flags : Cal P w K mg base CX0 2 "_law_flags" A58 (spN okFlags)
  least : CalG P w K mg base CX0 12 "_law_least" A60 (spW (okLeastL 10))
  tree : Cal P w K mg base (L2N.CX P w) 14 "tree" A37 (spG (okTreeF CS CR CK CM))
  asked : Cal P w K mg base (L2N.CX P w) 13 "asked_least" A36 (spG (okLeast CS CR CK CM))
  isTree : Cal P w K mg base (L2N.CX P w) 63 "is_tree" A39 (spG (okIsTree CS CR CK CM))
  depth : Cal P w K mg base CX0 17 "_law_depth" A61 (spN (okDepth 15))
  own : Cal P w K mg base CX0 12 "_law_own" A62 (spW (okOwn 10))
  bent : Cal P w K mg base CX0 15 "_law_bent" A63 (spW (okBent 12))
  odd : Cal P w K mg base CX0 2 "_law_odd" A50 (spW okOdd)
  flag : Cal P w K mg base CX0 1 "_law_flag" A41 (spN okFlag)
  refuses : Cal P w K mg base CX0 65 "_law_refuses" A65 (spW (okRef CS))
/-- what the first half has drawn -/
structure Drawn (W : Res) (l : Addr) (m : Str) (ks : List Str) (ls : List (List Str)) (row : List Str) (o : List Nat) (prs : List (Nat × Nat)) : Prop where
  tape : HasTape W l
  nx : NoXd W
  mrk : m ∈ theMarks
  ev : Every m ks
  inn : ∀ z ∈ row, z ∈ ks
  two : 2 ≤ row.length
  five : row.length ≤ 5
  lots : ls.length ≤ 4
  ord : o.Perm (List.range row.length)
  obey : ∀ p ∈ prs, Obey row.length o p
  few : prs.length ≤ 10
abbrev drawnR (CS : Addr) (sc : D) (l : Addr) (m : Str) (ks : List Str) (ls : List (List Str)) (row : List Str) (o : List Nat) (prs : List (Nat × Nat)) (es : List (NestedKey × D)) : List (Option D) :=
  [some sc, some (.obj l), some (.str m), some (.lst (ks.map .str)), some (lotsD ls), some (natD row.length), some (.tup (row.map .str)), some (seatD CS m ls), some (.ord o), some (.tup (prsD prs)), none, none, some (ordsL (ordL row.length prs)), some (.dnk es), none, none, none, none, none, none]
theorem law_tail {cdv : Value} {A : Around} {outer : List Env} {s : Shared} {H : Hp} {E : XK} {W W0 : Res} {B : Bs} {l : Addr} {m : Str} {ks : List Str} {ls : List (List Str)} {row : List Str} {o : List Nat} {prs : List (Nat × Nat)} {sc : D} (T : Tx mg) (C : LawC P w K mg base CR CK CM CS) (hg : A.guards = some [])
    (hr : Room 65 (A.deeper (PyProof.Rows.envOfC "law" (defScope (top 66)) s.heap.objs.size f cdv))) (hW : RLe W0 W) (dr : Drawn W l m ks ls row o prs) :
    SS (cxOf CX0 P w K mg base N66 "law" (defScope (top 66)) f cdv A outer s H E).nox (At B W [] (drawnR CS sc l m ks ls row o prs (lawEs (flL ls row) (ordL row.length [])))) ((defBody (top 66)).drop 15) (FE B W0 (fun d => d = .bl true)) := by
  obtain ⟨ht, nx, hm, hE, hrow, h2, h5, hls, ho, hob, hfew⟩ := dr
  have rowT : rowB m row = true := row_ok hE hrow
  have short : ∀ z ∈ row, z.length ≤ 1000 := fun z hz => (hE.kind z (hrow z hz)).2.1
  have kn : KnownOk row.length prs := obey_known ho hob
  have hp : Perms row.length (ordL row.length prs) := ordL_perms _ _
  have hS : ordL row.length prs ≠ [] := List.ne_nil_of_mem (obey_mem ho hob)
  have hle : (ordL row.length prs).length ≤ 120 := ordL_le h5
  have hfl : Flagged (flL ls row) (lawEs (flL ls row) (ordL row.length [])) (ordL row.length prs) := lawEs_ok hp fun o => by rw [flL_len]; omega
  have hu : (A.deeper (PyProof.Rows.envOfC "law" (defScope (top 66)) s.heap.objs.size f cdv)).units + 64 < cLine := hr.units
  have hin : AskIn CS [seatD CS m ls, .tup (row.map .str), .tup (prsD prs)] m ls row (.tup (prsD prs)) := ⟨rfl, by omega, short, by omega, fit_prsD (by omega)⟩
  have hne : NeAsk m row (.tup (prsD prs)) := ne_known kn
  have hno := rask_no (CR := CR) (CK := CK) (CM := CM) rowT h5 kn
  -- the least depth
  refine ss_set 15 (d := natD (lst (flL ls row) row.length (ordL row.length prs))) (ed_calGV (Inv := MemoT (flL ls row) row.length (ordL row.length prs)) C.least hg (hr.mono (by decide)) (E := fun _ _ _ => False) pass0 (av_cons (ed_var 5) (av_cons (ed_var 13) (av_cons (ed_var 12) (av_last MemoT.start))))
    fun l' nl' => ⟨_, _, _, ⟨W, l', _, _, rfl, nl', rfl, by omega, h5, by omega, hp, .base, hS, hfl, sp_le_ten h5⟩, rfl⟩) ?_ sc66.nd
  -- the tree
  refine ss_setP 16 (P := fun d => dpt (flL ls row) row.length (ordL row.length prs) d = some (lst (flL ls row) row.length (ordL row.length prs)) ∧ Bd 12 10 d) (ED.imp (ed_callGF C.tree (hr.mono (by decide)) (ad_cons (ed_var 7) (ad_cons (ed_var 6) (ad_cons (ed_var 9) ad_nil))) ⟨m, ls, row, _, hin, hne, rfl, rfl⟩ hno) fun d ⟨prs', es', h, ht⟩ => ask_tree h ht) (fun td htd => ?_) sc66.nd
  obtain ⟨ht1, ht2⟩ := htd
  have bd2 : ∀ {d : D}, Bd 12 10 d → dep d ≤ 15 ∧ dep d ≤ 60 ∧ wd d ≤ 1000 := fun h => ⟨Nat.le_trans h.2.1 (by decide), Nat.le_trans h.2.1 (by decide), Nat.le_trans h.2.2 (by decide)⟩
  refine ss_skip (WB.tb (wb_or (tb_neI (i := (lst (flL ls row) row.length (ordL row.length prs) : Nat)) (j := (lst (flL ls row) row.length (ordL row.length prs) : Nat)) (ED.imp (ed_callGF C.asked (hr.mono (by decide)) (ad_cons (ed_var 7) (ad_cons (ed_var 6) (ad_cons (ed_var 9) ad_nil))) ⟨m, ls, row, _, hin, hne, rfl, rfl⟩ hno) fun z ⟨prs', es', h, hz⟩ => by rw [hz, ask_lst _ h]; rfl) (ed_var 15))
    fun _ => wb_or1 (tb_val (ed_isBl (x := natD (lst (flL ls row) row.length (ordL row.length prs))) T.isinst T.bool (ED.imp (ed_callGF C.asked (hr.mono (by decide)) (ad_cons (ed_var 7) (ad_cons (ed_var 6) (ad_cons (ed_var 9) ad_nil))) ⟨m, ls, row, _, hin, hne, rfl, rfl⟩ hno) fun z ⟨prs', es', h, hz⟩ => by rw [hz, ask_lst _ h]) rfl)))) (by rw [decide_eq_true rfl]; rfl) ?_
  refine ss_skip (WB.tb (wb_or (tb_neI (i := (lst (flL ls row) row.length (ordL row.length prs) : Nat)) (j := (lst (flL ls row) row.length (ordL row.length prs) : Nat)) (EE.is (ed_cal C.depth (hr.mono (by decide)) pass0 (ad_cons (ed_var 5) (ad_cons (ed_var 13) (ad_cons (ed_var 12) (ad_cons (ed_var 16) ad_nil)))) ⟨_, _, _, td, ⟨_, rfl, by omega, by omega, hp, hfl, ht2.1, (bd2 ht2).1, (bd2 ht2).2.2⟩, rfl⟩) (by rw [ht1]; rfl)) (ed_var 15))
    fun _ => wb_or1 (tb_notBl (u := true) (v := true) (ED.imp (ed_callGF C.isTree (hr.mono (by decide)) (ad_cons (ed_var 7) (ad_cons (ed_var 6) (ad_cons (ed_var 9) (ad_cons (ed_var 16) ad_nil)))) ⟨m, ls, row, _, td, _, rfl, hin, hne, ht2.1, (bd2 ht2).2.1, (bd2 ht2).2.2, rfl, rfl⟩ hno) fun z ⟨prs', es', h, hz⟩ => by rw [hz, ask_dpt _ _ h, ht1]; rfl) ed_bl))) (by rw [decide_eq_true rfl]; rfl) ?_
  -- an own tree, things
  refine ss_setP 17 (P := Bd 12 10) (ed_calW C.own (hr.mono (by decide)) (E := fun _ _ _ => False) pass0 (ad_cons (ed_var 1) (ad_cons (ed_var 5) (ad_cons (ed_var 13) (ad_cons (ed_var 12) ad_nil)))) ⟨_, _, ⟨l, _, _, ht, rfl, by omega, by omega, hS, by omega, hp, hfl, sp_le_ten h5⟩, rfl⟩) (fun od hod => ?_) sc66.nd
  refine ss_for (α := Unit) (Px := fun xs => ∀ x ∈ xs, Bd 15 11 x) (fun _ _ _ => True) (fun _ => W) (fun _ => [some sc, some (.obj l), some (.str m), some (.lst (ks.map .str)), some (lotsD ls), some (natD row.length), some (.tup (row.map .str)), some (seatD CS m ls), some (.ord o), some (.tup (prsD prs)), none, none, some (ordsL (ordL row.length prs)), some (.dnk (lawEs (flL ls row) (ordL row.length []))), none, some (natD (lst (flL ls row) row.length (ordL row.length prs))), some td, some od, none, none]) () rfl rfl
    (fun σ H => ∃ _ : Unit, True ∧ At B W [] [some sc, some (.obj l), some (.str m), some (.lst (ks.map .str)), some (lotsD ls), some (natD row.length), some (.tup (row.map .str)), some (seatD CS m ls), some (.ord o), some (.tup (prsD prs)), none, none, some (ordsL (ordL row.length prs)), some (.dnk (lawEs (flL ls row) (ordL row.length []))), none, some (natD (lst (flL ls row) row.length (ordL row.length prs))), some td, some od, none, none] σ H) PassesOwn.never rfl
    (id_lstP (ED.imp (ed_lstP (P := fun ds => ds.length ≤ 4 ∧ ∀ x ∈ ds, Bd 15 11 x) (ad_allC (ED.imp (ed_var 17) fun z hz => by rw [hz]; exact hod.mono (by decide) (by decide)) (ad_allC (ed_calW C.bent (hr.mono (by decide)) (E := fun _ _ _ => False) pass0 (ad_cons (ed_var 1) (ad_cons (ed_var 17) ad_nil)) ⟨l, _, ht, rfl, hod, rfl⟩) (ad_allC (ed_calW C.bent (hr.mono (by decide)) (E := fun _ _ _ => False) pass0 (ad_cons (ed_var 1) (ad_cons (ed_var 16) ad_nil)) ⟨l, _, ht, rfl, ht2, rfl⟩)
      (ad_allC (ED.imp (ed_calW C.odd (hr.mono (by decide)) (E := fun _ _ _ => False) pass0 (ad_cons (ed_var 1) ad_nil) ⟨l, ht, rfl, rfl⟩) fun z hz => odd_bd hz) ad_allN)))) fun ds h => by omega) fun z ⟨ds, h1, h2, h3⟩ => ⟨ds, h1, h3⟩)) (gd_name 18 sc66.nd) (fun xs _ => trivial) (fun xs k a _ _ d _ => ⟨_, rfl⟩) (fun xs hx Γ1 k x a ρ' hxk _ hpt => ?_) (fun xs hx a σ H _ at_ => ⟨(), trivial, at_⟩)
    (SS.exP fun _ _ => ?_)
  · cases hpt
    have hbx := wd_of (hx x (List.mem_of_getElem? hxk))
    refine ss_set 19 (d := .bl (dpt (flL ls row) row.length (ordL row.length prs) x).isSome) (EE.is (ed_notN (x := oD (dpt (flL ls row) row.length (ordL row.length prs) x)) (ed_cal C.depth (hr.mono (by decide)) pass0 (ad_cons (ed_var 5) (ad_cons (ed_var 13) (ad_cons (ed_var 12) (ad_cons (ed_var 18) ad_nil)))) ⟨_, _, _, x, ⟨_, rfl, by omega, by omega, hp, hfl, hbx.1, hbx.2.1, hbx.2.2.2⟩, rfl⟩)) (by rw [isNon_oD])) ?_ sc66.nd
    refine ss_skip (tb_not (tb_val (ed_cal C.flag (hr.mono (by decide)) pass0 (ad_cons (ED.imp (ed_callGF C.isTree (hr.mono (by decide)) (ad_cons (ed_var 7) (ad_cons (ed_var 6) (ad_cons (ed_var 9) (ad_cons (ed_var 18) ad_nil)))) ⟨m, ls, row, _, x, _, rfl, hin, hne, hbx.1, hbx.2.2.1, hbx.2.2.2, rfl, rfl⟩ hno) fun z ⟨prs', es', h, hz⟩ => show z = .bl (dpt (flL ls row) row.length (ordL row.length prs) x).isSome by rw [hz, ask_dpt _ _ h]) (ad_cons (ed_var 19) ad_nil)) ⟨_, _, rfl, rfl⟩))) (by rw [decide_eq_true rfl]; rfl) ?_
    exact ss_nil fun σ H at_ => ⟨(), trivial, at_.forget (by repeat (first | exact Wk.nil | refine Wk.keep ?_ | refine Wk.drop ?_))⟩
  · -- one pair more
    obtain ⟨a0, b0, ea, eb, hab⟩ := obey_at ho (show 0 < 1 by decide) (show 1 < row.length by omega)
    have hob2 : ∀ p ∈ prs ++ [(a0, b0)], Obey row.length o p := fun p hp => (List.mem_append.mp hp).elim (hob p) fun h => by rw [List.mem_singleton.mp h]; exact hab
    have kn2 : KnownOk row.length (prs ++ [(a0, b0)]) := obey_known ho hob2
    have e2 : prsD prs ++ [.tup [natD a0, natD b0]] = prsD (prs ++ [(a0, b0)]) := by unfold prsD; rw [List.map_append]; rfl
    have sub2 : Sub (ordL row.length (prs ++ [(a0, b0)])) (ordL row.length prs) := fun q hq => by
      obtain ⟨h1, h2⟩ := mem_ordL.mp hq
      exact mem_ordL.mpr ⟨h1, fun p hp => h2 p (List.mem_append_left _ hp)⟩
    have hls2 := lst_sub (fl := flL ls row) sub2 hp
    refine ss_skip (tb_gt (i := (lst (flL ls row) row.length (ordL row.length (prs ++ [(a0, b0)])) : Nat)) (j := (lst (flL ls row) row.length (ordL row.length prs) : Nat)) (ED.imp (ed_callGF C.asked (hr.mono (by decide)) (ad_cons (ed_var 7) (ad_cons (ed_var 6) (ad_cons (EE.is (ed_catT (ed_var 9) (ed_tup (ad_cons (ed_tup (ad_cons (ed_ixOrd (i := 0) (ed_var 8) ed_int ea) (ad_cons (ed_ixOrd (i := 1) (ed_var 8) ed_int eb) ad_nil)) (Nat.le_of_ble_eq_true rfl)) ad_nil) (Nat.le_of_ble_eq_true rfl)) (by rw [prsD_len, List.length_singleton]; omega)) (congrArg D.tup e2)) ad_nil)))
      ⟨m, ls, row, _, ⟨rfl, by omega, short, by omega, fit_prsD (by rw [List.length_append, List.length_singleton]; omega)⟩, ne_known kn2, rfl, rfl⟩ (rask_no rowT h5 kn2)) fun z ⟨prs', es', h, hz⟩ => by rw [hz, ask_lst _ h]; rfl) (ed_var 15)) (decide_eq_false (by omega)) ?_
    -- nothing to ask
    have kn0 : KnownOk ([] : List Str).length [] := KnownOk.nil
    have hin0 : AskIn CS [seatD CS m ls, .tup (([] : List Str).map .str), .tup (prsD [])] m ls [] (.tup (prsD [])) := ⟨rfl, by decide, fun z hz => (by cases hz), by omega, fit_prsD (by decide)⟩
    have ne0 : NeAsk m [] (.tup (prsD [])) := ne_known kn0
    have no0 := rask_no (CR := CR) (CK := CK) (CM := CM) (m := m) (row := []) rfl (by decide) kn0
    have kn1 : KnownOk (row.take 1).length [] := KnownOk.nil
    have l1 : (row.take 1).length = 1 := by rw [List.length_take]; omega
    have row1 : rowB m (row.take 1) = true := row_ok hE fun z hz => hrow z (List.mem_of_mem_take hz)
    have hin1 : AskIn CS [seatD CS m ls, .tup ((row.take 1).map .str), .tup (prsD [])] m ls (row.take 1) (.tup (prsD [])) := ⟨rfl, by omega, fun z hz => short z (List.mem_of_mem_take hz), by omega, fit_prsD (by decide)⟩
    refine ss_skip (WB.tb (wb_or (tb_cmp (op_neD hu) (nomark _) (x := .tup [.str "told", .tup []]) (y := .tup [.str "told", .tup []]) (k := false) (ED.imp (ed_callGF C.tree (hr.mono (by decide)) (ad_cons (ed_var 7) (ad_cons (ed_tup ad_nil (Nat.le_of_ble_eq_true rfl)) (ad_cons (ed_tup ad_nil (Nat.le_of_ble_eq_true rfl)) ad_nil))) ⟨m, ls, [], _, hin0, ne0, rfl, rfl⟩ no0) fun z ⟨prs', es', h, hz⟩ => ?_)
        (ed_tup (ad_cons ed_str (ad_cons (ed_tup ad_nil (Nat.le_of_ble_eq_true rfl)) ad_nil)) (Nat.le_of_ble_eq_true rfl)) (rr_neP (p := .tuple [.str "told", .tuple []]) (q := .tuple [.str "told", .tuple []]) (.tup (.cons (.str _) (.cons (.tup .nil) .nil))) (.tup (.cons (.str _) (.cons (.tup .nil) .nil))) (by decide +kernel) (by decide +kernel)))
      fun _ => wb_or1 (tb_neI (i := 0) (j := 0) (ED.imp (ed_callGF C.asked (hr.mono (by decide)) (ad_cons (ed_var 7) (ad_cons (EE.is (ed_sliceT (ed_var 6) od_none (od_some ed_int)) ?_) (ad_cons (ed_tup ad_nil (Nat.le_of_ble_eq_true rfl)) ad_nil))) ⟨m, ls, row.take 1, _, hin1, ne_known kn1, rfl, rfl⟩ (rask_no row1 (by omega) kn1)) fun z ⟨prs', es', h, hz⟩ => ?_) ed_int))) rfl ?_
    · have hp0 : Perms 0 (ordsE 0 es') := ordP_perms 0 _
      have e0 : lst (flL ls []) 0 (ordsE 0 es') = 0 := lst_const hp0 (const_zero hp0)
      have := hz.1
      rw [show lst (flL ls []) ([] : List Str).length (ordsE ([] : List Str).length es') = 0 from e0] at this
      exact dpt_zero (ne0 _ _ h) (fun q hq => List.eq_nil_of_length_eq_zero (flL_len ls [] q)) this
    · exact congrArg D.tup (by rw [show (some 1 : Option Int) = some ((1 : Nat) : Int) from rfl, cutD_take _ 1 (by rw [List.length_map]; omega), List.map_take])
    · rw [hz]
      have hp1 : Perms (row.take 1).length (ordsE (row.take 1).length es') := ordP_perms _ _
      exact congrArg natD (lst_const hp1 (const_one' l1 hp1))
    · exact ss_retP2 (P := fun d => d = .bl true) (P' := fun d => d = .bl true) (ed_calW C.refuses hr (E := fun _ _ _ => False) pass0 (ad_cons (ed_var 7) (ad_cons (ed_var 6) (ad_cons (ed_var 3) (ad_cons (ed_var 9) ad_nil)))) ⟨m, ls, row, ks, prs, ⟨nx, rfl, hm, hE, hrow, h5, by omega, by omega, kn⟩, rfl⟩) (fun d h => h) hW
end
end K14

set_option Elab.async false
set_option linter.all false
set_option maxRecDepth 100000
set_option maxHeartbeats 4000000
namespace K14
open PySem L2
section
variable {P : Program} {w : World} {K : PySem.W.Frag} {mg : Str → Option Value} {base : Heap} {f CR CK CM CS : Addr} {fd : FuncData}
/-! ### the law's first half -/
theorem prsD_snoc (prs : List (Nat × Nat)) (a b : Nat) : prsD prs ++ [.tup [natD a, natD b]] = prsD (prs ++ [(a, b)]) := by unfold prsD; rw [List.map_append]; rfl
theorem obey_snoc {n : Nat} {o : List Nat} {prs : List (Nat × Nat)} {p : Nat × Nat} (h : ∀ q ∈ prs, Obey n o q) (hp : Obey n o p) : ∀ q ∈ prs ++ [p], Obey n o q := fun q hq => (List.mem_append.mp hq).elim (h q) fun e => by rw [List.mem_singleton.mp e]; exact hp
abbrev lawR (CS : Addr) (sc : D) (l : Addr) (m : Str) (ks : List Str) (ls : List (List Str)) (row : List Str) (o : List Nat) (x9 x12 x13 : Option D) : List (Option D) :=
  [some sc, some (.obj l), some (.str m), some (.lst (ks.map .str)), some (lotsD ls), some (natD row.length), some (.tup (row.map .str)), some (seatD CS m ls), some (.ord o), x9, none, none, x12, x13, none, none, none, none, none, none]
def okLaw (K : PySem.W.Frag) (W : Res) (ds : List D) (Q : D → Prop) : Prop := ∃ (sc : List Int) (a : Addr), ds = [.obj a] ∧ (∀ H, W.ok H → SqL K H a (sc.map .int)) ∧ NoXd W ∧ Q = fun d => d = .bl true
theorem ok66 (F : FnM K "law" "law" (top 66) f fd) (T : Tx mg) (C : LawC P w K mg base CR CK CM CS) : FnOkG P w K mg base CX0 66 f fd A66 (spW (okLaw K)) := by
  refine fn_dataWG F sc66 (fun W ds Q ⟨_, _, h, _⟩ => by rw [h]; rfl) fun cdv A outer s H E W ds Q B hg hr h => ?_
  obtain ⟨sc, a, rfl, hS, nx0, rfl⟩ := h
  have hr1 := hr.mono (show 1 ≤ 65 by decide)
  have hu9 : (A.deeper (PyProof.Rows.envOfC "law" (defScope (top 66)) s.heap.objs.size f cdv)).units + 9 < cLine := by have := hr.units; omega
  refine ss_unpackGO (PO := fun p c d => c = someL Tape ∧ d = .obj p) (gd_name 1 sc66.nd) (pe_callG C.tape hr1 takesN0 (ad_cons (ed_var 0) ad_nil) ⟨sc, a, rfl, hS, rfl, rfl⟩) (fun _ _ _ _ _ h => h) fun l cl d ⟨h1, h2⟩ nl => ?_
  subst h1 h2
  refine ⟨_, rfl, ?_⟩
  have ht : HasTape (W.add l (someL Tape)) l := ⟨W, rfl, nl⟩
  have nx : NoXd (W.add l (someL Tape)) := nx_tape nx0
  have hW : RLe W (W.add l (someL Tape)) := RLe.refl.add
  generalize W.add l (someL Tape) = W1 at *
  refine ss_setP 2 (P := fun d => ∃ m ∈ theMarks, d = .str m) (ed_ixLP (ds := theMarks.map .str) (ed_lst (ad_cons ed_str (ad_cons ed_str (ad_cons ed_str (ad_cons ed_str ad_nil)))) (Nat.le_of_ble_eq_true rfl)) (ed_pick (n := 4) ht C.pick hr1 (ed_var 1) ed_int (by decide)) fun z ⟨k, hk, hz⟩ => ?_) (fun d hd => ?_) sc66.nd
  · have hk' : k < theMarks.length := hk
    exact ⟨(k : Int), .str theMarks[k], hz, Int.natCast_nonneg k, by rw [Int.toNat_natCast, List.getElem?_map, List.getElem?_eq_getElem hk']; rfl, _, List.getElem_mem hk', rfl⟩
  obtain ⟨m, hm, rfl⟩ := hd
  refine ss_setP 3 (P := fun d => ∃ ks : List Str, d = .lst (ks.map .str) ∧ Every m ks) (ed_cal C.kinds hr1 pass0 (ad_cons (ed_var 2) ad_nil) ⟨m, hm, rfl, rfl⟩) (fun d hd => ?_) sc66.nd
  obtain ⟨ks, rfl, hE⟩ := hd
  have few := hE.few
  refine ss_setP 4 (P := fun d => ∃ ls : List (List Str), d = lotsD ls ∧ ls.length ≤ 4 ∧ LotsOk ks ls) (ed_calW C.lots (hr.mono (by decide)) (E := fun _ _ _ => False) pass0 (ad_cons (ed_var 1) (ad_cons (ed_var 3) (ad_cons ed_int ad_nil))) ⟨l, m, ks, ht, rfl, hE, rfl⟩) (fun d hd => ?_) sc66.nd
  obtain ⟨ls, rfl, hls, hlots⟩ := hd
  refine ss_setP 5 (P := fun d => ∃ n : Nat, 2 ≤ n ∧ n ≤ 5 ∧ d = natD n) (ed_opP (P1 := fun z => ∃ k : Nat, 2 ≤ k ∧ k ≤ 4 ∧ z = natD k) (P2 := fun z => ∃ b : Bool, z = .int (if b then 1 else 0) ∧ True) op_add
    (ed_opP (P1 := fun z => z = .int 2) (P2 := pickD 3) op_add ed_int (ed_pick (n := 3) ht C.pick hr1 (ed_var 1) ed_int (by decide)) fun x y h1 h2 => ?_)
    (ed_intB (Pb := fun _ => True) T.int (ed_pick0 (ed_pick (n := 12) ht C.pick hr1 (ed_var 1) ed_int (by decide)) ed_int)) fun x y h1 h2 => ?_) (fun d hd => ?_) sc66.nd
  · obtain ⟨k, hk, rfl⟩ := h2
    subst h1
    exact rr_int.imp fun d h => ⟨2 + k, by omega, by omega, by rw [h]; exact congrArg D.int (by omega)⟩
  · obtain ⟨k, h2k, h4k, rfl⟩ := h1
    obtain ⟨b, rfl, _⟩ := h2
    cases b with
    | true => exact rr_int.imp fun d h => ⟨k + 1, by omega, by omega, by rw [h]; rfl⟩
    | false => exact rr_int.imp fun d h => ⟨k, by omega, by omega, by rw [h]; exact congrArg D.int (by simp)⟩
  obtain ⟨n, h2, h5, rfl⟩ := hd
  refine ss_setP 6 (P := fun d => ∃ row : List Str, d = .tup (row.map .str) ∧ row.length = n ∧ ∀ z ∈ row, z ∈ ks) (ED.imp (ed_tupleL (P := fun ds => ∃ row : List Str, ds = row.map .str ∧ row.length = n ∧ ∀ z ∈ row, z ∈ ks) T.tuple (ED.imp (ed_lcP (g := gName 10) (t := .one 10) (own := [("_law_k", 10)]) (Px := fun xs => xs = (List.range n).map natD)
    (fun xs i ys => ∃ row : List Str, ys = row.map .str ∧ row.length = i ∧ ∀ z ∈ row, z ∈ ks) (fun _ _ b => b = true) (fun _ _ d => ∃ z ∈ ks, d = .str z) rfl sc66.nd (id_rangeN T.range (ed_var 5) (by omega)) (blkOk_by (N := N66) (sc := defScope (top 66)) (by decide +kernel)) (fun j hj => hj) (gt_name 10)
    (fun xs h => by rw [h, List.length_map, List.length_range]; omega) (fun xs _ => ⟨[], rfl, rfl, fun z hz => (by cases hz)⟩) (fun xs h i d hd => ⟨_, rfl⟩) (fun _ _ _ _ _ => pg_name sc66.nd rfl (Or.inl rfl))
    (fun xs h i x ys L ρ' hx _ nL hp s H C' cl fp => ⟨fun pins s σ H Q I q => pts_nil.run pins s σ H Q I (q.2.2 true H .refl q.1 rfl)⟩)
    (fun xs h i x ys L ρ' hx _ nL hp _ s H C' cl fp => ?_) (fun xs h i ys d hi ⟨row, h1, h2, h3⟩ _ ⟨z, hz, hd⟩ => ⟨row ++ [z], by rw [h1, hd, List.map_append]; rfl, by rw [List.length_append, h2]; rfl, fun y hy => (List.mem_append.mp hy).elim (h3 y) fun e => by rw [List.mem_singleton.mp e]; exact hz⟩) (fun xs h i ys hi hy b => by cases b)
    (fun xs i ys h ⟨row, h1, h2, _⟩ => by rw [h1, List.length_map, h2]; exact Nat.le_refl _)) fun z ⟨xs, ys, h1, h2, row, h3, h4, h5⟩ => ⟨_, h2, row, h3, by rw [h4, h1, List.length_map, List.length_range], h5⟩)) fun z ⟨ds, h1, row, h2, h3⟩ => ⟨row, by rw [h1, h2], h3⟩) (fun d hd => ?_) sc66.nd
  · cases hp
    refine ed_ixLP (ed_var 3) (ed_pick (n := ks.length) (ht.add nL) C.pick hr1 (ed_var 1) (EE.is (ed_lenL T.len (ed_var 3)) (by rw [List.length_map]; rfl)) ⟨List.length_pos_iff.mpr hE.ne, by omega⟩) fun z ⟨k, hk, hz⟩ => ?_
    exact ⟨_, _, hz, Int.natCast_nonneg k, by rw [Int.toNat_natCast, List.getElem?_map, List.getElem?_eq_getElem hk]; rfl, ks[k], List.getElem_mem hk, rfl⟩
  obtain ⟨row, rfl, rfl, hrow⟩ := hd
  have hmk := marks_ok hm
  refine ss_set 7 (d := seatD CS m ls) (ed_make C.seats (hr.mono (by decide)) pass0 (ad_cons (ed_var 2) (ad_cons (ed_var 4) ad_nil)) ⟨m, ls, rfl, rfl, hmk.1, hmk.2.1, by omega, fun lo hlo => ⟨Nat.le_trans (hlots lo hlo).2.length_le (by omega), fun z hz => (hE.kind z ((hlots lo hlo).2.subset hz)).2.1⟩, fun lo hlo => hE.lot (hlots lo hlo).2 (hlots lo hlo).1, rfl⟩) ?_ sc66.nd
  have hl0 : (ordL row.length []).length ≤ 120 := ordL_le h5
  have hp0 : 0 < (ordL row.length []).length := List.length_pos_of_mem (mem_ordL.mpr ⟨List.Perm.refl _, fun p hp => (by cases hp)⟩)
  refine ss_setP 8 (P := fun d => ∃ o : List Nat, d = .ord o ∧ o.Perm (List.range row.length)) (ed_ixLP (ds := (ordL row.length []).map .ord) (ed_cal C.orders hr1 pass0 (ad_cons (ed_var 5) (ad_cons (ed_lst ad_nil) ad_nil)) ⟨row.length, [], .inr rfl, h5, Nat.zero_le _, fun p hp => (by cases hp), rfl⟩)
    (ed_pick (n := (ordL row.length []).length) ht C.pick hr1 (ed_var 1) (ed_ixL (ds := [.int 1, .int 1, .int 2, .int 6, .int 24, .int 120]) (ed_lst (ad_cons ed_int (ad_cons ed_int (ad_cons ed_int (ad_cons ed_int (ad_cons ed_int (ad_cons ed_int ad_nil)))))) (Nat.le_of_ble_eq_true rfl)) (ed_var 5) (Int.natCast_nonneg _) (many_at h2 h5)) ⟨hp0, by omega⟩) fun z ⟨k, hk, hz⟩ => ?_) (fun d hd => ?_) sc66.nd
  · exact ⟨(k : Int), .ord (ordL row.length [])[k], hz, Int.natCast_nonneg k, by rw [Int.toNat_natCast, List.getElem?_map, List.getElem?_eq_getElem hk]; rfl, _, rfl, (mem_ordL.mp (List.getElem_mem hk)).1⟩
  obtain ⟨o, rfl, ho⟩ := hd
  -- known pairs
  refine ss_newL 9 (fun lk nlk => ?_) sc66.nd
  refine ss_for (α := List (Nat × Nat)) (Px := fun xs => ∃ c : Nat, c ≤ 3 ∧ xs = (List.range c).map natD) (fun _ i prs => prs.length = i ∧ ∀ p ∈ prs, Obey row.length o p) (fun prs => W1.add lk (ownL (prsD prs))) (fun _ => lawR CS (.obj a) l m ks ls row o (some (.obj lk)) none none) [] rfl rfl
    (fun σ H => ∃ prs : List (Nat × Nat), (prs.length ≤ 3 ∧ ∀ p ∈ prs, Obey row.length o p) ∧ At B (W1.add lk (ownL (prsD prs))) [] (lawR CS (.obj a) l m ks ls row o (some (.obj lk)) none none) σ H) PassesOwn.never rfl
    (PIimp (id_range1P (P := fun i => 0 ≤ i ∧ i ≤ 3) T.range (ED.imp (ed_pick (n := 4) (ht.add nlk) C.pick hr1 (ed_var 1) ed_int (by decide)) fun z ⟨k, hk, hz⟩ => ⟨(k : Int), hz, by omega, by omega⟩) (fun i hi => ⟨by omega, by omega⟩)) fun σ H R ⟨ok, sl, q⟩ => ⟨ok, sl, fun J H1 Δ xs ⟨i, hi, hx⟩ => q J H1 Δ xs ⟨i.toNat, by omega, by rw [hx]; unfold rngD natD; refine List.map_congr_left fun j _ => ?_; rw [Int.zero_add]⟩⟩)
    (gd_name 10 sc66.nd) (fun xs _ => ⟨rfl, fun p hp => (by cases hp)⟩) (fun xs i a _ _ d _ => ⟨_, rfl⟩) (fun xs hx Γ' i x prs ρ' hxi hR hpt => ?_) (fun xs hx prs σ H hR at_ => ?_) (SS.exP fun prs hprs => ?_)
  · cases hpt
    obtain ⟨c, hc, rfl⟩ := hx
    have hi := (rng_at hxi).2
    obtain ⟨g1, g2⟩ := hR
    refine ss_setP 11 (P := pickD (row.length - 1)) (ed_pick (n := row.length - 1) (ht.add nlk) C.pick hr1 (ed_var 1) (EE.is (ed_sub (ed_var 5) ed_int) (congrArg D.int (by omega))) ⟨by omega, by omega⟩) (fun d hd => ?_) sc66.nd
    obtain ⟨u, hu, rfl⟩ := hd
    obtain ⟨k1, e1, k1n, k1i⟩ := ord_at ho (show u < row.length by omega)
    refine ss_append 9 nlk (P := fun d => ∃ p : Nat × Nat, Obey row.length o p ∧ d = .tup [natD p.1, natD p.2]) (ED.imp (ed_tupP (ad_consP (P1 := fun z => z = natD k1) (ed_ixOrd (ed_var 8) (ed_var 11) e1) (ad_consP (P1 := fun z => ∃ v k2 : Nat, u < v ∧ v < row.length ∧ o[v]? = some k2 ∧ z = natD k2)
      (ed_ixOrdP (P2 := fun z => ∃ v : Nat, u < v ∧ v < row.length ∧ z = natD v) (ed_var 8) (ed_opP (P1 := fun z => z = natD (u + 1)) (P2 := pickD (row.length - 1 - u)) op_add (EE.is (ed_add (ed_var 11) ed_int) (congrArg D.int (by omega)))
        (ed_pick (n := row.length - 1 - u) (ht.add nlk) C.pick hr1 (ed_var 1) (EE.is (ed_sub (ed_sub (ed_var 5) ed_int) (ed_var 11)) (congrArg D.int (by omega))) ⟨by omega, by omega⟩) fun x y h1 h2 => ?_) fun z hz => ?_) ad_nil)) fun ds ⟨d1, r1, h1, _, d2, r2, h2, _, h3⟩ => ?_) fun z hz => ?_) (by rw [prsD_len]; omega) fun d hd => ?_
    · obtain ⟨k, hk, rfl⟩ := h2
      subst h1
      exact rr_int.imp fun d h => ⟨u + 1 + k, by omega, by omega, by rw [h]; exact congrArg D.int (by omega)⟩
    · obtain ⟨v, hv1, hv2, rfl⟩ := hz
      obtain ⟨k2, e2, _, _⟩ := ord_at ho hv2
      exact ⟨v, k2, rfl, e2, v, k2, hv1, hv2, e2, rfl⟩
    · rw [h1, h2, h3]; exact Nat.le_of_ble_eq_true rfl
    · obtain ⟨ds, rfl, d1, r1, rfl, rfl, d2, r2, rfl, ⟨v, k2, hv1, hv2, e2, rfl⟩, rfl⟩ := hz
      obtain ⟨k3, e3, k3n, k3i⟩ := ord_at ho hv2
      rw [e2] at e3
      injection e3 with e3
      subst e3
      exact ⟨(k1, k2), ⟨k1n, k3n, by show o.idxOf k1 < o.idxOf k2; omega⟩, rfl⟩
    · obtain ⟨⟨pa, pb⟩, hp, rfl⟩ := hd
      rw [show prsD prs ++ [D.tup [natD pa, natD pb]] = prsD (prs ++ [(pa, pb)]) from prsD_snoc prs pa pb]
      exact ss_nil fun σ H at_ => ⟨prs ++ [(pa, pb)], ⟨by rw [List.length_append, g1]; rfl, obey_snoc g2 hp⟩, at_.forget (by repeat (first | exact Wk.nil | refine Wk.keep ?_ | refine Wk.drop ?_))⟩
  · obtain ⟨c, hc, rfl⟩ := hx
    obtain ⟨g1, g2⟩ := hR
    rw [List.length_map, List.length_range] at g1
    exact ⟨prs, ⟨by omega, g2⟩, at_⟩
  refine ss_freeze 9 nlk ?_
  refine ss_if (fun σ H => ∃ prs : List (Nat × Nat), (prs.length ≤ 5 ∧ ∀ p ∈ prs, Obey row.length o p) ∧ At B W1 [] (lawR CS (.obj a) l m ks ls row o (some (.lst (prsD prs))) none none) σ H) (tb_eqI (ed_var 5) ed_int) (fun h => ?_) (fun _ => ss_nil fun σ H at_ => ⟨prs, ⟨by omega, hprs.2⟩, at_⟩) (SS.exP fun prs' hprs' => ?_)
  · have e5 : (row.length : Int) = 5 := of_decide_eq_true h.symm
    obtain ⟨a0, b0, ea, eb, hab⟩ := obey_at ho (show 0 < 1 by decide) (show 1 < row.length by omega)
    obtain ⟨a1, b1, ea1, eb1, hab1⟩ := obey_at ho (show 1 < 2 by decide) (show 2 < row.length by omega)
    have ee : prsD prs ++ [D.tup [natD a0, natD b0], D.tup [natD a1, natD b1]] = prsD (prs ++ [(a0, b0)] ++ [(a1, b1)]) := by
      rw [← prsD_snoc, ← prsD_snoc, List.append_assoc]; rfl
    refine ss_set 9 (d := .lst (prsD (prs ++ [(a0, b0)] ++ [(a1, b1)]))) (EE.is (ed_cat (ed_var 9) (ed_lst (ad_cons (ed_tup (ad_cons (ed_ixOrd (i := 0) (ed_var 8) ed_int ea) (ad_cons (ed_ixOrd (i := 1) (ed_var 8) ed_int eb) ad_nil)) (Nat.le_of_ble_eq_true rfl)) (ad_cons (ed_tup (ad_cons (ed_ixOrd (i := 1) (ed_var 8) ed_int ea1) (ad_cons (ed_ixOrd (i := 2) (ed_var 8) ed_int eb1) ad_nil)) (Nat.le_of_ble_eq_true rfl)) ad_nil)) (Nat.le_of_ble_eq_true rfl)) (by rw [prsD_len]; simp only [List.length_cons, List.length_nil]; omega)) (congrArg D.lst ee)) ?_ sc66.nd
    exact ss_nil fun σ H at_ => ⟨_, ⟨by simp only [List.length_append, List.length_cons, List.length_nil]; omega, obey_snoc (obey_snoc hprs.2 hab) hab1⟩, at_⟩
  obtain ⟨g1, g2⟩ := hprs'
  refine ss_set 9 (d := .tup (prsD prs')) (ed_tuple T.tuple (ed_var 9)) ?_ sc66.nd
  refine ss_set 12 (d := ordsL (ordL row.length prs')) (ed_cal C.orders hr1 pass0 (ad_cons (ed_var 5) (ad_cons (ed_var 9) ad_nil)) ⟨row.length, prs', .inl rfl, h5, by omega, fun p hp => ⟨(g2 p hp).1, (g2 p hp).2.1⟩, rfl⟩) ?_ sc66.nd
  -- the flags of all orders
  refine ss_own 13 (P := fun c => c = ownN []) en_nnew (fun lf c hc nlf => ?_) sc66.nd
  subst hc
  refine ss_for (α := Nat) (Px := fun xs => xs = (ordL row.length []).map .ord) (fun _ i b => b = i) (fun b => W1.add lf (ownN (lawEs (flL ls row) ((ordL row.length []).take b)))) (fun _ => lawR CS (.obj a) l m ks ls row o (some (.tup (prsD prs'))) (some (ordsL (ordL row.length prs'))) (some (.obj lf))) 0 rfl rfl
    (At B (W1.add lf (ownN (lawEs (flL ls row) (ordL row.length [])))) [] (lawR CS (.obj a) l m ks ls row o (some (.tup (prsD prs'))) (some (ordsL (ordL row.length prs'))) (some (.obj lf)))) PassesOwn.never rfl
    (id_lst (ed_cal C.orders hr1 pass0 (ad_cons (ed_var 5) (ad_cons (ed_lst ad_nil) ad_nil)) ⟨row.length, [], .inr rfl, h5, Nat.zero_le _, fun p hp => (by cases hp), rfl⟩)) (gd_name 14 sc66.nd) (fun xs _ => rfl) (fun xs i a _ _ d _ => ⟨_, rfl⟩) (fun xs hx Γ' i x b ρ' hxi hR hpt => ?_) (fun xs hx b σ H hR at_ => ?_) ?_
  · cases hpt
    subst hx hR
    obtain ⟨q, hq, rfl, hqm⟩ := map_at hxi
    have hln := accN_len (kf := ordK) (vd := fun o => D.tup ((flL ls row o).map .bl)) ((ordL row.length []).take b)
    have hln2 : ((ordL row.length []).take b).length ≤ (ordL row.length []).length := by rw [List.length_take]; omega
    refine ss_nput hu9 nlf (ed_var 13) (ed_var 14) (keyD_ord q) (ed_cal C.flags (hr.mono (by decide)) pass0 (ad_cons (ed_var 4) (ad_cons (ed_var 6) (ad_cons (ed_var 14) ad_nil))) ⟨ls, row, q, rfl, by omega, by omega, (mem_ordL.mp hqm).1, rfl⟩) (by unfold lawEs; omega) ?_
    refine ss_nil fun σ H at_ => ⟨b + 1, rfl, ?_⟩
    show At B (W1.add lf (ownN (lawEs (flL ls row) ((ordL row.length []).take (b + 1))))) Γ' (lawR CS (.obj a) l m ks ls row o (some (.tup (prsD prs'))) (some (ordsL (ordL row.length prs'))) (some (.obj lf))) σ H
    rw [show lawEs (flL ls row) ((ordL row.length []).take (b + 1)) = putN (lawEs (flL ls row) ((ordL row.length []).take b)) (ordK q) (.tup ((flL ls row q).map .bl)) by unfold lawEs; rw [take_succ_get hq, accN_snoc]]
    exact at_.forget (by repeat (first | exact Wk.nil | refine Wk.keep ?_ | refine Wk.drop ?_))
  · subst hx hR
    rw [take_all (by rw [List.length_map])] at at_
    exact at_
  refine ss_freezeN 13 nlf ?_
  exact law_tail T C hg hr hW ⟨ht, nx, hm, hE, hrow, h2, h5, hls, ho, g2, by omega⟩
end
end K14

set_option Elab.async false
set_option linter.all false
set_option maxRecDepth 100000
set_option maxHeartbeats 4000000
namespace K14
open PySem L2
section
variable {K : PySem.W.Frag}
theorem def11 (c : He.SaysD hfa hfn K) : ∃ fd, FnM K "is_integer" "is_integer" (top 11) (He.ga K "is_integer") fd ∧ Binds K fd A11 [] := by
  obtain ⟨fd, F⟩ := c.def_ 0 (d := dd "is_integer" 11) rfl
  exact ⟨fd, F, FunD.bindsN F fun _ _ _ _ _ _ us hl => match us, hl with | [_], _ => rfl⟩
theorem def12 (c : He.SaysD hfa hfn K) : ∃ fd, FnM K "is_within" "is_within" (top 12) (He.ga K "is_within") fd ∧ Binds K fd A12 [] := by
  obtain ⟨fd, F⟩ := c.def_ 1 (d := dd "is_within" 12) rfl
  exact ⟨fd, F, FunD.bindsN F fun _ _ _ _ _ _ us hl => match us, hl with | [_, _, _], _ => rfl⟩
theorem def13 (c : He.SaysD hfa hfn K) : ∃ fd, FnM K "is_pair" "is_pair" (top 13) (He.ga K "is_pair") fd ∧ Binds K fd A13 [] := by
  obtain ⟨fd, F⟩ := c.def_ 2 (d := dd "is_pair" 13) rfl
  exact ⟨fd, F, FunD.bindsN F fun _ _ _ _ _ _ us hl => match us, hl with | [_], _ => rfl⟩
theorem def14 (c : He.SaysD hfa hfn K) : ∃ fd, FnM K "is_ascending" "is_ascending" (top 14) (He.ga K "is_ascending") fd ∧ Binds K fd A14 [] := by
  obtain ⟨fd, F⟩ := c.def_ 3 (d := dd "is_ascending" 14) rfl
  exact ⟨fd, F, FunD.bindsN F fun _ _ _ _ _ _ us hl => match us, hl with | [_], _ => rfl⟩
theorem def15 (c : He.SaysD hfa hfn K) : ∃ fd, FnM K "is_marks" "is_marks" (top 15) (He.ga K "is_marks") fd ∧ Binds K fd A15 [] := by
  obtain ⟨fd, F⟩ := c.def_ 4 (d := dd "is_marks" 15) rfl
  exact ⟨fd, F, FunD.bindsN F fun _ _ _ _ _ _ us hl => match us, hl with | [_], _ => rfl⟩
theorem def16 (c : He.SaysD hfa hfn K) : ∃ fd, FnM K "is_kind" "is_kind" (top 16) (He.ga K "is_kind") fd ∧ Binds K fd A16 [] := by
  obtain ⟨fd, F⟩ := c.def_ 5 (d := dd "is_kind" 16) rfl
  exact ⟨fd, F, FunD.bindsN F fun _ _ _ _ _ _ us hl => match us, hl with | [_, _], _ => rfl⟩
theorem def17 (c : He.SaysD hfa hfn K) : ∃ fd, FnM K "is_lot" "is_lot" (top 17) (He.ga K "is_lot") fd ∧ Binds K fd A17 [] := by
  obtain ⟨fd, F⟩ := c.def_ 6 (d := dd "is_lot" 17) rfl
  exact ⟨fd, F, FunD.bindsN F fun _ _ _ _ _ _ us hl => match us, hl with | [_, _], _ => rfl⟩
theorem def18 (c : He.SaysD hfa hfn K) : ∃ fd, FnM K "is_row" "is_row" (top 18) (He.ga K "is_row") fd ∧ Binds K fd A18 [] := by
  obtain ⟨fd, F⟩ := c.def_ 7 (d := dd "is_row" 18) rfl
  exact ⟨fd, F, FunD.bindsN F fun _ _ _ _ _ _ us hl => match us, hl with | [_, _], _ => rfl⟩
theorem def19 (c : He.SaysD hfa hfn K) : ∃ fd, FnM K "check_row" "check_row" (top 19) (He.ga K "check_row") fd ∧ Binds K fd A19 [] := by
  obtain ⟨fd, F⟩ := c.def_ 8 (d := dd "check_row" 19) rfl
  exact ⟨fd, F, FunD.bindsN F fun _ _ _ _ _ _ us hl => match us, hl with | [_, _], _ => rfl⟩
theorem def21 (c : He.SaysD hfa hfn K) : ∃ fd, FnM K "first_no_lot" "first_no_lot" (top 21) (He.ga K "first_no_lot") fd ∧ Binds K fd A21 [] := by
  obtain ⟨fd, F⟩ := c.def_ 9 (d := dd "first_no_lot" 21) rfl
  exact ⟨fd, F, FunD.bindsN F fun _ _ _ _ _ _ us hl => match us, hl with | [_, _], _ => rfl⟩
theorem def24 (c : He.SaysD hfa hfn K) : ∃ fd, FnM K "first_seat" "first_seat" (top 24) (He.ga K "first_seat") fd ∧ Binds K fd A24 [] := by
  obtain ⟨fd, F⟩ := c.def_ 10 (d := dd "first_seat" 24) rfl
  exact ⟨fd, F, FunD.bindsN F fun _ _ _ _ _ _ us hl => match us, hl with | [_, _, _], _ => rfl⟩
theorem def25 (c : He.SaysD hfa hfn K) : ∃ fd, FnM K "led" "led" (top 25) (He.ga K "led") fd ∧ Binds K fd A25 [] := by
  obtain ⟨fd, F⟩ := c.def_ 11 (d := dd "led" 25) rfl
  exact ⟨fd, F, FunD.bindsN F fun _ _ _ _ _ _ us hl => match us, hl with | [_, _], _ => rfl⟩
theorem def29 (c : He.SaysD hfa hfn K) : ∃ fd, FnM K "is_known" "is_known" (top 29) (He.ga K "is_known") fd ∧ Binds K fd A29 [] := by
  obtain ⟨fd, F⟩ := c.def_ 12 (d := dd "is_known" 29) rfl
  exact ⟨fd, F, FunD.bindsN F fun _ _ _ _ _ _ us hl => match us, hl with | [_, _], _ => rfl⟩
theorem def30 (c : He.SaysD hfa hfn K) : ∃ fd, FnM K "closed_pairs" "closed_pairs" (top 30) (He.ga K "closed_pairs") fd ∧ Binds K fd A30 [] := by
  obtain ⟨fd, F⟩ := c.def_ 13 (d := dd "closed_pairs" 30) rfl
  exact ⟨fd, F, FunD.bindsN F fun _ _ _ _ _ _ us hl => match us, hl with | [_, _], _ => rfl⟩
theorem def31 (c : He.SaysD hfa hfn K) : ∃ fd, FnM K "check_known" "check_known" (top 31) (He.ga K "check_known") fd ∧ Binds K fd A31 [] := by
  obtain ⟨fd, F⟩ := c.def_ 14 (d := dd "check_known" 31) rfl
  exact ⟨fd, F, FunD.bindsN F fun _ _ _ _ _ _ us hl => match us, hl with | [_, _], _ => rfl⟩
theorem def32 (c : He.SaysD hfa hfn K) : ∃ fd, FnM K "orders_of" "orders_of" (top 32) (He.ga K "orders_of") fd ∧ Binds K fd A32 [] := by
  obtain ⟨fd, F⟩ := c.def_ 15 (d := dd "orders_of" 32) rfl
  exact ⟨fd, F, FunD.bindsN F fun _ _ _ _ _ _ us hl => match us, hl with | [_, _], _ => rfl⟩
theorem def33 (c : He.SaysD hfa hfn K) : ∃ fd, FnM K "flags_of" "flags_of" (top 33) (He.ga K "flags_of") fd ∧ Binds K fd A33 [] := by
  obtain ⟨fd, F⟩ := c.def_ 16 (d := dd "flags_of" 33) rfl
  exact ⟨fd, F, FunD.bindsN F fun _ _ _ _ _ _ us hl => match us, hl with | [_, _, _], _ => rfl⟩
theorem def35 (c : He.SaysD hfa hfn K) : ∃ fd, FnM K "asking_of" "asking_of" (top 35) (He.ga K "asking_of") fd ∧ Binds K fd A35 [] := by
  obtain ⟨fd, F⟩ := c.def_ 17 (d := dd "asking_of" 35) rfl
  exact ⟨fd, F, FunD.bindsN F fun _ _ _ _ _ _ us hl => match us, hl with | [_, _, _], _ => rfl⟩
theorem def36 (c : He.SaysD hfa hfn K) : ∃ fd, FnM K "asked_least" "asked_least" (top 36) (He.ga K "asked_least") fd ∧ Binds K fd A36 [] := by
  obtain ⟨fd, F⟩ := c.def_ 18 (d := dd "asked_least" 36) rfl
  exact ⟨fd, F, FunD.bindsN F fun _ _ _ _ _ _ us hl => match us, hl with | [_, _, _], _ => rfl⟩
theorem def37 (c : He.SaysD hfa hfn K) : ∃ fd, FnM K "tree" "tree" (top 37) (He.ga K "tree") fd ∧ Binds K fd A37 [] := by
  obtain ⟨fd, F⟩ := c.def_ 19 (d := dd "tree" 37) rfl
  exact ⟨fd, F, FunD.bindsN F fun _ _ _ _ _ _ us hl => match us, hl with | [_, _, _], _ => rfl⟩
theorem def38 (c : He.SaysD hfa hfn K) : ∃ fd, FnM K "is_tree_for" "is_tree_for" (top 38) (He.ga K "is_tree_for") fd ∧ Binds K fd A38 [] := by
  obtain ⟨fd, F⟩ := c.def_ 20 (d := dd "is_tree_for" 38) rfl
  exact ⟨fd, F, FunD.bindsN F fun _ _ _ _ _ _ us hl => match us, hl with | [_, _, _], _ => rfl⟩
theorem def39 (c : He.SaysD hfa hfn K) : ∃ fd, FnM K "is_tree" "is_tree" (top 39) (He.ga K "is_tree") fd ∧ Binds K fd A39 [] := by
  obtain ⟨fd, F⟩ := c.def_ 21 (d := dd "is_tree" 39) rfl
  exact ⟨fd, F, FunD.bindsN F fun _ _ _ _ _ _ us hl => match us, hl with | [_, _, _, _], _ => rfl⟩
theorem def41 (c : He.SaysD hfa hfn K) : ∃ fd, FnM K "_law_flag" "_law_flag" (top 41) (He.ga K "_law_flag") fd ∧ Binds K fd A41 [] := by
  obtain ⟨fd, F⟩ := c.def_ 22 (d := dd "_law_flag" 41) rfl
  exact ⟨fd, F, FunD.bindsN F fun _ _ _ _ _ _ us hl => match us, hl with | [_, _], _ => rfl⟩
theorem def42 (c : He.SaysD hfa hfn K) : ∃ fd, FnM K "_law_tape" "_law_tape" (top 42) (He.ga K "_law_tape") fd ∧ Binds K fd A42 [] := by
  obtain ⟨fd, F⟩ := c.def_ 23 (d := dd "_law_tape" 42) rfl
  exact ⟨fd, F, FunD.bindsN F fun _ _ _ _ _ _ us hl => match us, hl with | [_], _ => rfl⟩
theorem def43 (c : He.SaysD hfa hfn K) : ∃ fd, FnM K "_law_pick" "_law_pick" (top 43) (He.ga K "_law_pick") fd ∧ Binds K fd A43 [] := by
  obtain ⟨fd, F⟩ := c.def_ 24 (d := dd "_law_pick" 43) rfl
  exact ⟨fd, F, FunD.bindsN F fun _ _ _ _ _ _ us hl => match us, hl with | [_, _], _ => rfl⟩
theorem def44 (c : He.SaysD hfa hfn K) : ∃ fd, FnM K "_law_kinds" "_law_kinds" (top 44) (He.ga K "_law_kinds") fd ∧ Binds K fd A44 [] := by
  obtain ⟨fd, F⟩ := c.def_ 25 (d := dd "_law_kinds" 44) rfl
  exact ⟨fd, F, FunD.bindsN F fun _ _ _ _ _ _ us hl => match us, hl with | [_], _ => rfl⟩
theorem def46 (c : He.SaysD hfa hfn K) : ∃ fd, FnM K "_law_lot" "_law_lot" (top 46) (He.ga K "_law_lot") fd ∧ Binds K fd A46 [] := by
  obtain ⟨fd, F⟩ := c.def_ 26 (d := dd "_law_lot" 46) rfl
  exact ⟨fd, F, FunD.bindsN F fun _ _ _ _ _ _ us hl => match us, hl with | [_, _], _ => rfl⟩
theorem def47 (c : He.SaysD hfa hfn K) : ∃ fd, FnM K "_law_lots" "_law_lots" (top 47) (He.ga K "_law_lots") fd ∧ Binds K fd A47 [] := by
  obtain ⟨fd, F⟩ := c.def_ 27 (d := dd "_law_lots" 47) rfl
  exact ⟨fd, F, FunD.bindsN F fun _ _ _ _ _ _ us hl => match us, hl with | [_, _, _], _ => rfl⟩
theorem def49 (c : He.SaysD hfa hfn K) : ∃ fd, FnM K "_law_led" "_law_led" (top 49) (He.ga K "_law_led") fd ∧ Binds K fd A49 [] := by
  obtain ⟨fd, F⟩ := c.def_ 28 (d := dd "_law_led" 49) rfl
  exact ⟨fd, F, FunD.bindsN F fun _ _ _ _ _ _ us hl => match us, hl with | [_, _], _ => rfl⟩
theorem def50 (c : He.SaysD hfa hfn K) : ∃ fd, FnM K "_law_odd" "_law_odd" (top 50) (He.ga K "_law_odd") fd ∧ Binds K fd A50 [] := by
  obtain ⟨fd, F⟩ := c.def_ 29 (d := dd "_law_odd" 50) rfl
  exact ⟨fd, F, FunD.bindsN F fun _ _ _ _ _ _ us hl => match us, hl with | [_], _ => rfl⟩
theorem def51 (c : He.SaysD hfa hfn K) : ∃ fd, FnM K "_law_is_int" "_law_is_int" (top 51) (He.ga K "_law_is_int") fd ∧ Binds K fd A51 [] := by
  obtain ⟨fd, F⟩ := c.def_ 30 (d := dd "_law_is_int" 51) rfl
  exact ⟨fd, F, FunD.bindsN F fun _ _ _ _ _ _ us hl => match us, hl with | [_, _, _], _ => rfl⟩
theorem def57 (c : He.SaysD hfa hfn K) : ∃ fd, FnM K "_law_orders" "_law_orders" (top 57) (He.ga K "_law_orders") fd ∧ Binds K fd A57 [] := by
  obtain ⟨fd, F⟩ := c.def_ 31 (d := dd "_law_orders" 57) rfl
  exact ⟨fd, F, FunD.bindsN F fun _ _ _ _ _ _ us hl => match us, hl with | [_, _], _ => rfl⟩
theorem def58 (c : He.SaysD hfa hfn K) : ∃ fd, FnM K "_law_flags" "_law_flags" (top 58) (He.ga K "_law_flags") fd ∧ Binds K fd A58 [] := by
  obtain ⟨fd, F⟩ := c.def_ 32 (d := dd "_law_flags" 58) rfl
  exact ⟨fd, F, FunD.bindsN F fun _ _ _ _ _ _ us hl => match us, hl with | [_, _, _], _ => rfl⟩
theorem def59 (c : He.SaysD hfa hfn K) : ∃ fd, FnM K "_law_parted" "_law_parted" (top 59) (He.ga K "_law_parted") fd ∧ Binds K fd A59 [] := by
  obtain ⟨fd, F⟩ := c.def_ 33 (d := dd "_law_parted" 59) rfl
  exact ⟨fd, F, FunD.bindsN F fun _ _ _ _ _ _ us hl => match us, hl with | [_, _, _], _ => rfl⟩
theorem def60 (c : He.SaysD hfa hfn K) : ∃ fd, FnM K "_law_least" "_law_least" (top 60) (He.ga K "_law_least") fd ∧ Binds K fd A60 [] := by
  obtain ⟨fd, F⟩ := c.def_ 34 (d := dd "_law_least" 60) rfl
  exact ⟨fd, F, FunD.bindsN F fun _ _ _ _ _ _ us hl => match us, hl with | [_, _, _, _], _ => rfl⟩
theorem def61 (c : He.SaysD hfa hfn K) : ∃ fd, FnM K "_law_depth" "_law_depth" (top 61) (He.ga K "_law_depth") fd ∧ Binds K fd A61 [] := by
  obtain ⟨fd, F⟩ := c.def_ 35 (d := dd "_law_depth" 61) rfl
  exact ⟨fd, F, FunD.bindsN F fun _ _ _ _ _ _ us hl => match us, hl with | [_, _, _, _], _ => rfl⟩
theorem def62 (c : He.SaysD hfa hfn K) : ∃ fd, FnM K "_law_own" "_law_own" (top 62) (He.ga K "_law_own") fd ∧ Binds K fd A62 [] := by
  obtain ⟨fd, F⟩ := c.def_ 36 (d := dd "_law_own" 62) rfl
  exact ⟨fd, F, FunD.bindsN F fun _ _ _ _ _ _ us hl => match us, hl with | [_, _, _, _], _ => rfl⟩
theorem def63 (c : He.SaysD hfa hfn K) : ∃ fd, FnM K "_law_bent" "_law_bent" (top 63) (He.ga K "_law_bent") fd ∧ Binds K fd A63 [] := by
  obtain ⟨fd, F⟩ := c.def_ 37 (d := dd "_law_bent" 63) rfl
  exact ⟨fd, F, FunD.bindsN F fun _ _ _ _ _ _ us hl => match us, hl with | [_, _], _ => rfl⟩
theorem def64 (c : He.SaysD hfa hfn K) : ∃ fd, FnM K "_law_tried" "_law_tried" (top 64) (He.ga K "_law_tried") fd ∧ Binds K fd A64 [] := by
  obtain ⟨fd, F⟩ := c.def_ 38 (d := dd "_law_tried" 64) rfl
  exact ⟨fd, F, FunD.bindsN F fun _ _ _ _ _ _ us hl => match us, hl with | [_, _, _, _], _ => rfl⟩
theorem def65 (c : He.SaysD hfa hfn K) : ∃ fd, FnM K "_law_refuses" "_law_refuses" (top 65) (He.ga K "_law_refuses") fd ∧ Binds K fd A65 [] := by
  obtain ⟨fd, F⟩ := c.def_ 39 (d := dd "_law_refuses" 65) rfl
  exact ⟨fd, F, FunD.bindsN F fun _ _ _ _ _ _ us hl => match us, hl with | [_, _, _, _], _ => rfl⟩
theorem def66 (c : He.SaysD hfa hfn K) : ∃ fd, FnM K "law" "law" (top 66) (He.ga K "law") fd ∧ Binds K fd A66 [] := by
  obtain ⟨fd, F⟩ := c.def_ 40 (d := dd "law" 66) rfl
  exact ⟨fd, F, FunD.bindsN F fun _ _ _ _ _ _ us hl => match us, hl with | [_], _ => rfl⟩
theorem def5_0 (c : He.SaysD hfa hfn K) : ∃ fd, FnM K "__init__" "TooMany.__init__" (inClass (top 5) 0) (He.ma K (He.ga K "TooMany") "__init__") fd ∧ Binds K fd A5_0 [] := by
  obtain ⟨fd, F⟩ := c.def_ 41 (d := dm "TooMany" "__init__" "TooMany.__init__" (inClass (top 5) 0)) rfl
  exact ⟨fd, F, FunD.bindsN F fun _ _ _ _ _ _ us hl => match us, hl with | [_, _], _ => rfl⟩
theorem def22_0 (c : He.SaysD hfa hfn K) : ∃ fd, FnM K "__init__" "Seats.__init__" (inClass (top 22) 0) (He.ma K (He.ga K "Seats") "__init__") fd ∧ Binds K fd A22_0 [] := by
  obtain ⟨fd, F⟩ := c.def_ 42 (d := dm "Seats" "__init__" "Seats.__init__" (inClass (top 22) 0)) rfl
  exact ⟨fd, F, FunD.bindsN F fun _ _ _ _ _ _ us hl => match us, hl with | [_, _, _], _ => rfl⟩
theorem def34_0 (c : He.SaysD hfa hfn K) : ∃ fd, FnM K "__init__" "Asking.__init__" (inClass (top 34) 0) (He.ma K (He.ga K "Asking") "__init__") fd ∧ Binds K fd A34_0 [] := by
  obtain ⟨fd, F⟩ := c.def_ 43 (d := dm "Asking" "__init__" "Asking.__init__" (inClass (top 34) 0)) rfl
  exact ⟨fd, F, FunD.bindsN F fun _ _ _ _ _ _ us hl => match us, hl with | [_, _, _], _ => rfl⟩
theorem def34_1 (c : He.SaysD hfa hfn K) : ∃ fd, FnM K "told" "Asking.told" (inClass (top 34) 1) (He.ma K (He.ga K "Asking") "told") fd ∧ Binds K fd A34_1 [] := by
  obtain ⟨fd, F⟩ := c.def_ 44 (d := dm "Asking" "told" "Asking.told" (inClass (top 34) 1)) rfl
  exact ⟨fd, F, FunD.bindsN F fun _ _ _ _ _ _ us hl => match us, hl with | [_, _], _ => rfl⟩
theorem def34_2 (c : He.SaysD hfa hfn K) : ∃ fd, FnM K "parts" "Asking.parts" (inClass (top 34) 2) (He.ma K (He.ga K "Asking") "parts") fd ∧ Binds K fd A34_2 [] := by
  obtain ⟨fd, F⟩ := c.def_ 45 (d := dm "Asking" "parts" "Asking.parts" (inClass (top 34) 2)) rfl
  exact ⟨fd, F, FunD.bindsN F fun _ _ _ _ _ _ us hl => match us, hl with | [_, _], _ => rfl⟩
theorem def34_3 (c : He.SaysD hfa hfn K) : ∃ fd, FnM K "best" "Asking.best" (inClass (top 34) 3) (He.ma K (He.ga K "Asking") "best") fd ∧ Binds K fd A34_3 [] := by
  obtain ⟨fd, F⟩ := c.def_ 46 (d := dm "Asking" "best" "Asking.best" (inClass (top 34) 3)) rfl
  exact ⟨fd, F, FunD.bindsN F fun _ _ _ _ _ _ us hl => match us, hl with | [_, _], _ => rfl⟩
theorem def34_4 (c : He.SaysD hfa hfn K) : ∃ fd, FnM K "tree" "Asking.tree" (inClass (top 34) 4) (He.ma K (He.ga K "Asking") "tree") fd ∧ Binds K fd A34_4 [] := by
  obtain ⟨fd, F⟩ := c.def_ 47 (d := dm "Asking" "tree" "Asking.tree" (inClass (top 34) 4)) rfl
  exact ⟨fd, F, FunD.bindsN F fun _ _ _ _ _ _ us hl => match us, hl with | [_, _], _ => rfl⟩
end
end K14

set_option Elab.async false
set_option linter.all false
set_option maxRecDepth 100000
set_option maxHeartbeats 4000000
namespace K14
open PySem L2
section
open L2
variable {P : Program} {w : World} {K : PySem.W.Frag} {h : Heap} {mg : Str → Option Value} {base : Heap}
theorem txR (X : K.In h) (G : h.Ns mainGlobals mg) (d : He.SaysD hfa hfn K) : Tx mg where
  len := He.free_ok X G (d.fact 0 (f := .free "len") rfl)
  range := He.free_ok X G (d.fact 1 (f := .free "range") rfl)
  isinst := He.free_ok X G (d.fact 2 (f := .free "isinstance") rfl)
  int := He.free_ok X G (d.fact 3 (f := .free "int") rfl)
  bool := He.free_ok X G (d.fact 4 (f := .free "bool") rfl)
  str := He.free_ok X G (d.fact 5 (f := .free "str") rfl)
  tuple := He.free_ok X G (d.fact 6 (f := .free "tuple") rfl)
  list := He.free_ok X G (d.fact 7 (f := .free "list") rfl)
  any := He.free_ok X G (d.fact 8 (f := .free "any") rfl)
  all := He.free_ok X G (d.fact 9 (f := .free "all") rfl)
  max := He.free_ok X G (d.fact 10 (f := .free "max") rfl)
  min := He.free_ok X G (d.fact 11 (f := .free "min") rfl)
  sorted := He.free_ok X G (d.fact 12 (f := .free "sorted") rfl)
  zip := He.free_ok X G (d.fact 13 (f := .free "zip") rfl)
  enumerate := He.free_ok X G (d.fact 14 (f := .free "enumerate") rfl)
  repr := He.free_ok X G (d.fact 15 (f := .free "repr") rfl)
  small := He.str_ok X G (d.fact 21 (f := .str "SMALL" "abcdefghijklmnopqrstuvwxyz") rfl)
  mMarks := He.int_ok X G (d.fact 16 (f := .int "MOST_MARKS" 5) rfl)
  mSeats := He.int_ok X G (d.fact 17 (f := .int "MOST_SEATS" 40) rfl)
  mComers := He.int_ok X G (d.fact 18 (f := .int "MOST_COMERS" 200) rfl)
  mAsked := He.int_ok X G (d.fact 19 (f := .int "MOST_ASKED" 5) rfl)
  mPairs := He.int_ok X G (d.fact 20 (f := .int "MOST_PAIRS" 200) rfl)
theorem seatR (d : He.SaysD hfa hfn K) : SeatC K (He.ga K "Seats") := ⟨He.cls_ok (d.fact 69 (f := .cls "Seats") rfl), He.noat_ok (d.fact 70 (f := .noat "Seats" "marks") rfl), He.noat_ok (d.fact 71 (f := .noat "Seats" "lots") rfl)⟩
theorem askR (d : He.SaysD hfa hfn K) : AskC K (He.ga K "Asking") := ⟨He.cls_ok (d.fact 73 (f := .cls "Asking") rfl), He.noat_ok (d.fact 74 (f := .noat "Asking" "row") rfl), He.noat_ok (d.fact 75 (f := .noat "Asking" "flags") rfl), He.noat_ok (d.fact 76 (f := .noat "Asking" "least") rfl)⟩
theorem extR (X : K.In h) (G : h.Ns mainGlobals mg) (c : obsM K = valM) : ∃ fdM, ExT K mg (He.ga K "NoRow") (He.ga K "NoKnown") (He.ga K "TooMany") (He.ma K (He.ga K "TooMany") "__init__") fdM := by
  have d := obsM_d c
  obtain ⟨fdM, F, b⟩ := def5_0 d
  obtain ⟨r1, r2, r3, r4⟩ := He.exc_ok (d.fact 82 (f := .exc "NoRow") rfl)
  obtain ⟨k1, k2, k3, k4⟩ := He.exc_ok (d.fact 83 (f := .exc "NoKnown") rfl)
  have M := He.meth_ok (d.fact 84 (f := .meth "TooMany" "__init__") rfl)
  exact ⟨fdM, He.glo_ok X G (d.fact 64 (f := .glo "NoRow") rfl), r1, r2, r3, r4, He.glo_ok X G (d.fact 65 (f := .glo "NoKnown") rfl), k1, k2, k3, k4, He.glo_ok X G (d.fact 66 (f := .glo "TooMany") rfl), oexB_ok (obsM_more c 3 (b := oexB K (He.ga K "TooMany")) rfl), M.at_, beq_iff_eq.mp M.fn, He.noat_ok (d.fact 85 (f := .noat "TooMany" "most") rfl), F, b⟩
theorem tryR (X : K.In h) (G : h.Ns mainGlobals mg) (c : obsM K = valM) : TryT K mg (He.ga K "SeatError") (He.ga K "NoRow") (He.ga K "NoKnown") (He.ga K "TooMany") := by
  have d := obsM_d c
  exact ⟨He.glo_ok X G (d.fact 63 (f := .glo "SeatError") rfl), catB_ok (obsM_more c 0 (b := catB K (He.ga K "NoRow")) rfl), catB_ok (obsM_more c 1 (b := catB K (He.ga K "NoKnown")) rfl), catB_ok (obsM_more c 2 (b := catB K (He.ga K "TooMany")) rfl), xfB_ok (obsM_more c 4 (b := xfB K (He.ga K "TooMany")) rfl),
    He.exm_ok (d.fact 86 (f := .exm "NoRow" "SeatError" true) rfl), He.exm_ok (d.fact 87 (f := .exm "NoKnown" "SeatError" true) rfl), He.exm_ok (d.fact 88 (f := .exm "TooMany" "SeatError" true) rfl),
    kitF_ok (obsM_more c 5 (b := kitF K "NoRow" "NoRow" true) rfl), kitF_ok (obsM_more c 6 (b := kitF K "NoRow" "NoKnown" false) rfl), kitF_ok (obsM_more c 7 (b := kitF K "NoRow" "TooMany" false) rfl), kitF_ok (obsM_more c 8 (b := kitF K "NoKnown" "NoRow" false) rfl), kitF_ok (obsM_more c 9 (b := kitF K "NoKnown" "NoKnown" true) rfl), kitF_ok (obsM_more c 10 (b := kitF K "NoKnown" "TooMany" false) rfl), kitF_ok (obsM_more c 11 (b := kitF K "TooMany" "NoRow" false) rfl), kitF_ok (obsM_more c 12 (b := kitF K "TooMany" "NoKnown" false) rfl), kitF_ok (obsM_more c 13 (b := kitF K "TooMany" "TooMany" true) rfl)⟩
theorem factsR {f : Addr} (X : K.In h) (G : h.Ns mainGlobals mg) (hf : mg ("law" : Str) = some (.ref f)) (c : obsM K = valM) :
    ∃ fd : FuncData, (∀ (s : Shared) (v : Value), BindsTo s fd ⟨[v], []⟩ [("_law_script", v)]) ∧ ∀ base : Heap, K.In base → base.Ns mainGlobals mg → FnOkG P w K mg base CX0 66 f fd A66 (spW (okLaw K)) := by
  have d := obsM_d c
  have T : Tx mg := txR X G d
  have SC := seatR d
  have TC := askR d
  obtain ⟨fdM, TE⟩ := extR X G c
  have TT := tryR X G c
  obtain ⟨fd11, F11, B11⟩ := def11 d
  obtain ⟨fd12, F12, B12⟩ := def12 d
  obtain ⟨fd13, F13, B13⟩ := def13 d
  obtain ⟨fd14, F14, B14⟩ := def14 d
  obtain ⟨fd15, F15, B15⟩ := def15 d
  obtain ⟨fd16, F16, B16⟩ := def16 d
  obtain ⟨fd17, F17, B17⟩ := def17 d
  obtain ⟨fd18, F18, B18⟩ := def18 d
  obtain ⟨fd19, F19, B19⟩ := def19 d
  obtain ⟨fd21, F21, B21⟩ := def21 d
  obtain ⟨fd24, F24, B24⟩ := def24 d
  obtain ⟨fd25, F25, B25⟩ := def25 d
  obtain ⟨fd29, F29, B29⟩ := def29 d
  obtain ⟨fd30, F30, B30⟩ := def30 d
  obtain ⟨fd31, F31, B31⟩ := def31 d
  obtain ⟨fd32, F32, B32⟩ := def32 d
  obtain ⟨fd33, F33, B33⟩ := def33 d
  obtain ⟨fd35, F35, B35⟩ := def35 d
  obtain ⟨fd36, F36, B36⟩ := def36 d
  obtain ⟨fd37, F37, B37⟩ := def37 d
  obtain ⟨fd38, F38, B38⟩ := def38 d
  obtain ⟨fd39, F39, B39⟩ := def39 d
  obtain ⟨fd41, F41, B41⟩ := def41 d
  obtain ⟨fd42, F42, B42⟩ := def42 d
  obtain ⟨fd43, F43, B43⟩ := def43 d
  obtain ⟨fd44, F44, B44⟩ := def44 d
  obtain ⟨fd46, F46, B46⟩ := def46 d
  obtain ⟨fd47, F47, B47⟩ := def47 d
  obtain ⟨fd49, F49, B49⟩ := def49 d
  obtain ⟨fd50, F50, B50⟩ := def50 d
  obtain ⟨fd51, F51, B51⟩ := def51 d
  obtain ⟨fd57, F57, B57⟩ := def57 d
  obtain ⟨fd58, F58, B58⟩ := def58 d
  obtain ⟨fd59, F59, B59⟩ := def59 d
  obtain ⟨fd60, F60, B60⟩ := def60 d
  obtain ⟨fd61, F61, B61⟩ := def61 d
  obtain ⟨fd62, F62, B62⟩ := def62 d
  obtain ⟨fd63, F63, B63⟩ := def63 d
  obtain ⟨fd64, F64, B64⟩ := def64 d
  obtain ⟨fd65, F65, B65⟩ := def65 d
  obtain ⟨fd66, F66, B66⟩ := def66 d
  obtain ⟨fd22_0, F22_0, B22_0⟩ := def22_0 d
  obtain ⟨fd34_0, F34_0, B34_0⟩ := def34_0 d
  obtain ⟨fd34_1, F34_1, B34_1⟩ := def34_1 d
  obtain ⟨fd34_2, F34_2, B34_2⟩ := def34_2 d
  obtain ⟨fd34_3, F34_3, B34_3⟩ := def34_3 d
  obtain ⟨fd34_4, F34_4, B34_4⟩ := def34_4 d
  have g11 : mg "is_integer" = some (.ref (He.ga K "is_integer")) := He.glo_ok X G (d.fact 22 (f := .glo "is_integer") rfl)
  have g12 : mg "is_within" = some (.ref (He.ga K "is_within")) := He.glo_ok X G (d.fact 23 (f := .glo "is_within") rfl)
  have g13 : mg "is_pair" = some (.ref (He.ga K "is_pair")) := He.glo_ok X G (d.fact 24 (f := .glo "is_pair") rfl)
  have g14 : mg "is_ascending" = some (.ref (He.ga K "is_ascending")) := He.glo_ok X G (d.fact 25 (f := .glo "is_ascending") rfl)
  have g15 : mg "is_marks" = some (.ref (He.ga K "is_marks")) := He.glo_ok X G (d.fact 26 (f := .glo "is_marks") rfl)
  have g16 : mg "is_kind" = some (.ref (He.ga K "is_kind")) := He.glo_ok X G (d.fact 27 (f := .glo "is_kind") rfl)
  have g17 : mg "is_lot" = some (.ref (He.ga K "is_lot")) := He.glo_ok X G (d.fact 28 (f := .glo "is_lot") rfl)
  have g18 : mg "is_row" = some (.ref (He.ga K "is_row")) := He.glo_ok X G (d.fact 29 (f := .glo "is_row") rfl)
  have g19 : mg "check_row" = some (.ref (He.ga K "check_row")) := He.glo_ok X G (d.fact 30 (f := .glo "check_row") rfl)
  have g21 : mg "first_no_lot" = some (.ref (He.ga K "first_no_lot")) := He.glo_ok X G (d.fact 31 (f := .glo "first_no_lot") rfl)
  have g24 : mg "first_seat" = some (.ref (He.ga K "first_seat")) := He.glo_ok X G (d.fact 32 (f := .glo "first_seat") rfl)
  have g25 : mg "led" = some (.ref (He.ga K "led")) := He.glo_ok X G (d.fact 33 (f := .glo "led") rfl)
  have g29 : mg "is_known" = some (.ref (He.ga K "is_known")) := He.glo_ok X G (d.fact 34 (f := .glo "is_known") rfl)
  have g30 : mg "closed_pairs" = some (.ref (He.ga K "closed_pairs")) := He.glo_ok X G (d.fact 35 (f := .glo "closed_pairs") rfl)
  have g31 : mg "check_known" = some (.ref (He.ga K "check_known")) := He.glo_ok X G (d.fact 36 (f := .glo "check_known") rfl)
  have g32 : mg "orders_of" = some (.ref (He.ga K "orders_of")) := He.glo_ok X G (d.fact 37 (f := .glo "orders_of") rfl)
  have g33 : mg "flags_of" = some (.ref (He.ga K "flags_of")) := He.glo_ok X G (d.fact 38 (f := .glo "flags_of") rfl)
  have g35 : mg "asking_of" = some (.ref (He.ga K "asking_of")) := He.glo_ok X G (d.fact 39 (f := .glo "asking_of") rfl)
  have g36 : mg "asked_least" = some (.ref (He.ga K "asked_least")) := He.glo_ok X G (d.fact 40 (f := .glo "asked_least") rfl)
  have g37 : mg "tree" = some (.ref (He.ga K "tree")) := He.glo_ok X G (d.fact 41 (f := .glo "tree") rfl)
  have g38 : mg "is_tree_for" = some (.ref (He.ga K "is_tree_for")) := He.glo_ok X G (d.fact 42 (f := .glo "is_tree_for") rfl)
  have g39 : mg "is_tree" = some (.ref (He.ga K "is_tree")) := He.glo_ok X G (d.fact 43 (f := .glo "is_tree") rfl)
  have g41 : mg "_law_flag" = some (.ref (He.ga K "_law_flag")) := He.glo_ok X G (d.fact 44 (f := .glo "_law_flag") rfl)
  have g42 : mg "_law_tape" = some (.ref (He.ga K "_law_tape")) := He.glo_ok X G (d.fact 45 (f := .glo "_law_tape") rfl)
  have g43 : mg "_law_pick" = some (.ref (He.ga K "_law_pick")) := He.glo_ok X G (d.fact 46 (f := .glo "_law_pick") rfl)
  have g44 : mg "_law_kinds" = some (.ref (He.ga K "_law_kinds")) := He.glo_ok X G (d.fact 47 (f := .glo "_law_kinds") rfl)
  have g46 : mg "_law_lot" = some (.ref (He.ga K "_law_lot")) := He.glo_ok X G (d.fact 48 (f := .glo "_law_lot") rfl)
  have g47 : mg "_law_lots" = some (.ref (He.ga K "_law_lots")) := He.glo_ok X G (d.fact 49 (f := .glo "_law_lots") rfl)
  have g49 : mg "_law_led" = some (.ref (He.ga K "_law_led")) := He.glo_ok X G (d.fact 50 (f := .glo "_law_led") rfl)
  have g50 : mg "_law_odd" = some (.ref (He.ga K "_law_odd")) := He.glo_ok X G (d.fact 51 (f := .glo "_law_odd") rfl)
  have g51 : mg "_law_is_int" = some (.ref (He.ga K "_law_is_int")) := He.glo_ok X G (d.fact 52 (f := .glo "_law_is_int") rfl)
  have g57 : mg "_law_orders" = some (.ref (He.ga K "_law_orders")) := He.glo_ok X G (d.fact 53 (f := .glo "_law_orders") rfl)
  have g58 : mg "_law_flags" = some (.ref (He.ga K "_law_flags")) := He.glo_ok X G (d.fact 54 (f := .glo "_law_flags") rfl)
  have g59 : mg "_law_parted" = some (.ref (He.ga K "_law_parted")) := He.glo_ok X G (d.fact 55 (f := .glo "_law_parted") rfl)
  have g60 : mg "_law_least" = some (.ref (He.ga K "_law_least")) := He.glo_ok X G (d.fact 56 (f := .glo "_law_least") rfl)
  have g61 : mg "_law_depth" = some (.ref (He.ga K "_law_depth")) := He.glo_ok X G (d.fact 57 (f := .glo "_law_depth") rfl)
  have g62 : mg "_law_own" = some (.ref (He.ga K "_law_own")) := He.glo_ok X G (d.fact 58 (f := .glo "_law_own") rfl)
  have g63 : mg "_law_bent" = some (.ref (He.ga K "_law_bent")) := He.glo_ok X G (d.fact 59 (f := .glo "_law_bent") rfl)
  have g64 : mg "_law_tried" = some (.ref (He.ga K "_law_tried")) := He.glo_ok X G (d.fact 60 (f := .glo "_law_tried") rfl)
  have g65 : mg "_law_refuses" = some (.ref (He.ga K "_law_refuses")) := He.glo_ok X G (d.fact 61 (f := .glo "_law_refuses") rfl)
  have g66 : mg "law" = some (.ref (He.ga K "law")) := He.glo_ok X G (d.fact 62 (f := .glo "law") rfl)
  cases hf.symm.trans g66
  obtain ⟨oc, od, dV, kV, doc, pm, an, cdv, ct, osl, ex, lk, hcd, hD, hK⟩ := F66.ex
  refine ⟨fd66, fun s v => FunD.bindsA (ps := A66) F66 (fun _ _ _ _ _ _ us hl => match us, hl with | [_], _ => rfl) s [v] rfl, fun base _ _ => ?_⟩
  have gS : mg "Seats" = some (.ref (He.ga K "Seats")) := He.glo_ok X G (d.fact 67 (f := .glo "Seats") rfl)
  have gA : mg "Asking" = some (.ref (He.ga K "Asking")) := He.glo_ok X G (d.fact 68 (f := .glo "Asking") rfl)
  have kS := He.mkr_ok (d.fact 72 (f := .mkr "Seats") rfl)
  have kA := He.mkr_ok (d.fact 77 (f := .mkr "Asking") rfl)
  have mT := He.meth_ok (d.fact 78 (f := .meth "Asking" "told") rfl)
  have mP := He.meth_ok (d.fact 79 (f := .meth "Asking" "parts") rfl)
  have mB := He.meth_ok (d.fact 80 (f := .meth "Asking" "best") rfl)
  have mR := He.meth_ok (d.fact 81 (f := .meth "Asking" "tree") rfl)
  have C11 : Cal P w K mg base CX0 1 "is_integer" A11 (spN okInteger) := ⟨_, _, ok11 F11 T, g11, F11.kp, B11⟩
  have C12 : Cal P w K mg base CX0 2 "is_within" A12 (spN okWithin) := ⟨_, _, ok12 F12 T C11, g12, F12.kp, B12⟩
  have C13 : Cal P w K mg base CX0 1 "is_pair" A13 (spN okPair) := ⟨_, _, ok13 F13 T, g13, F13.kp, B13⟩
  have C14 : Cal P w K mg base CX0 1 "is_ascending" A14 (spN okAscending) := ⟨_, _, ok14 F14 T, g14, F14.kp, B14⟩
  have C15 : Cal P w K mg base CX0 2 "is_marks" A15 (spN okMarks) := ⟨_, _, ok15 F15 T C14, g15, F15.kp, B15⟩
  have C16 : Cal P w K mg base CX0 2 "is_kind" A16 (spN okKind) := ⟨_, _, ok16 F16 T C14, g16, F16.kp, B16⟩
  have C17 : Cal P w K mg base CX0 3 "is_lot" A17 (spN okLot) := ⟨_, _, ok17 F17 T C14 C16, g17, F17.kp, B17⟩
  have C18 : Cal P w K mg base CX0 3 "is_row" A18 (spN okRow) := ⟨_, _, ok18 F18 T C16, g18, F18.kp, B18⟩
  have C24 : Cal P w K mg base CX0 1 "first_seat" A24 (spN okFirst) := ⟨_, _, ok24 F24 , g24, F24.kp, B24⟩
  have C25 : Cal P w K mg base CX0 2 "led" A25 (spN okLed) := ⟨_, _, ok25 F25 T C24, g25, F25.kp, B25⟩
  have C49 : Cal P w K mg base CX0 1 "_law_led" A49 (spN okLedL') := ⟨_, _, ok49 F49 T, g49, F49.kp, B49⟩
  have C33 : Cal P w K mg base CX0 3 "flags_of" A33 (spN okFlags) := ⟨_, _, ok33 F33 T C25, g33, F33.kp, B33⟩
  have C58 : Cal P w K mg base CX0 2 "_law_flags" A58 (spN okFlags) := ⟨_, _, ok58 F58 T C49, g58, F58.kp, B58⟩
  have C41 : Cal P w K mg base CX0 1 "_law_flag" A41 (spN okFlag) := ⟨_, _, ok41 F41 T, g41, F41.kp, B41⟩
  have C51 : Cal P w K mg base CX0 1 "_law_is_int" A51 (spN okWithin) := ⟨_, _, ok51 F51 T, g51, F51.kp, B51⟩
  have C59 : Cal P w K mg base CX0 1 "_law_parted" A59 (spN okParted) := ⟨_, _, ok59 F59 T, g59, F59.kp, B59⟩
  have C57 : Cal P w K mg base CX0 1 "_law_orders" A57 (spN okOrders) := ⟨_, _, ok57 F57 T, g57, F57.kp, B57⟩
  have C29 : Cal P w K mg base CX0 3 "is_known" A29 (spN okKnown) := ⟨_, _, ok29 F29 T C13 C12, g29, F29.kp, B29⟩
  have C30 : Cal P w K mg base CX0 1 "closed_pairs" A30 (spN okClosed) := ⟨_, _, ok30 F30 T, g30, F30.kp, B30⟩
  have C32 : Cal P w K mg base CX0 1 "orders_of" A32 (spN okOrdP) := ⟨_, _, ok32 F32 T, g32, F32.kp, B32⟩
  have CT : CalM P w K mg base CX0 1 (He.ga K "Asking") "told" A34_1 (spN (okTold (He.ga K "Asking"))) := ⟨_, _, ok34_1 F34_1 T TC, mT, B34_1⟩
  have CP : CalM P w K mg base CX0 1 (He.ga K "Asking") "parts" A34_2 (spN (okParts (He.ga K "Asking"))) := ⟨_, _, ok34_2 F34_2 T TC, mP, B34_2⟩
  have CB : ∀ m, CalM P w K mg base CX0 (2 + m) (He.ga K "Asking") "best" A34_3 (spW (okBest (He.ga K "Asking") m)) := fun m => ⟨_, _, ok34_3 F34_3 T TC mB B34_3 CT CP m, mB, B34_3⟩
  have CE : ∀ m, CalM P w K mg base CX0 (3 + m) (He.ga K "Asking") "tree" A34_4 (spW (okTree (He.ga K "Asking") m)) := fun m => ⟨_, _, ok34_4 F34_4 T TC mR B34_4 CT CB m, mR, B34_4⟩
  have C19 : Cal P w K mg base (L2N.CX P w) 4 "check_row" A19 (spG (okCheckRow (He.ga K "NoRow"))) := ⟨_, _, ok19 F19 T TE C18, g19, F19.kp, B19⟩
  have C31 : Cal P w K mg base (L2N.CX P w) 4 "check_known" A31 (spG (okCheckKnown (He.ga K "NoKnown"))) := ⟨_, _, ok31 F31 T TE C29 C30, g31, F31.kp, B31⟩
  have CA0 : CalK P w K mg base CX0 4 "Asking" (He.ga K "Asking") A34_0 (spIO (okAskInit (He.ga K "Asking"))) := ⟨_, _, ok34_0 F34_0 T TC C33 C32, gA, kA, B34_0⟩
  have C38 : ∀ m, Cal P w K mg base CX0 (2 + m) "is_tree_for" A38 (spN (okTF (He.ga K "Asking") m)) := fun m => ⟨_, _, ok38 F38 T TC g38 B38 CT CP C13 C11 m, g38, F38.kp, B38⟩
  have C35 : Cal P w K mg base (L2N.CX P w) 6 "asking_of" A35 (spG (okAsk (He.ga K "Asking") (He.ga K "Seats") (He.ga K "NoRow") (He.ga K "NoKnown") (He.ga K "TooMany"))) := ⟨_, _, ok35 F35 T TE SC C19 C31 CA0 C32, g35, F35.kp, B35⟩
  have C36 : Cal P w K mg base (L2N.CX P w) 13 "asked_least" A36 (spG (okLeast (He.ga K "Seats") (He.ga K "NoRow") (He.ga K "NoKnown") (He.ga K "TooMany"))) := ⟨_, _, ok36 F36 TC C35 CB, g36, F36.kp, B36⟩
  have C37 : Cal P w K mg base (L2N.CX P w) 14 "tree" A37 (spG (okTreeF (He.ga K "Seats") (He.ga K "NoRow") (He.ga K "NoKnown") (He.ga K "TooMany"))) := ⟨_, _, ok37 F37 TC C35 CE, g37, F37.kp, B37⟩
  have C39 : Cal P w K mg base (L2N.CX P w) 63 "is_tree" A39 (spG (okIsTree (He.ga K "Seats") (He.ga K "NoRow") (He.ga K "NoKnown") (He.ga K "TooMany"))) := ⟨_, _, ok39 F39 TC C35 C38, g39, F39.kp, B39⟩
  have C21 : Cal P w K mg base CX0 4 "first_no_lot" A21 (spN okNoLot) := ⟨_, _, ok21 F21 T C17, g21, F21.kp, B21⟩
  have CS0 : CalK P w K mg base CX0 5 "Seats" (He.ga K "Seats") A22_0 (spI (okSeats (He.ga K "Seats"))) := ⟨_, _, ok22_0 F22_0 T SC C15 C21, gS, kS, B22_0⟩
  have C43 : Cal P w K mg base CX0 1 "_law_pick" A43 (spW okPick) := ⟨_, _, ok43 F43 T, g43, F43.kp, B43⟩
  have C44 : Cal P w K mg base CX0 1 "_law_kinds" A44 (spN okKinds) := ⟨_, _, ok44 F44 T, g44, F44.kp, B44⟩
  have C46 : Cal P w K mg base CX0 2 "_law_lot" A46 (spW okLotL) := ⟨_, _, ok46 F46 T C43, g46, F46.kp, B46⟩
  have C47 : Cal P w K mg base CX0 3 "_law_lots" A47 (spW okLots) := ⟨_, _, ok47 F47 T C43 C46, g47, F47.kp, B47⟩
  have C50 : Cal P w K mg base CX0 2 "_law_odd" A50 (spW okOdd) := ⟨_, _, ok50 F50 T C43, g50, F50.kp, B50⟩
  have C61 : ∀ m, Cal P w K mg base CX0 (2 + m) "_law_depth" A61 (spN (okDepth m)) := fun m => ⟨_, _, ok61 F61 T g61 B61 C51 C59 m, g61, F61.kp, B61⟩
  have C62 : ∀ m, Cal P w K mg base CX0 (2 + m) "_law_own" A62 (spW (okOwn m)) := fun m => ⟨_, _, ok62 F62 T g62 B62 C43 C59 m, g62, F62.kp, B62⟩
  have C63 : ∀ m, Cal P w K mg base CX0 (3 + m) "_law_bent" A63 (spW (okBent m)) := fun m => ⟨_, _, ok63 F63 T g63 B63 C43 C50 m, g63, F63.kp, B63⟩
  have C42 : Cal P w K mg base (L2N.CX P w) 1 "_law_tape" A42 (spG (okTapeK K)) := ⟨_, _, ok42 F42 T, g42, F42.kp, B42⟩
  have C60 : ∀ m, CalG P w K mg base CX0 (2 + m) "_law_least" A60 (spW (okLeastL m)) := fun m => ⟨_, _, ok60 F60 T g60 B60 C59 m, g60, F60.kp, B60⟩
  have C64 : Cal P w K mg base CX0 64 "_law_tried" A64 (spW (okTried (He.ga K "Seats"))) := ⟨_, _, ok64 F64 T TE TT C36 C37 C39, g64, F64.kp, B64⟩
  have C65 : Cal P w K mg base CX0 65 "_law_refuses" A65 (spW (okRef (He.ga K "Seats"))) := ⟨_, _, ok65 F65 T C64, g65, F65.kp, B65⟩
  have LC : LawC P w K mg base (He.ga K "NoRow") (He.ga K "NoKnown") (He.ga K "TooMany") (He.ga K "Seats") := ⟨C42, C43, C44, C47, CS0, C57, C58, C60 10, C37, C36, C39, C61 15, C62 10, C63 12, C50, C41, C65⟩
  exact ok66 F66 T LC
end
end K14

set_option Elab.async false
set_option linter.all false
set_option maxRecDepth 100000
set_option maxHeartbeats 4000000
namespace K14
open PySem L2
section
open PySem.Spec PyProof.Rows
theorem intsV : ∀ {us : List Value} {ns : List Int}, IntsAre us ns → Vals (ns.map V.int) us
  | _, _, .nil => .nil
  | _, _, .cons n t r => .cons ⟨t, rfl⟩ (intsV r)
variable {P : Program} {w : World} {K : PySem.W.Frag} {mg mb : Str → Option Value} {k : Nat} {fa a : Addr} {fd : FuncData} {x : Str} {sp : Sp} {t : Shared} {us : List Value} {ns : List Int}
/-- the law's end over an abstract heap that holds the script, or nothing -/
theorem lawEnd1 {H : Hp} (kx : K.In t.heap) (gl : t.heap.Ns mainGlobals mg) (bl : t.heap.Ns builtinsNs mb) (bb : ∀ y : Str, y ≠ "__name__" → mb y = bootBuiltins y) (nl : t.heap.NoLimit) (gn : t.gens = #[])
    (sc : t.heap.get? a = some { cls := .type "list", data := .seq us.toArray }) (rm : Room k callerA)
    (F : ∀ b : Heap, K.In b → b.Ns mainGlobals mg → FnOkG P w K mg b CX0 k fa fd [x] sp) (bd : ∀ (s : Shared) (u : Value), BindsTo s fd ⟨[u], []⟩ [(x, u)]) (hs : sp [.ref a] H (fun v _ => v = .bl true) fun _ _ _ => False)
    (ok : HOk P w H t.heap) (only : ∀ b u, H b = some u → b = a ∧ ∃ o ys, u = .frz o (.lst ys)) (out : H a ≠ none → K.lookup a = none) :
    codeAny (model P w) callerA (.call (.ref fa) ⟨[.ref a], []⟩) (fun r s' => r = .ok (.ret (.bool true)) ∧ OldK t.heap s'.heap ∧ s'.os = t.os ∧ AllBare s'.gens) t := by
  have off : ∀ b, b ≠ a → H b = none := fun b nb => by
    cases q : H b with
    | none => rfl
    | some u => exact absurd (only b u q).1 nb
  have dic : ∀ {b : Addr} {m : Str → Option Value}, t.heap.Ns b m → (hidT t.heap H).Ns b m := fun {b m} ⟨o, es, n, e, d, r⟩ => ⟨o, es, n, hidT_get e (off b fun z => (by
    rw [z, sc] at e
    cases e
    exact nomatch (show Data.seq _ _ = Data.dict es n from d))), d, r⟩
  have kin : K.In (hidT t.heap H) := fun b o e => hidT_get (kx b o e) (by
    by_cases z : b = a
    · cases q : H b with
      | none => rfl
      | some u =>
        subst z
        rw [out (by rw [q]; exact Option.some_ne_none u)] at e
        cases e
    · exact off b z)
  obtain ⟨m0, n1, n2⟩ := nl
  have md : Mod K mg (hidT t.heap H) := ⟨kin, dic gl, ⟨mb, dic bl, bb⟩, m0, dic n1, n2⟩
  have ev : Env0 P w K mg (hidT t.heap H) callerA [] t H := ⟨rfl, md, fun b o e => of_hidT e, Nat.le_of_eq (hidT_size _ _), trivial, fun b hb => (by cases hb), ok, .of_eq gn⟩
  refine codeAny_mono ((F _ kin (dic gl)).run callerA [] t H ⟨[.ref a], []⟩ [.ref a] [.ref a] _ _ rfl rm ev (bd t (.ref a)) (.cons rfl .nil) hs) fun r s' q => ?_
  match r, q with
  | .error _, q => exact False.elim q
  | .ok .next, q => exact False.elim q
  | .ok .brk, q => exact False.elim q
  | .ok .cont, q => exact False.elim q
  | .ok (.ret u), ⟨v, H', os, bare, un, ok', rv, e⟩ =>
    have e' : v = .bl true := e
    subst e'
    have rv' : u = Value.bool true := rv
    subst rv'
    refine ⟨rfl, OldK.of_keep fun b o g => ?_, os, bare⟩
    cases q : H b with
    | none => exact un.keep b o g q (fun z => (by cases z)) (fun z => (by cases z))
    | some u =>
      obtain ⟨_, ob, ys, rfl⟩ := only b u q
      have g1 := (ok b _ q).1
      have g2 := (ok' b _ (un.frzs b ob _ q)).1
      rw [g] at g1
      cases g1
      exact g2
theorem lawEnd (kx : K.In t.heap) (gl : t.heap.Ns mainGlobals mg) (bl : t.heap.Ns builtinsNs mb) (bb : ∀ y : Str, y ≠ "__name__" → mb y = bootBuiltins y) (nl : t.heap.NoLimit) (gn : t.gens = #[])
    (sc : t.heap.get? a = some { cls := .type "list", data := .seq us.toArray }) (is_ : IntsAre us ns) (le : ns.length ≤ sizeLine) (rm : Room k callerA)
    (F : ∀ b : Heap, K.In b → b.Ns mainGlobals mg → FnOkG P w K mg b CX0 k fa fd [x] sp) (bd : ∀ (s : Shared) (u : Value), BindsTo s fd ⟨[u], []⟩ [(x, u)])
    (hs : ∀ H : Hp, SqL K H a (ns.map V.int) → sp [.ref a] H (fun v _ => v = .bl true) fun _ _ _ => False) :
    codeAny (model P w) callerA (.call (.ref fa) ⟨[.ref a], []⟩) (fun r s' => r = .ok (.ret (.bool true)) ∧ OldK t.heap s'.heap ∧ s'.os = t.os ∧ AllBare s'.gens) t := by
  have vs := intsV is_
  have ln := is_.length
  by_cases hk : K.lookup a = none
  · have at0 : (fun b => if b = a then some (HO.frz { cls := .type "list", data := .seq us.toArray } (.lst (ns.map V.int))) else none : Hp) a = some (.frz { cls := .type "list", data := .seq us.toArray } (.lst (ns.map V.int))) := if_pos rfl
    have only : ∀ b u, (fun b => if b = a then some (HO.frz { cls := .type "list", data := .seq us.toArray } (.lst (ns.map V.int))) else none : Hp) b = some u → b = a ∧ u = .frz { cls := .type "list", data := .seq us.toArray } (.lst (ns.map V.int)) := fun b u e => by
      by_cases z : b = a
      · exact ⟨z, (Option.some.inj ((if_pos z).symm.trans e)).symm⟩
      · exact nomatch (if_neg z).symm.trans e
    refine lawEnd1 kx gl bl bb nl gn sc rm F bd (hs _ (.inl (.inr ⟨_, at0⟩))) (fun b u e => ?_) (fun b u e => ⟨(only b u e).1, _, _, (only b u e).2⟩) fun _ => hk
    obtain ⟨rfl, rfl⟩ := only b u e
    exact ⟨sc, by rw [List.length_map]; exact le, us, _, vs, sc⟩
  · obtain ⟨o, ho⟩ : ∃ o, K.lookup a = some o := by
      cases q : K.lookup a with
      | none => exact absurd q hk
      | some o => exact ⟨o, rfl⟩
    have e := kx a o ho
    rw [sc] at e
    cases e
    exact lawEnd1 (H := fun _ => none) kx gl bl bb nl gn sc rm F bd (hs _ (.inr ⟨_, us.toArray, _, ho, rfl, rfl, rfl, by rw [List.size_toArray, ln]; exact le, by simpa using vs⟩)) (fun b u z => nomatch (show (none : Option HO) = some u from z)) (fun b u z => nomatch (show (none : Option HO) = some u from z)) fun z => absurd rfl z
end
/-- the law's promise, at the script -/
theorem lawSp {K : PySem.W.Frag} {H : Hp} {a : Addr} {ns : List Int} (h : SqL K H a (ns.map V.int)) : spW (okLaw K) [.ref a] H (fun v _ => v = .bl true) fun _ _ _ => False :=
  ⟨scR K a (ns.map .int), [.obj a], fun d => d = .bl true, scR_ok h, .cons (.obj a) .nil, ⟨ns, a, rfl, fun _ ok => scR_sq ok, fun _ _ _ _ _ m => m, rfl⟩, fun d v H' _ _ hd r => by subst hd; cases r; rfl⟩
end K14

set_option Elab.async false
set_option linter.all false
set_option maxRecDepth 100000
set_option maxHeartbeats 0
open PySem PySem.W PySem.Calls PyProof.Rows
theorem PySem.Challenge.cw_narrowahead_k14_whole_questions_that_are_holds : PySem.Challenge.rw_narrowahead_k14_whole_questions_that_are.Holds := by
  w_on; o_law
  refine HandSHeadRun.head_any (r := K14.rowR) (q := K14.viewQ) (H := K14.hookM) (ob := K14.obM) (M := 4000) (loose := K14.namesR) (d := HandSHeadRun.topDef K14.rowR.prog 66) (kwd := []) K14.obM_eq
    (by kernel_rfl) (fun s => by kernel_rfl) K14.runR (by kernel_rfl) (by kernel_rfl) (by kernel_rfl) (by rfl) (by first | assumption | decide +kernel) (by decide +kernel) ⟨rfl, rfl, rfl, rfl, rfl, by decide +kernel⟩ ?hw ?hc
  case hw => w_witness2
  case hc =>
    refine Att.attach_call (l := PySem.Challenge.rw_narrowahead_k14_whole_questions_that_are) (n := 63) rfl (by kernel_rfl) fun w s₀ s₁ mg mb fa o pm cd doc a vs ns G Y ho hd hcd hmg0 hobj hints hlen hg => ?_
    obtain ⟨K, KX, c⟩ := Y
    have hmg : mg ("law" : PySem.Str) = some (.ref fa) := by
      have e : (HandSHeadRun.topDef K14.rowR.prog 66).name = ("law" : PySem.Str) := by kernel_rfl
      rw [← e]
      exact hmg0
    obtain ⟨fd, hb, hF⟩ := K14.factsR (P := (PySem.Challenge.rw_narrowahead_k14_whole_questions_that_are).prog) (w := w) KX G.T.g hmg c
    exact K14.lawEnd KX G.T.g G.T.b G.T.builtins G.T.nolimit hg hobj hints (Nat.le_trans hlen (by decide)) ⟨rfl, by decide, by decide⟩ hF hb fun H hS => K14.lawSp hS
