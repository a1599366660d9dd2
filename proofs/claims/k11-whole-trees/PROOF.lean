import PyProof.Rows.All
import Wide.All
import OpenK.AllK
import Wide.FinOn
import HandS.ForMost
import HandS.Evl
import HandS.Walk
import HandS.Star
import HandS.Property
import HandS.DictComp
import HandS.IsInst
import HandS.Style
import HandS.EndTab
import HandS.Nested
import KE.GoesMore
import KE.GoesEnum
import KE.SortKeyHeap
import HandS.SortKw
import KE.KUnpackStar
import HandS.MethStar
import HandS.GenCall
import PySem.Challenge.RW_relitgoals_k11_whole_trees_renamed_and_o
section
set_option Elab.async false
set_option linter.all false
set_option maxRecDepth 100000
/-! ## The mirror: what the program reckons, as plain functions of lists of letters -/
namespace RG
/-- a set of lamps: its letters -/
abbrev Wd := List Nat
def abc : Wd := [97,98,99,100,101,102,103,104,105,106,107,108,109,110,111,112,113,114,115,116,117,118,119,120,121,122]
def pairsOf : Wd → List (Nat × Nat)
  | a :: b :: r => (a, b) :: pairsOf (b :: r)
  | _ => []
def risingM (l : Wd) : Bool := l.all (fun c => abc.contains c) && (pairsOf l).all fun p => decide (p.1 < p.2)
def isLampsM (l : Wd) : Bool := (decide (1 ≤ l.length) && decide (l.length ≤ 4)) && risingM l
def isSetM (l lamps : Wd) : Bool := risingM l && l.all fun c => lamps.contains c
def withinM (a b : Wd) : Bool := a.all fun c => b.contains c
def rawFrom (acc : List Wd) : Wd → List Wd
  | [] => acc
  | c :: r => rawFrom (acc ++ acc.map fun l => l ++ [c]) r
def rawSets (lamps : Wd) : List Wd := rawFrom [[]] lamps
def leLex : Wd → Wd → Bool
  | [], _ => true
  | _ :: _, [] => false
  | a :: r, b :: t => if a = b then leLex r t else decide (a < b)
def leSz (a b : Wd) : Bool := if a.length = b.length then leLex a b else decide (a.length < b.length)
def insBy (le : Wd → Wd → Bool) (x : Wd) : List Wd → List Wd
  | [] => [x]
  | y :: r => if le x y then x :: y :: r else y :: insBy le x r
def isort (le : Wd → Wd → Bool) : List Wd → List Wd
  | [] => []
  | x :: r => insBy le x (isort le r)
def setsOf (lamps : Wd) : List Wd := isort leSz (rawSets lamps)
def unlikeM (O : List Wd) (lit : Wd) : List Wd := (setsOf lit).filter fun one => O.contains one != O.contains lit
def partsM (O : List Wd) (lit : Wd) : List Wd := isort leLex ((unlikeM O lit).filter fun one => !(unlikeM O lit).any fun two => (one != two) && withinM one two)
def branchesM (O : List Wd) : Nat → Wd → List (List Wd)
  | 0, lit => [[lit]]
  | n + 1, lit => if (partsM O lit).isEmpty then [[lit]] else (partsM O lit).flatMap fun p => (branchesM O n p).map fun r => lit :: r
def maxM : List Int → Int
  | [] => 0
  | [a] => a
  | a :: r => if maxM r > a then maxM r else a
def worthM (O : List Wd) (one : Bool) : Nat → Wd → Int
  | 0, _ => 1
  | n + 1, lit => if (partsM O lit).isEmpty then 1 else
      if (O.contains lit == one) = true then ((partsM O lit).map (worthM O one n)).sum else maxM ((partsM O lit).map (worthM O one n))
def heightM (O : List Wd) (n : Nat) (lit : Wd) : Int := maxM ((branchesM O n lit).map fun b => (b.length : Int))

/-! ### orders -/
theorem leLex_refl : ∀ a : Wd, leLex a a = true
  | [] => rfl
  | a :: r => by simp [leLex, leLex_refl r]
theorem leLex_total : ∀ a b : Wd, leLex a b = true ∨ leLex b a = true
  | [], _ => .inl rfl
  | _ :: _, [] => .inr rfl
  | a :: r, b :: t => by
    by_cases h : a = b
    · subst h
      simpa [leLex] using leLex_total r t
    · have h' : ¬ b = a := fun e => h e.symm
      simp only [leLex, if_neg h, if_neg h', decide_eq_true_eq]
      omega
theorem leLex_anti : ∀ a b : Wd, leLex a b = true → leLex b a = true → a = b
  | [], [], _, _ => rfl
  | [], _ :: _, _, h => by simp [leLex] at h
  | _ :: _, [], h, _ => by simp [leLex] at h
  | a :: r, b :: t, h1, h2 => by
    by_cases h : a = b
    · subst h
      simp only [leLex, if_pos] at h1 h2
      rw [leLex_anti r t h1 h2]
    · have h' : ¬ b = a := fun e => h e.symm
      simp only [leLex, if_neg h, if_neg h', decide_eq_true_eq] at h1 h2
      omega
theorem leLex_trans : ∀ a b c : Wd, leLex a b = true → leLex b c = true → leLex a c = true
  | [], _, _, _, _ => rfl
  | _ :: _, [], _, h, _ => by simp [leLex] at h
  | _ :: _, _ :: _, [], _, h => by simp [leLex] at h
  | a :: r, b :: t, c :: u, h1, h2 => by
    by_cases e1 : a = b
    · subst e1
      simp only [leLex, if_pos] at h1
      by_cases e2 : a = c
      · subst e2
        simp only [leLex, if_pos] at h2 ⊢
        exact leLex_trans r t u h1 h2
      · simp only [leLex, if_neg e2] at h2 ⊢
        exact h2
    · simp only [leLex, if_neg e1, decide_eq_true_eq] at h1
      by_cases e2 : b = c
      · subst e2
        simp only [leLex, if_neg e1, decide_eq_true_eq]
        exact h1
      · simp only [leLex, if_neg e2, decide_eq_true_eq] at h2
        have e3 : ¬ a = c := by omega
        simp only [leLex, if_neg e3, decide_eq_true_eq]
        omega
theorem leSz_total (a b : Wd) : leSz a b = true ∨ leSz b a = true := by
  unfold leSz
  by_cases h : a.length = b.length
  · rw [if_pos h, if_pos h.symm]
    exact leLex_total a b
  · rw [if_neg h, if_neg (fun e => h e.symm)]
    simp only [decide_eq_true_eq]
    omega
theorem leSz_anti (a b : Wd) (h1 : leSz a b = true) (h2 : leSz b a = true) : a = b := by
  unfold leSz at h1 h2
  by_cases h : a.length = b.length
  · rw [if_pos h] at h1
    rw [if_pos h.symm] at h2
    exact leLex_anti a b h1 h2
  · rw [if_neg h] at h1
    rw [if_neg (fun e => h e.symm)] at h2
    simp only [decide_eq_true_eq] at h1 h2
    omega
theorem leSz_trans (a b c : Wd) (h1 : leSz a b = true) (h2 : leSz b c = true) : leSz a c = true := by
  unfold leSz at *
  by_cases e1 : a.length = b.length
  · rw [if_pos e1] at h1
    by_cases e2 : b.length = c.length
    · rw [if_pos e2] at h2
      rw [if_pos (e1.trans e2)]
      exact leLex_trans a b c h1 h2
    · rw [if_neg e2] at h2
      rw [if_neg (by omega)]
      simp only [decide_eq_true_eq] at h2 ⊢
      omega
  · rw [if_neg e1] at h1
    simp only [decide_eq_true_eq] at h1
    by_cases e2 : b.length = c.length
    · rw [if_neg (by omega)]
      simp only [decide_eq_true_eq]
      omega
    · rw [if_neg e2] at h2
      simp only [decide_eq_true_eq] at h2
      rw [if_neg (by omega)]
      simp only [decide_eq_true_eq]
      omega
/-! ### the insertion sort is THE sorted list -/
structure Ord (le : Wd → Wd → Bool) : Prop where
  total : ∀ a b, le a b = true ∨ le b a = true
  anti : ∀ a b, le a b = true → le b a = true → a = b
  trans : ∀ a b c, le a b = true → le b c = true → le a c = true
theorem ord_lex : Ord leLex := ⟨leLex_total, leLex_anti, leLex_trans⟩
theorem ord_sz : Ord leSz := ⟨leSz_total, leSz_anti, leSz_trans⟩
section
variable {le : Wd → Wd → Bool}
theorem insBy_perm (x : Wd) : ∀ l : List Wd, (insBy le x l).Perm (x :: l)
  | [] => .refl _
  | y :: r => by
    unfold insBy
    by_cases h : le x y = true
    · rw [if_pos h]
    · rw [if_neg h]
      exact ((insBy_perm x r).cons y).trans (.swap x y r)
theorem isort_perm : ∀ l : List Wd, (isort le l).Perm l
  | [] => .refl _
  | x :: r => (insBy_perm x _).trans ((isort_perm r).cons x)
theorem insBy_sorted (o : Ord le) (x : Wd) : ∀ l : List Wd, l.Pairwise (fun a b => le a b = true) → (insBy le x l).Pairwise (fun a b => le a b = true)
  | [], _ => by simp [insBy]
  | y :: r, h => by
    obtain ⟨h1, h2⟩ := List.pairwise_cons.mp h
    unfold insBy
    by_cases q : le x y = true
    · rw [if_pos q]
      refine List.pairwise_cons.mpr ⟨fun z hz => ?_, h⟩
      rcases List.mem_cons.mp hz with e | e
      · rw [e]; exact q
      · exact o.trans _ _ _ q (h1 z e)
    · rw [if_neg q]
      refine List.pairwise_cons.mpr ⟨fun z hz => ?_, insBy_sorted o x r h2⟩
      rcases List.mem_cons.mp ((insBy_perm x r).mem_iff.mp hz) with e | e
      · rw [e]
        exact (o.total x y).resolve_left q
      · exact h1 z e
theorem isort_sorted (o : Ord le) : ∀ l : List Wd, (isort le l).Pairwise (fun a b => le a b = true)
  | [] => .nil
  | x :: r => insBy_sorted o x _ (isort_sorted o r)
theorem sorted_one (o : Ord le) : ∀ l m : List Wd, l.Pairwise (fun a b => le a b = true) → m.Pairwise (fun a b => le a b = true) → l.Perm m → l = m
  | [], m, _, _, p => (List.nil_perm.mp p).symm
  | a :: r, [], _, _, p => absurd (List.perm_nil.mp p) (by simp)
  | a :: r, b :: t, h1, h2, p => by
    obtain ⟨a1, a2⟩ := List.pairwise_cons.mp h1
    obtain ⟨b1, b2⟩ := List.pairwise_cons.mp h2
    have e : a = b := by
      have ha : a ∈ b :: t := p.mem_iff.mp (List.mem_cons_self)
      have hb : b ∈ a :: r := p.mem_iff.mpr (List.mem_cons_self)
      rcases List.mem_cons.mp ha with e | e
      · exact e
      · rcases List.mem_cons.mp hb with e' | e'
        · exact e'.symm
        · exact o.anti _ _ (a1 b e') (b1 a e)
    subst e
    rw [sorted_one o r t a2 b2 (p.cons_inv)]
theorem isort_is (o : Ord le) {l m : List Wd} (p : m.Perm l) (h : m.Pairwise (fun a b => le a b = true)) : m = isort le l :=
  sorted_one o _ _ h (isort_sorted o l) (p.trans (isort_perm l).symm)
end
/-! ### the sets of some lamps are the parts of their letters -/
theorem mem_rawFrom : ∀ (l : Wd) (acc : List Wd) (p : Wd), p ∈ rawFrom acc l ↔ ∃ a q, a ∈ acc ∧ q.Sublist l ∧ p = a ++ q
  | [], acc, p => by
    constructor
    · intro h
      exact ⟨p, [], h, .refl _, by simp⟩
    · rintro ⟨a, q, h, hq, rfl⟩
      rw [List.sublist_nil.mp hq]
      simpa [rawFrom] using h
  | c :: r, acc, p => by
    rw [rawFrom, mem_rawFrom r]
    constructor
    · rintro ⟨a, q, h, hq, rfl⟩
      rcases List.mem_append.mp h with h | h
      · exact ⟨a, q, h, hq.cons c, rfl⟩
      · obtain ⟨b, hb, rfl⟩ := List.mem_map.mp h
        exact ⟨b, c :: q, hb, hq.cons_cons c, by simp⟩
    · rintro ⟨a, q, h, hq, rfl⟩
      cases hq with
      | cons _ hq => exact ⟨a, q, List.mem_append_left _ h, hq, rfl⟩
      | cons_cons _ hq => exact ⟨a ++ [c], _, List.mem_append_right _ (List.mem_map.mpr ⟨a, h, rfl⟩), hq, by simp⟩
theorem mem_setsOf {l p : Wd} : p ∈ setsOf l ↔ p.Sublist l := by
  unfold setsOf rawSets
  rw [(isort_perm _).mem_iff, mem_rawFrom]
  constructor
  · rintro ⟨a, q, h, hq, rfl⟩
    rw [List.mem_singleton.mp h]
    simpa using hq
  · intro h
    exact ⟨[], p, List.mem_singleton.mpr rfl, h, rfl⟩
theorem len_rawFrom : ∀ (l : Wd) (acc : List Wd), (rawFrom acc l).length = acc.length * 2 ^ l.length
  | [], acc => by simp [rawFrom]
  | c :: r, acc => by
    rw [rawFrom, len_rawFrom r]
    simp only [List.length_append, List.length_map, List.length_cons, Nat.pow_succ]
    rw [← Nat.two_mul, Nat.mul_comm 2 acc.length, Nat.mul_assoc, Nat.mul_comm 2]
theorem len_setsOf (l : Wd) : (setsOf l).length = 2 ^ l.length := by
  unfold setsOf rawSets
  rw [(isort_perm _).length_eq, len_rawFrom]
  simp
theorem len_setsOf4 {l : Wd} (h : l.length ≤ 4) : (setsOf l).length ≤ 16 := by
  rw [len_setsOf]
  exact Nat.pow_le_pow_right (by decide) h
theorem mem_partsM {O : List Wd} {lit p : Wd} (h : p ∈ partsM O lit) : p ∈ setsOf lit ∧ (O.contains p != O.contains lit) = true := by
  have h1 := (isort_perm _).mem_iff.mp h
  have h2 := (List.mem_filter.mp h1).1
  exact List.mem_filter.mp h2
theorem len_unlike (O : List Wd) (lit : Wd) : (unlikeM O lit).length ≤ (setsOf lit).length := List.length_filter_le _ _
theorem len_parts (O : List Wd) (lit : Wd) : (partsM O lit).length ≤ (setsOf lit).length := by
  unfold partsM
  rw [(isort_perm _).length_eq]
  exact Nat.le_trans (List.length_filter_le _ _) (len_unlike O lit)
theorem part_shorter {O : List Wd} {lit p : Wd} (h : p ∈ partsM O lit) : p.length < lit.length := by
  obtain ⟨h1, h2⟩ := mem_partsM h
  have s := mem_setsOf.mp h1
  rcases Nat.lt_or_ge p.length lit.length with q | q
  · exact q
  · have e : p = lit := s.eq_of_length (Nat.le_antisymm s.length_le q)
    subst e
    simp at h2
theorem setsOf_trans {a b c : Wd} (h1 : a ∈ setsOf b) (h2 : b ∈ setsOf c) : a ∈ setsOf c := mem_setsOf.mpr ((mem_setsOf.mp h1).trans (mem_setsOf.mp h2))
theorem self_mem_setsOf (l : Wd) : l ∈ setsOf l := mem_setsOf.mpr (.refl _)
/-- lamps that are lamps -/
structure GoodL (L : Wd) : Prop where
  lamps : isLampsM L = true
  sets : ∀ p ∈ setsOf L, isSetM p L = true
theorem GoodL.len {L : Wd} (g : GoodL L) : 1 ≤ L.length ∧ L.length ≤ 4 := by
  have h := g.lamps
  unfold isLampsM at h
  simp only [Bool.and_eq_true, decide_eq_true_eq] at h
  exact h.1
end RG

end

section
set_option Elab.async false
set_option linter.all false
set_option maxRecDepth 100000
set_option maxHeartbeats 4000000
namespace RG
open PySem L2 Evl

/-! ## the weakest readings: what holds of an expression by SOME derivation -/
def wE (X : Cx) (e : Expr) : TE := fun σ H Q => ∃ t, PE X e t ∧ t σ H Q
def wT (X : Cx) (e : Expr) : TT := fun σ H Q => ∃ t, PT X e t ∧ t σ H Q
def wW (X : Cx) (e : Expr) : TT := fun σ H Q => ∃ t, PW X e t ∧ t σ H Q
def wA (X : Cx) (es : List Expr) : TA := fun σ H Q => ∃ t, PA X es t ∧ t σ H Q
def wS (X : Cx) (st : Stmt) : TS := fun D σ H => ∃ t, PS X st t ∧ t D σ H
def wB (X : Cx) (sts : List Stmt) : TS := fun D σ H => ∃ t, PSs X sts t ∧ t D σ H
def wI (X : Cx) (tg it : Expr) : TI := fun σ H R => ∃ t, PI X tg it t ∧ t σ H R
theorem pe_w {X : Cx} {e : Expr} : PE X e (wE X e) := ⟨fun pins s σ H Q I ⟨_, h, q⟩ => h.run pins s σ H Q I q⟩
theorem pt_w {X : Cx} {e : Expr} : PT X e (wT X e) := ⟨fun pins s σ H Q I ⟨_, h, q⟩ => h.run pins s σ H Q I q⟩
theorem pw_w {X : Cx} {e : Expr} : PW X e (wW X e) := ⟨fun wh pins s σ H Q I ⟨_, h, q⟩ => h.run wh pins s σ H Q I q⟩
theorem pa_w {X : Cx} {es : List Expr} : PA X es (wA X es) := ⟨fun pos pins s σ H Q I ⟨_, h, q⟩ => h.run pos pins s σ H Q I q⟩
theorem ps_w {X : Cx} {st : Stmt} : PS X st (wS X st) := ⟨fun pins s σ H D I ⟨_, h, q⟩ => h.run pins s σ H D I q⟩
theorem pss_w {X : Cx} {sts : List Stmt} : PSs X sts (wB X sts) := ⟨fun pins s σ H D I ⟨_, h, q⟩ => h.run pins s σ H D I q⟩
theorem pi_w {X : Cx} {tg it : Expr} : PI X tg it (wI X tg it) := ⟨fun pins s σ H R I ⟨_, h, q⟩ => h.run pins s σ H R I q⟩

section
variable {X : Cx} {σ : L2.St} {H : Hp} {Q : VK} {e a b c o : Expr} {es : List Expr} {pos p p2 apos : Pos}

/-! ### names, constants -/
theorem w_var (i : Nat) {x : Str} {v : V} (h : σ[i]? = some (some v)) (q : Q v H) (hN : X.N[i]? = some x := by rfl)
    (hv : Vis X.env.scope x := by first | exact Or.inl rfl | exact Or.inr (Or.inl rfl) | exact Or.inr (Or.inr rfl))
    (hd : (x == ("__debug__" : Str)) = false := by decide) (hcd : (x == ("__classdict__" : Str)) = false := by decide) : wE X (.Name x pos) σ H Q :=
  ⟨_, pe_var hN hv hd hcd, v, h, q⟩
theorem w_int {i j} (q : Q (.int i) H) : wE X (.Constant (.int i) j pos) σ H Q := ⟨_, pe_int, q⟩
theorem w_bl {i j} (q : Q (.bl i) H) : wE X (.Constant (.bool i) j pos) σ H Q := ⟨_, pe_bl, q⟩
theorem w_str {i j} (q : Q (.str i) H) : wE X (.Constant (.str i) j pos) σ H Q := ⟨_, pe_str, q⟩
theorem w_non {j} (q : Q .non H) : wE X (.Constant .none j pos) σ H Q := ⟨_, pe_non, q⟩
theorem w_glob {x : Str} {v : V} {u : Value} (hm : X.mg x = some u) (r : RelV v u) (q : Q v H) (hg : Gl X x := by rfl) (hd : (x == ("__debug__" : Str)) = false := by decide) : wE X (.Name x pos) σ H Q :=
  ⟨_, pe_glob hg hm r hd, q⟩
theorem w_bltn {x : Str} {v : V} {u : Value} (hm : X.mg x = none) (hv : bootBuiltins x = some u) (r : RelV v u) (q : Q v H) (hg : Gl X x := by rfl) (hn : x ≠ "__name__" := by decide) (hd : (x == ("__debug__" : Str)) = false := by decide) : wE X (.Name x pos) σ H Q :=
  ⟨_, pe_bltn hg hm hv r hn hd, q⟩

/-! ### operators -/
theorem w_op {op : Operator} {r : R2} (ho : OpR X (binaryOp op) r) (q : wE X a σ H fun x H1 => wE X b σ H1 fun y H2 => r x y H2 Q) : wE X (.BinOp a op b pos) σ H Q :=
  ⟨_, pe_op ho pe_w pe_w, q⟩
theorem w_un {op : UnaryOp} {r : V → Hp → VK → Prop} (ho : UnR X (unaryOp op) r) (q : wE X a σ H fun x H1 => r x H1 Q) : wE X (.UnaryOp op a pos) σ H Q :=
  ⟨_, pe_un ho pe_w, q⟩
theorem w_cmp {op : CmpOp} {r : R2} (ho : OpR X (compareOp op) r) (q : wE X a σ H fun x H1 => wE X b σ H1 fun y H2 => r x y H2 Q) (hm : behindInMarks op b = false := by with_unfolding_all rfl) : wE X (.Compare a [op] [b] pos) σ H Q :=
  ⟨_, pe_cmpR ho pe_w pe_w hm, q⟩
theorem w_chain {op op' : CmpOp} {r r' : R2} (ho : OpR X (compareOp op) r) (ho' : OpR X (compareOp op') r') (q : wE X a σ H fun x H1 => wE X b σ H1 fun y H2 => r x y H2 fun z H3 => ∃ k, z = .bl k ∧
    (if k = true then wE X c σ H3 fun w' H4 => r' y w' H4 Q else Q (.bl false) H3)) (hm : lastMarks [op, op'] [b, c] = false := by with_unfolding_all rfl) : wE X (.Compare a [op, op'] [b, c] pos) σ H Q :=
  ⟨_, pe_chain ho ho' pe_w pe_w pe_w hm, q⟩
theorem w_not (q : wE X a σ H fun x H1 => ∃ c, x = .bl c ∧ Q (.bl (!c)) H1) : wE X (.UnaryOp .Not a pos) σ H Q := ⟨_, pe_not pe_w, q⟩
theorem w_and (q : wE X a σ H fun x H1 => ∃ c, x = .bl c ∧ if c = true then wE X (.BoolOp .And (b :: es) pos) σ H1 Q else Q (.bl false) H1) : wE X (.BoolOp .And (a :: b :: es) pos) σ H Q :=
  ⟨_, pe_and pe_w pe_w, q⟩
theorem w_or (q : wE X a σ H fun x H1 => ∃ c, x = .bl c ∧ if c = true then Q (.bl true) H1 else wE X (.BoolOp .Or (b :: es) pos) σ H1 Q) : wE X (.BoolOp .Or (a :: b :: es) pos) σ H Q :=
  ⟨_, pe_or pe_w pe_w, q⟩
theorem w_one {op} (q : wE X a σ H Q) : wE X (.BoolOp op [a] pos) σ H Q := ⟨_, pe_one pe_w, q⟩
theorem w_if (q : wT X c σ H fun k H1 => if k = true then wE X a σ H1 Q else wE X b σ H1 Q) : wE X (.IfExp c a b pos) σ H Q := ⟨_, pe_ifExp pt_w pe_w pe_w, q⟩

/-! ### tests -/
theorem t_val {R : Bool → Hp → Prop} (q : wE X e σ H fun x H1 => ∃ c, x = .bl c ∧ R c H1) (he : ∀ whole, isTrue e X.env whole = (do let v ← whole; standAt e.pos; holding [v] (truthy v)) := by intro _; rfl) : wT X e σ H R :=
  ⟨_, pt_val pe_w he, q⟩
theorem t_cmp {R : Bool → Hp → Prop} {op : CmpOp} {r : R2} (ho : OpR X (compareOp op) r) (q : wE X a σ H fun x H1 => wE X b σ H1 fun y H2 => r x y H2 fun z H3 => ∃ k, z = .bl k ∧ R k H3) (hm : behindInMarks op b = false := by with_unfolding_all rfl) :
    wT X (.Compare a [op] [b] pos) σ H R := ⟨_, pt_cmpR ho pe_w pe_w hm, q⟩
theorem t_chain {R : Bool → Hp → Prop} {op op' : CmpOp} {r r' : R2} (ho : OpR X (compareOp op) r) (ho' : OpR X (compareOp op') r') (q : wE X a σ H fun x H1 => wE X b σ H1 fun y H2 => r x y H2 fun z H3 => ∃ k, z = .bl k ∧
    (if k = true then wE X c σ H3 fun w' H4 => r' y w' H4 (fun z H5 => ∃ k, z = .bl k ∧ R k H5) else ∃ k, (V.bl false) = .bl k ∧ R k H3)) (hm : lastMarks [op, op'] [b, c] = false := by with_unfolding_all rfl) : wT X (.Compare a [op, op'] [b, c] pos) σ H R :=
  ⟨_, pt_chain ho ho' pe_w pe_w pe_w hm, q⟩
theorem t_not {R : Bool → Hp → Prop} (q : wT X a σ H fun c H1 => R (!c) H1) : wT X (.UnaryOp .Not a pos) σ H R := ⟨_, pt_not pt_w, q⟩
theorem t_and {R : Bool → Hp → Prop} (q : wW X (.BoolOp .And (a :: b :: es) pos) σ H R) : wT X (.BoolOp .And (a :: b :: es) pos) σ H R := ⟨_, PW.pt pw_w, q⟩
theorem t_or {R : Bool → Hp → Prop} (q : wW X (.BoolOp .Or (a :: b :: es) pos) σ H R) : wT X (.BoolOp .Or (a :: b :: es) pos) σ H R := ⟨_, PW.pt pw_w, q⟩
theorem u_and {R : Bool → Hp → Prop} (q : wT X a σ H fun k H1 => if k = true then wW X (.BoolOp .And (b :: es) pos) σ H1 R else R false H1) : wW X (.BoolOp .And (a :: b :: es) pos) σ H R := ⟨_, pw_and pt_w pw_w, q⟩
theorem u_or {R : Bool → Hp → Prop} (q : wT X a σ H fun k H1 => if k = true then R true H1 else wW X (.BoolOp .Or (b :: es) pos) σ H1 R) : wW X (.BoolOp .Or (a :: b :: es) pos) σ H R := ⟨_, pw_or pt_w pw_w, q⟩
theorem u_and1 {R : Bool → Hp → Prop} (q : wT X a σ H R) : wW X (.BoolOp .And [a] pos) σ H R := ⟨_, pw_and1 pt_w, q⟩
theorem u_or1 {R : Bool → Hp → Prop} (q : wT X a σ H R) : wW X (.BoolOp .Or [a] pos) σ H R := ⟨_, pw_or1 pt_w, q⟩

/-! ### lists of arguments, displays -/
theorem a_nil {R : List V → Hp → Prop} (q : R [] H) : wA X [] σ H R := ⟨_, pa_nil, q⟩
theorem a_cons {R : List V → Hp → Prop} (q : wE X e σ H fun x H1 => wA X es σ H1 fun xs H2 => R (x :: xs) H2) (hs : starEach (e :: es) X.env = (false, eval e X.env) :: starEach es X.env := by rfl) : wA X (e :: es) σ H R :=
  ⟨_, pa_cons pe_w pa_w hs, q⟩
theorem a_star {R : List V → Hp → Prop} (q : wE X e σ H fun x H1 => ∃ p xs, x = V.ref p ∧ (SqT X.K H1 p xs ∨ SqL X.K H1 p xs) ∧ wA X es σ H1 fun ys H2 => R (xs ++ ys) H2)
    (hs : starEach (.Starred e p :: es) X.env = (true, eval e X.env) :: starEach es X.env := by rfl) : wA X (.Starred e p :: es) σ H R :=
  ⟨_, StX.pa_star pe_w pa_w hs, q⟩
theorem w_tup {x1} (q : wA X es σ H fun xs H1 => xs.length ≤ sizeLine ∧ ∀ p, H1 p = none → Q (.ref p) (upd H1 p (.tup xs))) : wE X (.Tuple es x1 pos) σ H Q := ⟨_, pe_tup pa_w, q⟩
theorem w_lst (q : wA X es σ H fun xs H1 => xs.length ≤ sizeLine ∧ ∀ p, H1 p = none → Q (.ref p) (upd H1 p (.lst xs))) : wE X (.List es pos) σ H Q := ⟨_, pe_lst pa_w, q⟩

/-! ### subscripts -/
theorem w_ix {r : R2} (hr : IxR X r) (q : wE X a σ H fun x H1 => wE X b σ H1 fun y H2 => r x y H2 Q) (hs : PlainIx b := by exact fun _ _ => rfl) : wE X (.Subscript a b pos) σ H Q := ⟨_, pe_ix hr pe_w pe_w hs, q⟩

/-! ### calls -/
theorem w_callB {x : Str} {id : String} {r : List V → Hp → VK → Prop} (hc : CallR X (.builtin id) r) (hm : X.mg x = none) (hv : bootBuiltins x = some (.builtin id)) (q : wA X (e :: es) σ H fun vs H1 => r vs H1 Q) (hg : Gl X x := by rfl) (hn : x ≠ "__name__" := by decide)
    (hdb : (x == ("__debug__" : Str)) = false := by decide) (he : starEach (e :: es) X.env = (false, eval e X.env) :: starEach es X.env := by rfl) (hpl : (backTo pos (starEach es X.env)).any (·.1) = false := by rfl) : wE X (.Call (.Name x p) (e :: es) [] pos) σ H Q :=
  ⟨_, pe_callB hc hg hm hv pa_w hn hdb he hpl, q⟩
theorem w_callTy {x : Str} {T : String} {r : List V → Hp → VK → Prop} (hc : CallR X (.type T) r) (hm : X.mg x = none) (hv : bootBuiltins x = some (.type T)) (q : wA X (e :: es) σ H fun vs H1 => r vs H1 Q) (hg : Gl X x := by rfl) (hn : x ≠ "__name__" := by decide)
    (hdb : (x == ("__debug__" : Str)) = false := by decide) (he : starEach (e :: es) X.env = (false, eval e X.env) :: starEach es X.env := by rfl) (hpl : (backTo pos (starEach es X.env)).any (·.1) = false := by rfl) : wE X (.Call (.Name x p) (e :: es) [] pos) σ H Q :=
  ⟨_, pe_callTy hc hg hm hv pa_w hn hdb he hpl, q⟩
/-- a def that promises sp, as its callers hold it -/
structure Gv (P : Program) (w : World) (K : PySem.W.Frag) (mg : Str → Option Value) (base : Heap) (x : Str) (k : Nat) (f : Addr) (fd : FuncData) (ps : List Str) (sp : Sp) : Prop where
  ok : FnOk P w K mg base CX0 k f fd ps sp
  gm : mg x = some (.ref f)
  kp : PySem.W.keepIn K (.ref f) = true
  bd : Binds K fd ps []
theorem w_call {x : Str} {j k : Nat} {f : Addr} {fd : FuncData} {ps : List Str} {sp : Sp} (G : Gv X.prog X.w X.K X.mg X.base x j f fd ps sp) (hr : Room k X.A) (hj : j ≤ k) (q : wA X (e :: es) σ H fun vs H1 => sp vs H1 Q E0)
    (hg : Gl X x := by rfl) (hdb : (x == ("__debug__" : Str)) = false := by decide) (he : starEach (e :: es) X.env = (false, eval e X.env) :: starEach es X.env := by rfl) (hpl : (backTo pos (starEach es X.env)).any (·.1) = false := by rfl) :
    wE X (.Call (.Name x p) (e :: es) [] pos) σ H Q :=
  ⟨_, pe_call G.ok (hr.mono hj) hg G.gm G.kp G.bd .nil pass0 (pa_w) hdb he hpl, by
    obtain ⟨t, ht, h⟩ := q
    refine ⟨t, ht, ?_⟩
    have z : (fun (vs : List V) (H1 : Hp) => sp (vs ++ []) H1 Q E0) = fun vs H1 => sp vs H1 Q E0 := by
      funext vs H1
      rw [List.append_nil]
    rw [z]
    exact h⟩

/-! ### attributes -/
theorem w_fld {f : Str} (q : wE X o σ H fun x H1 => ∃ a C dx fs v, x = .ref a ∧ H1 a = some (.ins C dx fs) ∧ Cls X.K C ∧ NoAttr X.K C f ∧ fs.lookup f = some v ∧ Q v H1) (hb : attributeBase o f X.env (eval o X.env) = eval o X.env := by rfl) : wE X (.Attribute o f pos) σ H Q :=
  ⟨_, pe_fld pe_w hb, q⟩

/-! ### statements -/
variable {D : Ends} {st : Stmt} {sts : List Stmt}
theorem b_nil (q : D.nx σ H) : wB X [] D σ H := ⟨_, pss_nil, q⟩
theorem b_cons (q : wS X st { D with nx := fun σ' H' => wB X sts D σ' H' } σ H) : wB X (st :: sts) D σ H := ⟨_, pss_cons ps_w pss_w, q⟩
theorem b_one (q : wS X st D σ H) : wB X [st] D σ H := ⟨_, pss_one ps_w, q⟩
theorem s_ret (q : wE X e σ H D.rt) : wS X (.Return (some e) pos) D σ H := ⟨_, ps_ret pe_w, q⟩
theorem s_expr (q : wE X e σ H fun _ H1 => D.nx σ H1) (hs : swapsWith e none pos.line X.env = pure false := by rfl) : wS X (.Expr e pos) D σ H := ⟨_, ps_expr pe_w hs, q⟩
theorem s_set (i : Nat) {x : Str} {pos' : Pos} (hN : X.N.Nodup) (q : wE X e σ H fun v H1 => D.nx (σ.set i (some v)) H1) (hi : X.N[i]? = some x := by rfl) (hx : Loc X.env.scope x := by first | exact Or.inl rfl | exact Or.inr rfl)
    (hs : swapsWith e (some (.Name x pos')) pos.line X.env = pure false := by rfl) (hf : X.fn x = true ∨ X.env.scope.names.lookup x = some .local := by first | exact .inl rfl | exact .inr rfl | assumption) : wS X (.Assign [.Name x pos'] e pos) D σ H :=
  ⟨_, ps_set hN hi hx pe_w hs hf, q⟩
theorem s_if {ts es' : List Stmt} (q : wT X c σ H fun k H1 => if k = true then wB X ts D σ H1 else wB X es' D σ H1) : wS X (.If c ts es' pos) D σ H := ⟨_, ps_if pt_w pss_w pss_w, q⟩
theorem s_fld {f : Str} (q : wE X e σ H fun y H1 => wE X o σ H1 fun x H2 => ∃ a C dx fs, x = .ref a ∧ H2 a = some (.ins C dx fs) ∧ Cls X.K C ∧ NoAttr X.K C f ∧ fs.length < 1000 ∧ D.nx σ (upd H2 a (.ins C dx (putF f y fs))))
    (hs : swapsWith e (some (.Attribute o f p)) pos.line X.env = pure false := by rfl) : wS X (.Assign [.Attribute o f p] e pos) D σ H := ⟨_, ps_fld pe_w pe_w hs, q⟩
end

/-! ## comprehensions -/
/-- the block's readings, whatever the block's frame -/
def bE (X : Cx) (scope : Scope) (e : Expr) : TE := fun σ H Q => ∀ (s : Shared) (H0 : Hp) (C : Addr) (cl : List (Str × Addr)) (fp : List Addr), wE (X.blk s H0 scope (compEnvC scope cl C X.env) fp) e σ H Q
def bT (X : Cx) (scope : Scope) (e : Expr) : TT := fun σ H Q => ∀ (s : Shared) (H0 : Hp) (C : Addr) (cl : List (Str × Addr)) (fp : List Addr), wT (X.blk s H0 scope (compEnvC scope cl C X.env) fp) e σ H Q
theorem pe_b {X : Cx} {scope : Scope} {e : Expr} : ∀ (s : Shared) (H : Hp) (C : Addr) (cl : List (Str × Addr)) (fp : List Addr), PE (X.blk s H scope (compEnvC scope cl C X.env) fp) e (bE X scope e) :=
  fun s H0 C cl fp => ⟨fun pins s' σ H Q I q => pe_w.run pins s' σ H Q I (q s H0 C cl fp)⟩
theorem pt_b {X : Cx} {scope : Scope} {e : Expr} : ∀ (s : Shared) (H : Hp) (C : Addr) (cl : List (Str × Addr)) (fp : List Addr), PT (X.blk s H scope (compEnvC scope cl C X.env) fp) e (bT X scope e) :=
  fun s H0 C cl fp => ⟨fun pins s' σ H Q I q => pt_w.run pins s' σ H Q I (q s H0 C cl fp)⟩
/-- a turn: the tests, then the element (some y) or nothing -/
def bBody (X : Cx) (scope : Scope) (ifs : List Expr) (e : Expr) (σ : L2.St) (H : Hp) (R : Option V → Hp → Prop) : Prop :=
  match ifs with
  | [] => bE X scope e σ H fun y H1 => R (some y) H1
  | [c] => bT X scope c σ H fun k H1 => if k = true then bE X scope e σ H1 fun y H2 => R (some y) H2 else R none H1
  | _ => False
/-- what a list comprehension's loop asks, at its new list D: Pv by the turn, what is made so far, the heap -/
def LcAsk (X : Cx) (scope : Scope) (ifs : List Expr) (e : Expr) (g : TG) (vs : List Nat) (σ : L2.St) (n : Nat) (G : Hp → Prop) (Y : Nat → Hp → V → Hp → Prop) (H1 : Hp) (Q : VK) : Prop :=
  ∀ D, H1 D = none → ∃ Pv : Nat → List V → Hp → Prop, Pv 0 [] (upd H1 D (.lst [])) ∧ (∀ i acc H, i ≤ n → Pv i acc H → G H ∧ H D = some (.lst acc) ∧ acc.length < sizeLine) ∧
    (∀ i x acc H H', i < n → Pv i acc H → Y i H x H' → g x (wipe σ vs) H' fun σ2 H2 => wipe σ2 vs = wipe σ vs ∧ bBody X scope ifs e σ2 H2 fun r H3 => match r with
      | some y => H3 D = some (.lst acc) ∧ Pv (i + 1) (acc ++ [y]) (upd H3 D (.lst (acc ++ [y])))
      | none => Pv (i + 1) acc H3) ∧
    ∀ acc H, Pv n acc H → Q (.ref D) H
/-! ### weaker ends -/
theorem wE_mono {X : Cx} {e : Expr} {σ : L2.St} {H : Hp} {Q Q' : VK} (h : wE X e σ H Q) (k : ∀ v H', Q v H' → Q' v H') : wE X e σ H Q' := by
  obtain ⟨t, ht, q⟩ := h
  refine ⟨fun σ' H' R => ∃ Q1, t σ' H' Q1 ∧ ∀ v H', Q1 v H' → R v H', ⟨fun pins s σ' H' R I ⟨Q1, q1, k1⟩ => ?_⟩, Q, q, k⟩
  refine thn (ht.run pins s σ' H' Q1 I q1) fun u s' ⟨v, H2, I2, r, z⟩ => ⟨v, H2, I2, r, k1 _ _ z⟩
theorem wT_mono {X : Cx} {e : Expr} {σ : L2.St} {H : Hp} {Q Q' : Bool → Hp → Prop} (h : wT X e σ H Q) (k : ∀ v H', Q v H' → Q' v H') : wT X e σ H Q' := by
  obtain ⟨t, ht, q⟩ := h
  refine ⟨fun σ' H' R => ∃ Q1 : Bool → Hp → Prop, t σ' H' Q1 ∧ ∀ v H', Q1 v H' → R v H', ⟨fun pins s σ' H' R I ⟨Q1, q1, k1⟩ => ?_⟩, Q, q, k⟩
  refine thn (ht.run pins s σ' H' Q1 I q1) fun u s' ⟨H2, I2, z⟩ => ⟨H2, I2, k1 _ _ z⟩
theorem bE_mono {X : Cx} {sc : Scope} {e : Expr} {σ : L2.St} {H : Hp} {Q Q' : VK} (h : bE X sc e σ H Q) (k : ∀ v H', Q v H' → Q' v H') : bE X sc e σ H Q' := fun s H0 C cl fp => wE_mono (h s H0 C cl fp) k
theorem bT_mono {X : Cx} {sc : Scope} {e : Expr} {σ : L2.St} {H : Hp} {Q Q' : Bool → Hp → Prop} (h : bT X sc e σ H Q) (k : ∀ v H', Q v H' → Q' v H') : bT X sc e σ H Q' := fun s H0 C cl fp => wT_mono (h s H0 C cl fp) k
def GMono (g : TG) : Prop := ∀ x σ H (R R' : L2.St → Hp → Prop), (∀ s h, R s h → R' s h) → g x σ H R → g x σ H R'
theorem gm_name {i : Nat} : GMono (gName i) := fun _ _ _ _ _ k h => k _ _ h
theorem gm_two {K : PySem.W.Frag} {i j : Nat} : GMono (gTup K 2 (gCons (gName i) (gCons (gName j) gNil))) := by
  rintro x σ H R R' k ⟨a, xs, e1, e2, e3, v, r, e4, v2, r2, e5, e6, q⟩
  exact ⟨a, xs, e1, e2, e3, v, r, e4, v2, r2, e5, e6, k _ _ q⟩
section
variable {X : Cx} {σ : L2.St} {H : Hp} {Q : VK} {elt tg iter c : Expr} {scope : Scope} {pos : Pos}
theorem lc_read {J : It} {n : Nat} {G : Hp → Prop} {Y : Nat → Hp → V → Hp → Prop} {ifs : List Expr} {g : TG} {tt : TT} {vs : List Nat} {H1 : Hp} (hw : Walk J n G Y) (gm : GMono g) (h : LcAsk X scope ifs elt g vs σ n G Y H1 Q)
    (hb : ∀ (σ2 : L2.St) (H2 : Hp) (R R' : Option V → Hp → Prop), bBody X scope ifs elt σ2 H2 R → (∀ r H3, R r H3 → R' r H3) → tt σ2 H2 fun k H3 => if k = true then bE X scope elt σ2 H3 fun y H4 => R' (some y) H4 else R' none H3) :
    ∀ D, H1 D = none → ∃ W : Nat → Nat → Hp → Prop, (∃ m, W 0 m (upd H1 D (.lst []))) ∧ ∀ i m H, W i m H →
      (J.stop i H ∧ Q (.ref D) H) ∨ (J.go i H ∧ ∃ Nx : Hp → Prop, (∀ H', Nx H' → ∃ m', m' < m ∧ W (i + 1) m' H') ∧ ∀ x H', J.yld i H x H' → g x (wipe σ vs) H' fun σ2 H2 => wipe σ2 vs = wipe σ vs ∧ tt σ2 H2 fun b H3 =>
        if b = true then bE X scope elt σ2 H3 fun y H4 => ∃ acc, H4 D = some (.lst acc) ∧ acc.length < sizeLine ∧ Nx (upd H4 D (.lst (acc ++ [y]))) else Nx H3) := by
  intro D hD
  obtain ⟨Pv, h0, hG, hs, hd⟩ := h D hD
  refine lc_it hw (fun i H => ∃ acc, Pv i acc H) ⟨[], h0⟩ (fun i H hi ⟨acc, p⟩ => (hG i acc H hi p).1) ?_ (fun H ⟨acc, p⟩ => hd acc H p)
  rintro i x H H' hi ⟨acc, p⟩ y
  refine gm _ _ _ _ _ ?_ (hs i x acc H H' hi p y)
  rintro σ2 H2 ⟨e1, q⟩
  refine ⟨e1, ?_⟩
  have hl := (hG i acc H (Nat.le_of_lt hi) p).2.2
  exact hb σ2 H2 _ (fun (r : Option V) (H3 : Hp) => match r with
    | some y => ∃ acc, H3 D = some (.lst acc) ∧ acc.length < sizeLine ∧ ∃ acc1, Pv (i + 1) acc1 (upd H3 D (.lst (acc ++ [y])))
    | none => ∃ acc1, Pv (i + 1) acc1 H3) q fun r H3 z => match r, z with
    | some y, ⟨z1, z2⟩ => ⟨acc, z1, hl, _, z2⟩
    | none, z => ⟨_, z⟩
theorem w_lc {ifs : List Expr} {own : List (Str × Nat)} {g : TG} (hc : X.calm = true) (hN : X.N.Nodup) (ok : BlkOk X.N X.env.scope scope own) (gm : GMono g) (h1 : ifs.length ≤ 1)
    (hg : ∀ (s : Shared) (H : Hp) (C : Addr) (cl : List (Str × Addr)) (fp : List Addr), PG (X.blk s H scope (compEnvC scope cl C X.env) fp) tg g)
    (q : wI X tg iter σ H fun J H1 => ∃ n G Y, Walk J n G Y ∧ LcAsk X scope ifs elt g (own.map (·.2)) σ n G Y H1 Q) (hs : ∀ x, foldedSetIterable iter X.env x = pure x := by intro _; rfl) :
    wE X (.ListComp elt [⟨tg, iter, ifs, 0⟩] scope pos) σ H Q := by
  have core : ∀ tt : TT, (∀ (s : Shared) (H : Hp) (C : Addr) (cl : List (Str × Addr)) (fp : List Addr), PTs (X.blk s H scope (compEnvC scope cl C X.env) fp) ifs tt) →
      (∀ (σ2 : L2.St) (H2 : Hp) (R R' : Option V → Hp → Prop), bBody X scope ifs elt σ2 H2 R → (∀ r H3, R r H3 → R' r H3) → tt σ2 H2 fun k H3 => if k = true then bE X scope elt σ2 H3 fun y H4 => R' (some y) H4 else R' none H3) →
      wE X (.ListComp elt [⟨tg, iter, ifs, 0⟩] scope pos) σ H Q := by
    intro tt ht hb
    obtain ⟨wi, hi, hq⟩ := q
    have hi' : PI X tg iter (fun σ H R => ∃ R0, wi σ H R0 ∧ ∀ J H1, R0 J H1 → R J H1) := ⟨fun pins s σ H R I ⟨R0, q0, k⟩ => by
      refine thn (hi.run pins s σ H R0 I q0) fun v s1 z => thn z fun u s2 ⟨it, fp, tn, J, H', e, I2, T, st, f, r⟩ => ⟨it, fp, tn, J, H', e, I2, T, st, f, k _ _ r⟩⟩
    refine ⟨_, pe_lc hc hN hi' ok hg ht (fun s H C cl fp => pe_b s H C cl fp) hs, _, hq, ?_⟩
    rintro J H1 ⟨n, G, Y, hw, ask⟩
    exact lc_read hw gm ask hb
  match ifs, h1 with
  | [], _ =>
    refine core tYes (fun _ _ _ _ _ => pts_nil) fun σ2 H2 R R' hb k => ?_
    change (if true = true then bE X scope elt σ2 H2 (fun y H4 => R' (some y) H4) else R' none H2)
    rw [if_pos rfl]
    exact bE_mono hb fun v H' z => k _ _ z
  | [c], _ =>
    refine core (bT X scope c) (fun s H C cl fp => pts_one (pt_b s H C cl fp)) fun σ2 H2 R R' hb k => ?_
    refine bT_mono hb fun b H3 z => ?_
    cases b with
    | true =>
      rw [if_pos rfl] at z ⊢
      exact bE_mono z fun v H' z => k _ _ z
    | false =>
      rw [if_neg Bool.false_ne_true] at z ⊢
      exact k _ _ z
end
/-! ### what is walked -/
section
variable {X : Cx} {σ : L2.St} {H : Hp} {R : It → Hp → Prop} {tg l : Expr}
theorem i_list (q : wE X l σ H fun x H1 => ∃ a xs, x = .ref a ∧ SqL X.K H1 a xs ∧ R (Itl X.K a) H1) : wI X tg l σ H R :=
  ⟨_, pi_list pe_w, wE_mono q fun _ _ ⟨a, xs, e, h, r⟩ => ⟨a, e, ⟨xs, h⟩, r⟩⟩
theorem i_tup (q : wE X l σ H fun x H1 => ∃ a xs, x = .ref a ∧ SqT X.K H1 a xs ∧ R (Itt X.K a) H1) : wI X tg l σ H R :=
  ⟨_, pi_tup pe_w, wE_mono q fun _ _ ⟨a, xs, e, h, r⟩ => ⟨a, e, ⟨xs, h⟩, r⟩⟩
theorem i_str (q : wE X l σ H fun x H1 => ∃ z, x = .str z ∧ R (Its z) H1) : wI X tg l σ H R := ⟨_, pi_str pe_w, q⟩
theorem i_range1 {a : Expr} {p pos : Pos} (hm : X.mg "range" = none) (q : wA X [a] σ H fun vs H1 => ∃ j : Int, vs = [.int j] ∧ -(2 ^ 62) ≤ j ∧ j < 2 ^ 62 ∧ R (Itr 0 j.toNat) H1) (hg : Gl X "range" := by rfl)
    (hs : starEach [a] X.env = [(false, eval a X.env)] := by rfl) : wI X tg (.Call (.Name "range" p) [a] [] pos) σ H R := ⟨_, pi_range1 hg hm pa_w hs, q⟩
end
/-- the signs of a text, as values -/
def signs (l : List Nat) : List V := l.map fun c => V.str ⟨#[c]⟩
theorem walk_signs {z : Str} : Walk (Its z) (signs z.cps.toList).length (fun _ => True) (YAt (signs z.cps.toList)) := by
  have e : (signs z.cps.toList).length = z.cps.size := by simp [signs]
  rw [e]
  refine walk_str.mono (fun _ h => h) fun i H x H' hi _ ⟨e1, c, e2, e3⟩ => ⟨e1, ?_⟩
  have e4 : z.cps.toList[i]? = some c := by simpa using e2
  simp [signs, e4, e3]
/-- a comprehension over known items g x, x of l, whose turns are known functions of x: f x = none where it is left out -/
def LcF (X : Cx) (scope : Scope) (ifs : List Expr) (elt : Expr) (j : Nat) (σ : L2.St) (H1 : Hp) (Q : VK) (xs : List V) : Prop :=
  ∃ (α : Type) (l : List α) (g : α → V) (f : α → Option V), xs = l.map g ∧ l.length < sizeLine ∧ (∀ x ∈ l, ∀ H', Ex H1 H' → ∀ R : Option V → Hp → Prop, (∀ H'', Ex H' H'' → R (f x) H'') → bBody X scope ifs elt (σ.set j (some (g x))) H' R) ∧
    ∀ p H', H1 p = none → Ex H1 H' → H' p = some (.lst (l.filterMap f)) → Q (.ref p) H'
theorem len_filterMap {α β : Type} (f : α → Option β) : ∀ l : List α, (l.filterMap f).length ≤ l.length
  | [] => Nat.le_refl _
  | a :: r => by
    have ih := len_filterMap f r
    cases h : f a with
    | none => rw [List.filterMap_cons_none h]; exact Nat.le_succ_of_le ih
    | some b => rw [List.filterMap_cons_some h]; exact Nat.succ_le_succ ih
theorem take_next {α : Type} {xs : List α} {i : Nat} {x : α} (h : xs[i]? = some x) (f : α → Option V) : (xs.take (i + 1)).filterMap f = (xs.take i).filterMap f ++ (f x).toList := by
  rw [List.take_add_one, h]
  rw [List.filterMap_append]
  congr 1
theorem lcF_ask {X : Cx} {scope : Scope} {ifs : List Expr} {elt : Expr} {j : Nat} {σ : L2.St} {H1 : Hp} {Q : VK} {xs : List V} {G : Hp → Prop} (hG : ∀ H', Ex H1 H' → G H') (h : LcF X scope ifs elt j σ H1 Q xs) :
    LcAsk X scope ifs elt (gName j) [j] σ xs.length G (YAt xs) H1 Q := by
  obtain ⟨α, l, g, f, exs, hl, hb, hd⟩ := h
  subst exs
  intro D hD
  refine ⟨fun i acc H => acc = (l.take i).filterMap f ∧ Ex H1 H ∧ H D = some (.lst acc), ⟨by simp, Ex.new hD, upd_same⟩, fun i acc H hi ⟨e, x, d⟩ => ⟨hG _ x, d, ?_⟩, ?_, ?_⟩
  · rw [e]
    refine Nat.lt_of_le_of_lt (len_filterMap f _) (Nat.lt_of_le_of_lt ?_ hl)
    rw [List.length_take]
    exact Nat.min_le_right _ _
  · rintro i v acc H H' hi ⟨e, ex, d⟩ ⟨eH, hv⟩
    subst eH
    obtain ⟨x, hx, rfl⟩ : ∃ x, l[i]? = some x ∧ v = g x := by
      rw [List.getElem?_map] at hv
      cases q : l[i]? with
      | none => rw [q] at hv; cases hv
      | some x => rw [q] at hv; exact ⟨x, rfl, (Option.some.inj hv).symm⟩
    have w0 : wipe ((wipe σ [j]).set j (some (g x))) [j] = wipe σ [j] := by
      show (((σ.set j none).set j (some (g x))).set j none) = σ.set j none
      rw [List.set_set, List.set_set]
    refine ⟨w0, ?_⟩
    have e2 : (wipe σ [j]).set j (some (g x)) = σ.set j (some (g x)) := by
      show (σ.set j none).set j (some (g x)) = _
      rw [List.set_set]
    rw [e2]
    refine hb x (List.mem_of_getElem? hx) H' ex _ fun H'' ex2 => ?_
    have d2 := ex2 _ _ d
    cases q : f x with
    | some y =>
      refine ⟨d2, ?_, (ex.trans ex2).mut hD, upd_same⟩
      rw [take_next hx, ← e, q]
      rfl
    | none =>
      refine ⟨?_, ex.trans ex2, d2⟩
      rw [take_next hx, ← e, q]
      simp
  · rintro acc H ⟨e, ex, d⟩
    rw [List.length_map, List.take_length] at e
    exact hd D H hD ex (e ▸ d)
theorem fm_map {α : Type} (h : α → V) : ∀ l : List α, l.filterMap (fun x => some (h x)) = l.map h
  | [] => rfl
  | a :: r => by rw [List.filterMap_cons_some (f := fun x => some (h x)) (a := a) (b := h a) rfl, List.map_cons, fm_map h r]
theorem fm_fil {α : Type} (b : α → Bool) (g : α → V) : ∀ l : List α, l.filterMap (fun x => if b x = true then some (g x) else none) = (l.filter b).map g
  | [] => rfl
  | a :: r => by
    cases q : b a with
    | true => rw [List.filterMap_cons_some (b := g a) (by rw [if_pos q]), List.filter_cons_of_pos q, List.map_cons, fm_fil b g r]
    | false => rw [List.filterMap_cons_none (by rw [if_neg (by rw [q]; exact Bool.false_ne_true)]), List.filter_cons_of_neg (by rw [q]; exact Bool.false_ne_true), fm_fil b g r]
section
variable {X : Cx} {scope : Scope} {elt c : Expr} {j : Nat} {σ : L2.St} {H1 : Hp} {Q : VK} {α : Type}
/-- [h x for x in ..] -/
theorem lcMap (l : List α) (g h : α → V) (hl : l.length < sizeLine) (hb : ∀ x ∈ l, ∀ H', Ex H1 H' → ∀ R : VK, (∀ H'', Ex H' H'' → R (h x) H'') → bE X scope elt (σ.set j (some (g x))) H' R)
    (hd : ∀ p H', H1 p = none → Ex H1 H' → H' p = some (.lst (l.map h)) → Q (.ref p) H') : LcF X scope [] elt j σ H1 Q (l.map g) :=
  ⟨α, l, g, fun x => some (h x), rfl, hl, fun x hx H' ex R k => hb x hx H' ex (fun v H2 => R (some v) H2) k, fun p H' hp ex e => hd p H' hp ex (by rw [e, fm_map])⟩
/-- [x for x in .. if b x] -/
theorem lcFil (l : List α) (g : α → V) (b : α → Bool) (hl : l.length < sizeLine) (hb : ∀ x ∈ l, ∀ H', Ex H1 H' → ∀ R : Bool → Hp → Prop, (∀ H'', Ex H' H'' → R (b x) H'') → bT X scope c (σ.set j (some (g x))) H' R)
    (he : ∀ x H' (R : VK), R (g x) H' → bE X scope elt (σ.set j (some (g x))) H' R)
    (hd : ∀ p H', H1 p = none → Ex H1 H' → H' p = some (.lst ((l.filter b).map g)) → Q (.ref p) H') : LcF X scope [c] elt j σ H1 Q (l.map g) :=
  ⟨α, l, g, fun x => if b x = true then some (g x) else none, rfl, hl, fun x hx H' ex R k => hb x hx H' ex _ fun H'' ex' => by
    have z : R (if b x = true then some (g x) else none) H'' := k H'' ex'
    cases q : b x with
    | true =>
      rw [if_pos q] at z
      rw [if_pos rfl]
      exact he x H'' _ z
    | false =>
      rw [if_neg (by rw [q]; exact Bool.false_ne_true)] at z
      rw [if_neg Bool.false_ne_true]
      exact z, fun p H' hp ex e => hd p H' hp ex (by rw [e, fm_fil])⟩
end
section
variable {X : Cx} {σ : L2.St} {H : Hp} {Q : VK} {elt iter : Expr} {ifs : List Expr} {scope : Scope} {pos px : Pos} {x : Str}
theorem w_lcF (j : Nat) (hN : X.N.Nodup) (ok : BlkOk X.N X.env.scope scope [(x, j)]) (h1 : ifs.length ≤ 1)
    (hg : ∀ (s : Shared) (H : Hp) (C : Addr) (cl : List (Str × Addr)) (fp : List Addr), PG (X.blk s H scope (compEnvC scope cl C X.env) fp) (.Name x px) (gName j))
    (q : wI X (.Name x px) iter σ H fun J H1 => ∃ xs G, Walk J xs.length G (YAt xs) ∧ (∀ H', Ex H1 H' → G H') ∧ LcF X scope ifs elt j σ H1 Q xs) (hc : X.calm = true := by rfl) (hs : ∀ x, foldedSetIterable iter X.env x = pure x := by intro _; rfl) :
    wE X (.ListComp elt [⟨.Name x px, iter, ifs, 0⟩] scope pos) σ H Q := by
  refine w_lc hc hN ok gm_name h1 hg ?_ hs
  obtain ⟨wi, hi, hq⟩ := q
  refine ⟨fun σ H R => ∃ R0, wi σ H R0 ∧ ∀ J H1, R0 J H1 → R J H1, ⟨fun pins s σ H R I ⟨R0, q0, k⟩ => ?_⟩, _, hq, ?_⟩
  · refine thn (hi.run pins s σ H R0 I q0) fun v s1 z => thn z fun u s2 ⟨it, fp, tn, J, H', e, I2, T, st, f, r⟩ => ⟨it, fp, tn, J, H', e, I2, T, st, f, k _ _ r⟩
  · rintro J H1 ⟨xs, G, hw, hG, h⟩
    exact ⟨xs.length, G, YAt xs, hw, lcF_ask hG h⟩
theorem pg_own {j : Nat} (hN : X.N.Nodup) (ok : BlkOk X.N X.env.scope scope [(x, j)]) (hx : scope.names.lookup x = some .local ∨ scope.names.lookup x = some .cell) :
    ∀ (s : Shared) (H : Hp) (C : Addr) (cl : List (Str × Addr)) (fp : List Addr), PG (X.blk s H scope (compEnvC scope cl C X.env) fp) (.Name x px) (gName j) := by
  intro s H C cl fp
  have hi : X.N[j]? = some x := ok.ix (x, j) (List.mem_singleton.mpr rfl)
  refine pg_name hN hi ?_ ?_
  · exact hx.imp (fun h => lookup_relS_keep (sc := X.env.scope) (by decide) h) (fun h => lookup_relS_keep (sc := X.env.scope) (by decide) h)
  · rcases hx with h | h
    · exact .inr (lookup_relS_keep (sc := X.env.scope) (by decide) h)
    · refine .inl ?_
      show (scope.names.lookup x == some NameKind.cell) = true
      rw [h]
      rfl
/-- over a list, a tuple, a text -/
theorem w_lcL (j : Nat) (hN : X.N.Nodup) (ok : BlkOk X.N X.env.scope scope [(x, j)])
    (q : wE X iter σ H fun v H1 => ∃ a xs, v = .ref a ∧ SqL X.K H1 a xs ∧ LcF X scope ifs elt j σ H1 Q xs) (hx : scope.names.lookup x = some .local ∨ scope.names.lookup x = some .cell := by first | exact Or.inl rfl | exact Or.inr rfl) (hc : X.calm = true := by rfl) (h1 : ifs.length ≤ 1 := by decide) (hs : ∀ x, foldedSetIterable iter X.env x = pure x := by intro _; rfl) :
    wE X (.ListComp elt [⟨.Name x px, iter, ifs, 0⟩] scope pos) σ H Q :=
  w_lcF j hN ok h1 (pg_own hN ok hx) (i_list (wE_mono q fun v H1 ⟨a, xs, e, hq, h⟩ => ⟨a, xs, e, hq, xs, _, walk_list, fun H' ex => ex_l ex hq, h⟩)) hc hs
theorem w_lcT (j : Nat) (hN : X.N.Nodup) (ok : BlkOk X.N X.env.scope scope [(x, j)])
    (q : wE X iter σ H fun v H1 => ∃ a xs, v = .ref a ∧ SqT X.K H1 a xs ∧ LcF X scope ifs elt j σ H1 Q xs) (hx : scope.names.lookup x = some .local ∨ scope.names.lookup x = some .cell := by first | exact Or.inl rfl | exact Or.inr rfl) (hc : X.calm = true := by rfl) (h1 : ifs.length ≤ 1 := by decide) (hs : ∀ x, foldedSetIterable iter X.env x = pure x := by intro _; rfl) :
    wE X (.ListComp elt [⟨.Name x px, iter, ifs, 0⟩] scope pos) σ H Q :=
  w_lcF j hN ok h1 (pg_own hN ok hx) (i_tup (wE_mono q fun v H1 ⟨a, xs, e, hq, h⟩ => ⟨a, xs, e, hq, xs, _, walk_tup, fun H' ex => ex_t ex hq, h⟩)) hc hs
theorem w_lcS (j : Nat) (hN : X.N.Nodup) (ok : BlkOk X.N X.env.scope scope [(x, j)])
    (q : wE X iter σ H fun v H1 => ∃ z, v = .str z ∧ LcF X scope ifs elt j σ H1 Q (signs z.cps.toList)) (hx : scope.names.lookup x = some .local ∨ scope.names.lookup x = some .cell := by first | exact Or.inl rfl | exact Or.inr rfl) (hc : X.calm = true := by rfl) (h1 : ifs.length ≤ 1 := by decide) (hs : ∀ x, foldedSetIterable iter X.env x = pure x := by intro _; rfl) :
    wE X (.ListComp elt [⟨.Name x px, iter, ifs, 0⟩] scope pos) σ H Q :=
  w_lcF j hN ok h1 (pg_own hN ok hx) (i_str (wE_mono q fun v H1 ⟨z, e, h⟩ => ⟨z, e, _, _, walk_signs, fun H' ex => trivial, h⟩)) hc hs
end
end RG

end

section
set_option Elab.async false
set_option linter.all false
set_option maxRecDepth 100000
set_option maxHeartbeats 4000000
/-! ## zip of two texts, as something that is walked -/
namespace RG
open PySem PySem.Spec PyProof.Rows L2 Evl
def Itxy (x y : Str) : It := ⟨fun i _ => i < min x.cps.size y.cps.size, fun i H v H' => ∃ T c d, v = .ref T ∧ H T = none ∧ H' = upd H T (.tup [.str ⟨#[c]⟩, .str ⟨#[d]⟩]) ∧ x.cps[i]? = some c ∧ y.cps[i]? = some d,
  fun i _ => i = min x.cps.size y.cps.size⟩
theorem sit_at {h h' : Heap} {it : Addr} {ty : String} {x : Str} {t : Tok} {i : Nat} (q : h.IsStrIter it ty x t i) (k : ∀ o, h.get? it = some o → h'.get? it = some o) : h'.IsStrIter it ty x t i := by
  obtain ⟨o, e, c, d⟩ := q
  exact ⟨o, k o e, c, d⟩
theorem turn_zipxy {P : Program} {w : World} {K : PySem.W.Frag} {elts : List Expr} {kk : Nat} {tpos : Pos} {x y : Str} {tx ty : Tok} {z TI TO i1 i2 : Addr} (D : ZipSep2 z TI TO i1 i2 [i1] [i2]) :
    Turn P w K (.Tuple elts kk tpos) (Itxy x y) [z, TI, TO, i1, i2] z (fun i h => IsZip h z TI TO .none ∧ IsTupOf2 h TI (.ref i1) (.ref i2) ∧ (∃ a b, IsTupOf2 h TO a b) ∧ h.IsStrIter i1 (strIterType x) x tx i ∧ h.IsStrIter i2 (strIterType y) y ty i) where
  mem := List.mem_cons_self
  obj := fun i h ⟨hz, hTI, ⟨a, b, hTO⟩, h1, h2⟩ c hc => by
    simp only [List.mem_cons, List.not_mem_nil, or_false] at hc
    rcases hc with q | q | q | q | q <;> rw [q]
    · exact ⟨_, hz, fun v q => nomatch q⟩
    · exact ⟨_, hTI, fun v q => nomatch q⟩
    · exact ⟨_, hTO, fun v q => nomatch q⟩
    · obtain ⟨o1, e1, _, d1⟩ := h1
      exact ⟨o1, e1, fun v q => by rw [d1] at q; cases q⟩
    · obtain ⟨o2, e2, _, d2⟩ := h2
      exact ⟨o2, e2, fun v q => by rw [d2] at q; cases q⟩
  keep := fun i h h' ⟨hz, hTI, ⟨a, b, hTO⟩, h1, h2⟩ k =>
    ⟨k z (by simp) _ hz, k TI (by simp) _ hTI, ⟨a, b, k TO (by simp) _ hTO⟩, sit_at h1 fun o q => k i1 (by simp) o q, sit_at h2 fun o q => k i2 (by simp) o q⟩
  item := by
    intro X hP hw hK hc i pins s σ H E I hf st hg
    subst hP hw hK
    obtain ⟨hz, hTI, ⟨a, b, hTO⟩, h1, h2⟩ := st
    have hg' : i < min x.cps.size y.cps.size := hg
    have hzl : z < s.heap.objs.size := Heap.lt_size hz
    have hA : X.A.in1.handled = none := I.ok.hd hc
    refine wpAny_pyNext_zipD2_item D (Draws.text hA i1 x tx) (Draws.text hA i2 y ty) hz hTI hTO h1 h2 (Nat.lt_of_lt_of_le hg' (Nat.min_le_left _ _)) (Nat.lt_of_lt_of_le hg' (Nat.min_le_right _ _)) fun x1 x2 h' tk p1 p2 z' TO' h1' h2' hT hsz hk => ?_
    obtain ⟨c, u1, ec, rfl⟩ := p1
    obtain ⟨d, u2, ed, rfl⟩ := p2
    refine ⟨_, rfl, wpAny_letOwnedTupleGo_zip (s := { s with heap := h', toks := tk }) z' fun h'' z'' sb => ?_⟩
    have hT2 : h''.get? s.heap.objs.size = some { cls := .type "tuple", data := .seq #[.str ⟨#[c]⟩ u1, .str ⟨#[d]⟩ u2] } := (sb.2 _ (Nat.ne_of_gt hzl)).trans hT
    have new : ObjOk X.prog X.w (upd H s.heap.objs.size (.tup [.str ⟨#[c]⟩, .str ⟨#[d]⟩])) h'' s.heap.objs.size (.tup [.str ⟨#[c]⟩, .str ⟨#[d]⟩]) :=
      ⟨by show 2 ≤ sizeLine; decide, [.str ⟨#[c]⟩ u1, .str ⟨#[d]⟩ u2], .cons ⟨_, rfl⟩ (.cons ⟨_, rfl⟩ .nil), ⟨_, hT2, rfl, _, rfl⟩⟩
    have I1 : Inv X pins σ (upd H s.heap.objs.size (.tup [.str ⟨#[c]⟩, .str ⟨#[d]⟩])) { s with heap := h'', toks := tk } :=
      I.turnedNew (t' := tk) (ch := [z, TI, TO, i1, i2]) (fun c o hb q => (sb.2 c (fun q' => hb (by simp [q']))).trans (hk c o (fun q' => hb (by simp [q'])) (fun q' => hb (by simp [q'])) (fun q' => hb (by simp [q'])) (fun q' => hb (by simp [q'])) q)) hf (Nat.le_refl _) new
    refine ⟨.ref s.heap.objs.size, _, I1, rfl, ⟨_, c, d, rfl, I.hok.fresh (Nat.le_refl _), rfl, ec, ed⟩, ⟨z'', ?_, ⟨.str ⟨#[c]⟩ u1, .str ⟨#[d]⟩ u2, ?_⟩, ?_, ?_⟩, fun c hcm => ?_⟩
    · exact (sb.2 _ D.TIz).trans (hk _ _ D.TIz D.TITO D.TIi1 D.TIi2 hTI)
    · exact (sb.2 _ D.TOz).trans TO'
    · exact sit_at h1' fun o q => (sb.2 _ (fun e => D.zf1 (by rw [← e]; simp))).trans q
    · exact sit_at h2' fun o q => (sb.2 _ (fun e => D.zf2 (by rw [← e]; simp))).trans q
    · have hlt : c < s.heap.objs.size := by
        simp only [List.mem_cons, List.not_mem_nil, or_false] at hcm
        rcases hcm with q | q | q | q | q <;> rw [q]
        · exact hzl
        · exact Heap.lt_size hTI
        · exact Heap.lt_size hTO
        · obtain ⟨_, e1, _⟩ := h1; exact Heap.lt_size e1
        · obtain ⟨_, e2, _⟩ := h2; exact Heap.lt_size e2
      rw [upd_ne (Nat.ne_of_lt hlt)]
      exact (hf c hcm).1
  done := by
    intro X hP hw hK hc i pins s σ H E I hf st hg
    subst hP hw hK
    obtain ⟨hz, hTI, ⟨a, b, hTO⟩, h1, h2⟩ := st
    have hA : X.A.in1.handled = none := I.ok.hd hc
    have hg' : i = min x.cps.size y.cps.size := hg
    exact wpAny_pyNext_zipD2_end D (Draws.text hA i1 x tx) (Draws.text hA i2 y ty) hz hTI hTO h1 h2 (by rw [hg']; exact Nat.min_le_left _ _) (by rw [hg']; exact Nat.min_le_right _ _) (by omega) fun h' tk hk =>
      ⟨rfl, I.turnedL (t' := tk) (ch := [z, TI, TO, i1, i2]) (fun c o hb q => hk c o (fun q' => hb (by simp [q'])) (fun q' => hb (by simp [q'])) (fun q' => hb (by simp [q'])) (fun q' => hb (by simp [q'])) q) hf⟩
  self := fun A i s Q E st h => wpAny_pyIter_zip st.1 h
theorem walk_xy {x y : Str} : Walk (Itxy x y) (min x.cps.size y.cps.size) (fun _ => True) (fun i H v H' => ∃ T c d, v = .ref T ∧ H T = none ∧ H' = upd H T (.tup [.str ⟨#[c]⟩, .str ⟨#[d]⟩]) ∧ x.cps[i]? = some c ∧ y.cps[i]? = some d) :=
  ⟨fun _ _ hi _ => hi, fun _ _ => rfl, fun _ _ _ _ _ _ y => y⟩
theorem i_zipS {X : Cx} {σ : L2.St} {H : Hp} {R : It → Hp → Prop} {e e2 : Expr} {p pos tpos : Pos} {elts : List Expr} {kk : Nat} (hm : X.mg "zip" = none)
    (q : wA X [e, e2] σ H fun vs H1 => ∃ x y, vs = [.str x, .str y] ∧ R (Itxy x y) H1) (hg : Gl X "zip" := by rfl)
    (hs : starEach [e, e2] X.env = (false, eval e X.env) :: starEach [e2] X.env := by rfl) (hpl : (backTo pos (starEach [e2] X.env)).any (·.1) = false := by rfl) :
    wI X (.Tuple elts kk tpos) (.Call (.Name "zip" p) [e, e2] [] pos) σ H R := by
  obtain ⟨ta, ha, hq⟩ := q
  refine ⟨fun σ H R => ta σ H fun vs H1 => ∃ x y, vs = [.str x, .str y] ∧ R (Itxy x y) H1, ⟨fun pins s σ H R I h => ?_⟩, hq⟩
  refine Call_ (ld_blt I hg hm PyProof.Rows.boot_zip (PyProof.Rows.callWith_type1 (thn (ha.run pos pins s σ H _ I h) fun us s1 ⟨vs, H1, I1, r1, q1⟩ => ?_) hs hpl))
  obtain ⟨x, y, ex, q⟩ := q1
  subst ex
  cases r1 with
  | cons r rr =>
    cases rr with
    | cons r' rr =>
      cases rr
      obtain ⟨tx, rfl⟩ := r
      obtain ⟨ty, rfl⟩ := r'
      refine zip_begins2 (begins_text x tx) (begins_text y ty) trivial trivial fun h' hz hTI hTO h1 h2 hsz hk => wpAny_pyIter_zip hz ?_
      have I2 : Inv X pins σ H1 { s1 with heap := h' } := I1.kept (t' := s1.toks) hk
      refine ⟨s1.heap.objs.size + 4, [s1.heap.objs.size + 4, s1.heap.objs.size + 2, s1.heap.objs.size + 3, s1.heap.objs.size, s1.heap.objs.size + 1], _, _, H1, rfl, I2,
        turn_zipxy (tx := tx) (ty := ty) (zip_sep2 (N := s1.heap.objs.size) (fp1 := []) (fp2 := []) (fun _ h => nomatch h) (fun _ h => nomatch h)), ⟨hz, hTI, ⟨_, _, hTO⟩, ⟨_, h1, rfl, rfl⟩, ⟨_, h2, rfl, rfl⟩⟩, fun c hcm => ?_, q⟩
      have hle : s1.heap.objs.size ≤ c := by
        simp only [List.mem_cons, List.not_mem_nil, or_false] at hcm
        rcases hcm with z | z | z | z | z <;> rw [z]
        · exact Nat.le_add_right _ _
        · exact Nat.le_add_right _ _
        · exact Nat.le_add_right _ _
        · exact Nat.le_refl _
        · exact Nat.le_add_right _ _
      exact I1.fpOk hle (I1.hok.fresh hle)
end RG

end

section
set_option Elab.async false
set_option linter.all false
set_option maxRecDepth 100000
set_option maxHeartbeats 4000000
/-! ## texts as lists of letters; small rules -/
namespace RG
open PySem L2 Evl
def S (l : Wd) : Str := ⟨l.toArray⟩
abbrev VS (l : Wd) : V := .str (S l)
theorem S_list (l : Wd) : (S l).cps.toList = l := by simp [S]
theorem S_size (l : Wd) : (S l).cps.size = l.length := by simp [S]
theorem S_len (l : Wd) : (S l).length = l.length := by
  show (S l).cps.size = _
  exact S_size l
theorem S_inj {a b : Wd} (h : S a = S b) : a = b := by
  have := congrArg (fun z : Str => z.cps.toList) h
  simpa [S_list] using this
theorem VS_inj {a b : Wd} (h : VS a = VS b) : a = b := S_inj (V.str.inj h)
theorem S_add (a b : Wd) : S a ++ S b = S (a ++ b) := by
  show (⟨(S a).cps ++ (S b).cps⟩ : Str) = _
  simp [S]
theorem signs_S (l : Wd) : signs (S l).cps.toList = l.map fun c => VS [c] := by rw [S_list]; rfl
theorem S_cut1 (l : Wd) : cutS (S l) (some 1) none = S (l.drop 1) := by
  unfold cutS
  rw [S_list, S_len]
  show (⟨_⟩ : Str) = ⟨_⟩
  congr 1
  have e1 : HT.sIx l.length 0 (some 1) = min 1 l.length := HT.sIx_nat l.length 0 1
  rw [e1, HT.sIx_none]
  congr 1
  cases l with
  | nil => rfl
  | cons a r => simp
theorem S_cut0 (l : Wd) (k : Nat) : cutS (S l) none (some (k : Int)) = S (l.take k) := by
  unfold cutS
  rw [S_list, S_len]
  show (⟨_⟩ : Str) = ⟨_⟩
  congr 1
  rw [HT.sIx_none, HT.sIx_nat]
  congr 1
  simp only [List.drop_zero, Nat.sub_zero]
  rw [List.take_eq_take_iff]
  omega
theorem small_line {n : Nat} (h : n ≤ 100000) : n ≤ sizeLine := Nat.le_trans h (by decide)
theorem small_lt {n : Nat} (h : n < 100000) : n < sizeLine := Nat.lt_of_lt_of_le h (by decide)
section
variable {X : Cx} {σ : L2.St} {H : Hp} {Q : VK} {e a b o lo hi : Expr} {pos p p2 : Pos}
theorem w_in_sign (q : wE X a σ H fun x H1 => wE X b σ H1 fun y H2 => ∃ c l, x = VS [c] ∧ y = VS l ∧ Q (.bl (l.contains c)) H2) (hm : behindInMarks .In b = false := by with_unfolding_all rfl) : wE X (.Compare a [.In] [b] pos) σ H Q :=
  w_cmp op_in_sign (wE_mono q fun x H1 h => wE_mono h fun y H2 ⟨c, l, ex, ey, k⟩ => ⟨c, S l, ex, ey, by
    have z : decide (c ∈ (S l).cps.toList) = l.contains c := by rw [S_list]; simp
    rw [z]
    exact k⟩) hm
theorem t_in_sign {R : Bool → Hp → Prop} (q : wE X a σ H fun x H1 => wE X b σ H1 fun y H2 => ∃ c l, x = VS [c] ∧ y = VS l ∧ R (l.contains c) H2) (hm : behindInMarks .In b = false := by with_unfolding_all rfl) : wT X (.Compare a [.In] [b] pos) σ H R :=
  t_cmp op_in_sign (wE_mono q fun x H1 h => wE_mono h fun y H2 ⟨c, l, ex, ey, k⟩ => ⟨c, S l, ex, ey, _, rfl, by
    have z : decide (c ∈ (S l).cps.toList) = l.contains c := by rw [S_list]; simp
    rw [z]
    exact k⟩) hm
theorem w_lt_sign (q : wE X a σ H fun x H1 => wE X b σ H1 fun y H2 => ∃ c d, x = VS [c] ∧ y = VS [d] ∧ Q (.bl (decide (c < d))) H2) : wE X (.Compare a [.Lt] [b] pos) σ H Q :=
  w_cmp op_lt_str (wE_mono q fun x H1 h => wE_mono h fun y H2 ⟨c, d, ex, ey, k⟩ => ⟨S [c], S [d], ex, ey, by
    have z : decide ((S [c]).cps.toList < (S [d]).cps.toList) = decide (c < d) := by
      rw [S_list, S_list]
      refine decide_eq_decide.mpr ?_
      rw [List.cons_lt_cons_iff]
      constructor
      · rintro (h | ⟨_, h⟩)
        · exact h
        · exact absurd h (List.lt_irrefl [])
      · exact Or.inl
    rw [z]
    exact k⟩) (nomark _)
theorem w_add_str (q : wE X a σ H fun x H1 => wE X b σ H1 fun y H2 => ∃ l m, x = VS l ∧ y = VS m ∧ l.length + m.length ≤ 100000 ∧ Q (VS (l ++ m)) H2) : wE X (.BinOp a .Add b pos) σ H Q :=
  w_op op_add_str (wE_mono q fun x H1 h => wE_mono h fun y H2 ⟨c, d, ex, ey, hl, k⟩ => ⟨S c, S d, ex, ey, by rw [S_len, S_len]; exact small_line hl, by
    rw [S_add]
    exact k⟩)
theorem w_slice1 {j} {pc : Pos} (q : wE X e σ H fun x H1 => ∃ l : Wd, x = VS l ∧ l.length ≤ 100000 ∧ Q (VS (l.drop 1)) H1) : wE X (.Subscript e (.Slice (some (.Constant (.int 1) j pc)) none none p2) pos) σ H Q :=
  ⟨_, pe_slice sl_str pe_w (po_some pe_int) po_none, wE_mono q fun x H1 ⟨l, ex, hl, k⟩ => ⟨1, rfl, S l, ex, by rw [S_len]; exact small_line hl, by rw [S_cut1]; exact k⟩⟩
/-- isinstance with a built-in class -/
theorem w_isi {T : Str} {t : String} {pn : Pos} (hm : X.mg "isinstance" = none) (hT : X.mg T = none) (hv : bootBuiltins T = some (.type t)) (q : wE X e σ H fun v H1 => ∃ ty b, TyX X.K H1 v (.type ty) ∧ kitB ty t = some b ∧ Q (.bl b) H1)
    (hg : Gl X "isinstance" := by rfl) (hgT : Gl X T := by rfl) (hn : T ≠ "__name__" := by decide) (hd : (T == ("__debug__" : Str)) = false := by decide)
    (hs1 : starEach [e, .Name T pn] X.env = (false, eval e X.env) :: starEach [.Name T pn] X.env := by rfl) (hs2 : starEach [.Name T pn] X.env = (false, eval (.Name T pn) X.env) :: starEach [] X.env := by rfl)
    (hpl : (backTo pos (starEach [.Name T pn] X.env)).any (·.1) = false := by rfl) :
    wE X (.Call (.Name "isinstance" p) [e, .Name T pn] [] pos) σ H Q :=
  w_callB call_isi hm (by decide +kernel) (a_cons (wE_mono q fun v H1 ⟨ty, b, h1, h2, k⟩ => a_cons (w_bltn (v := .ty t) hT hv rfl (a_nil ⟨v, .ty t, .type ty, .type t, b, rfl, .ty t, h1, kit_ty h2, k⟩) hgT hn hd) hs2) hs1) hg (by decide) (by decide) hs1 hpl
/-- all, any of a list of truth values just made -/
theorem w_all {e : Expr} {p pos : Pos} (hc : X.calm = true) (hm : X.mg "all" = none) (q : wE X e σ H fun v H1 => ∃ (a : Addr) (bs : List Bool), v = .ref a ∧ SqL X.K H1 a (bs.map V.bl) ∧ Q (.bl (bs.all id)) H1) (hg : Gl X "all" := by rfl)
    (hs1 : starEach [e] X.env = (false, eval e X.env) :: starEach [] X.env := by rfl) : wE X (.Call (.Name "all" p) [e] [] pos) σ H Q :=
  w_callB (cr_all hc) hm (by decide +kernel) (a_cons (wE_mono q fun v H1 ⟨a, bs, ev, h, k⟩ => a_nil ⟨a, bs, by rw [ev], h, k⟩) hs1) hg (by decide) (by decide) hs1 (by rfl)
theorem w_any {e : Expr} {p pos : Pos} (hc : X.calm = true) (hm : X.mg "any" = none) (q : wE X e σ H fun v H1 => ∃ (a : Addr) (bs : List Bool), v = .ref a ∧ SqL X.K H1 a (bs.map V.bl) ∧ Q (.bl (bs.any id)) H1) (hg : Gl X "any" := by rfl)
    (hs1 : starEach [e] X.env = (false, eval e X.env) :: starEach [] X.env := by rfl) : wE X (.Call (.Name "any" p) [e] [] pos) σ H Q :=
  w_callB (cr_any hc) hm (by decide +kernel) (a_cons (wE_mono q fun v H1 ⟨a, bs, ev, h, k⟩ => a_nil ⟨a, bs, by rw [ev], h, k⟩) hs1) hg (by decide) (by decide) hs1 (by rfl)
end
/-! ### [elt for x, y in zip(..)] over two texts -/
section
variable {X : Cx} {σ : L2.St} {H : Hp} {Q : VK} {elt e e2 : Expr} {scope : Scope} {pos px py pz p pt : Pos} {x y : Str} {kk : Nat}
theorem wipe_two (σ : L2.St) {i j : Nat} (h : i ≠ j) (a b : Option V) : wipe (((wipe σ [i, j]).set i a).set j b) [i, j] = wipe σ [i, j] := by
  apply List.ext_getElem?
  intro n
  by_cases h1 : i = n <;> by_cases h2 : j = n <;> simp [wipe, List.getElem?_set, h1, h2]
theorem wipe_two' (σ : L2.St) {i j : Nat} (h : i ≠ j) (a b : Option V) : ((wipe σ [i, j]).set i a).set j b = (σ.set i a).set j b := by
  apply List.ext_getElem?
  intro n
  by_cases h1 : i = n <;> by_cases h2 : j = n <;> simp [wipe, List.getElem?_set, h1, h2]
theorem w_lcZ (i j : Nat) (hij : i ≠ j) (hN : X.N.Nodup) (ok : BlkOk X.N X.env.scope scope [(x, i), (y, j)]) (hc : X.calm = true) (hm : X.mg "zip" = none)
    (q : wA X [e, e2] σ H fun vs H1 => ∃ a b : Wd, vs = [VS a, VS b] ∧ a.length < 100000 ∧ ∃ h : Nat → Nat → V, (∀ c d H' (R : VK), Ex H1 H' → (∀ H'', Ex H' H'' → R (h c d) H'') → bE X scope elt ((σ.set i (some (VS [c]))).set j (some (VS [d]))) H' R) ∧
      ∀ p H', H1 p = none → Ex H1 H' → H' p = some (.lst ((a.zip b).map fun q => h q.1 q.2)) → Q (.ref p) H')
    (hx : scope.names.lookup x = some .local) (hy : scope.names.lookup y = some .local) (hg : Gl X "zip" := by rfl)
    (hs : starEach [e, e2] X.env = (false, eval e X.env) :: starEach [e2] X.env := by rfl) (hpl : (backTo pz (starEach [e2] X.env)).any (·.1) = false := by rfl) (hf : ∀ v, foldedSetIterable (.Call (.Name "zip" p) [e, e2] [] pz) X.env v = pure v := by intro _; rfl) :
    wE X (.ListComp elt [⟨.Tuple [.Name x px, .Name y py] kk pt, .Call (.Name "zip" p) [e, e2] [] pz, [], 0⟩] scope pos) σ H Q := by
  have hi : X.N[i]? = some x := ok.ix (x, i) (by simp)
  have hj : X.N[j]? = some y := ok.ix (y, j) (by simp)
  have hx' := fun (s : Shared) (H : Hp) (C : Addr) (cl : List (Str × Addr)) (fp : List Addr) => lookup_relS_keep (sc := X.env.scope) (by decide) hx
  have hy' := fun (s : Shared) (H : Hp) (C : Addr) (cl : List (Str × Addr)) (fp : List Addr) => lookup_relS_keep (sc := X.env.scope) (by decide) hy
  refine w_lc (own := [(x, i), (y, j)]) hc hN ok gm_two (Nat.zero_le _) (g := gTup X.K 2 (gCons (gName i) (gCons (gName j) gNil))) (fun s H C cl fp => ?_) ?_ hf
  · refine pg_tup hc (pgs_cons (pg_name hN hi (.inl (hx' s H C cl fp)) (.inr (hx' s H C cl fp))) (pgs_cons (pg_name hN hj (.inl (hy' s H C cl fp)) (.inr (hy' s H C cl fp))) pgs_nil))
  obtain ⟨ta, ha, hq⟩ := q
  refine i_zipS hm ⟨fun σ H R => ∃ R0, ta σ H R0 ∧ ∀ vs H1, R0 vs H1 → R vs H1, ⟨fun ps pins s σ H R I ⟨R0, q0, k⟩ => thn (ha.run ps pins s σ H R0 I q0) fun us s' ⟨vs, H', I', r, z⟩ => ⟨vs, H', I', r, k _ _ z⟩⟩, _, hq, ?_⟩ hg hs hpl
  rintro vs H1 ⟨a, b, ev, hl, h, hb, hd⟩
  refine ⟨S a, S b, ev, _, _, _, walk_xy, fun D hD => ?_⟩
  have e0 : ∀ n, n ≤ min (S a).cps.size (S b).cps.size → n ≤ (a.zip b).length := fun n hn => by
    rw [List.length_zip, ← S_size a, ← S_size b]
    exact hn
  refine ⟨fun n acc H => acc = ((a.zip b).take n).map (fun q => h q.1 q.2) ∧ Ex H1 H ∧ H D = some (.lst acc), ⟨by simp, Ex.new hD, upd_same⟩, fun n acc H hn ⟨e, x, d⟩ => ⟨trivial, d, ?_⟩, ?_, ?_⟩
  · rw [e, List.length_map, List.length_take, List.length_zip]
    exact small_lt (by omega)
  · rintro n v acc H H' hn ⟨e, ex, d⟩ ⟨T, c1, c2, rfl, hT, rfl, h1, h2⟩
    have ex1 : Ex H (upd H T (.tup [VS [c1], VS [c2]])) := Ex.new hT
    refine ⟨T, _, rfl, SqT.of upd_same, rfl, VS [c1], [VS [c2]], rfl, VS [c2], [], rfl, rfl, ?_, ?_⟩
    · exact wipe_two σ hij _ _
    · have w1 : ((wipe σ [i, j]).set i (some (VS [c1]))).set j (some (VS [c2])) = (σ.set i (some (VS [c1]))).set j (some (VS [c2])) := wipe_two' σ hij _ _
      show bE X scope elt (((wipe σ [i, j]).set i (some (VS [c1]))).set j (some (VS [c2]))) _ _
      rw [w1]
      refine hb c1 c2 _ _ (ex.trans ex1) fun H'' ex2 => ?_
      have ex3 := ex1.trans ex2
      refine ⟨ex3 _ _ d, ?_, (ex.trans ex3).mut hD, upd_same⟩
      have hz : (a.zip b)[n]? = some (c1, c2) := by
        have q1 : a[n]? = some c1 := by simpa [S] using h1
        have q2 : b[n]? = some c2 := by simpa [S] using h2
        rw [List.getElem?_zip_eq_some]
        exact ⟨q1, q2⟩
      rw [e, List.take_add_one, hz, List.map_append]
      rfl
  · rintro acc H ⟨e, ex, d⟩
    refine hd D H hD ex ?_
    rw [d, e, List.take_of_length_le]
    rw [List.length_zip, S_size, S_size]
    exact Nat.le_refl _
end
end RG

end

section
set_option Elab.async false
set_option linter.all false
set_option maxRecDepth 100000
set_option maxHeartbeats 4000000
/-! ## sorted(xs, key=f), f(x) = (len(x), x), xs texts -/
namespace RG
open PySem PySem.Spec PyProof.Rows L2 Evl
/-! ### the order -/
def keyD2 (l : Wd) : PyData := .tuple [.int l.length, .str (S l)]
theorem lt_int (x y : Int) : PySem.W.dataLt (.int x) (.int y) = decide (x < y) := by
  have h := congrFun (congrFun (PySem.W.dataLe_int (β := Int) id) y) x
  rw [PySem.W.dataLe_eq] at h
  simp only [cond_false, id] at h
  by_cases c : x < y
  · rw [decide_eq_true c]
    rw [decide_eq_false (by omega)] at h
    simpa using h
  · rw [decide_eq_false c]
    rw [decide_eq_true (by omega)] at h
    simpa using h
theorem lex_lt : ∀ a b : List Nat, (!leLex b a) = decide (a < b)
  | [], [] => by simp [leLex]
  | [], b :: t => by simp [leLex]
  | a :: r, [] => by simp [leLex]
  | a :: r, b :: t => by
    have ih := lex_lt r t
    by_cases e : b = a
    · subst e
      simp only [leLex, if_pos]
      rw [ih]
      exact decide_eq_decide.mpr (by rw [List.cons_lt_cons_iff]; simp)
    · have e' : ¬ a = b := fun q => e q.symm
      simp only [leLex, if_neg e]
      by_cases c : a < b
      · rw [decide_eq_false (by omega), decide_eq_true (by rw [List.cons_lt_cons_iff]; exact .inl c)]
        rfl
      · rw [decide_eq_true (by omega), decide_eq_false (by rw [List.cons_lt_cons_iff]; rintro (h | ⟨h, _⟩); exact c h; exact e' h)]
        rfl
theorem lt_str (a b : Wd) : PySem.W.dataLt (.str (S a)) (.str (S b)) = !leLex b a := by
  have h := congrFun (congrFun (PySem.W.dataLe_str (β := Wd) S) b) a
  rw [PySem.W.dataLe_eq] at h
  simp only [cond_false, S_list] at h
  rw [lex_lt]
  by_cases c : a < b
  · rw [decide_eq_true c]
    rw [decide_eq_false (by rw [List.not_le]; exact c)] at h
    simpa using h
  · rw [decide_eq_false c]
    rw [decide_eq_true (by rw [List.not_lt] at c; exact c)] at h
    simpa using h
theorem le_key : PySem.W.dataLe false keyD2 = leSz := by
  funext a b
  rw [PySem.W.dataLe_eq]
  simp only [cond_false]
  unfold keyD2 leSz
  rw [PySem.W.dataLt_pair rfl rfl]
  have e1 : PyData.eqv (.int (b.length : Int)) (.int (a.length : Int)) = decide (b.length = a.length) := by
    show ((b.length : Int) == (a.length : Int)) = _
    by_cases c : b.length = a.length
    · rw [c]; simp
    · rw [decide_eq_false c]
      simp only [beq_eq_false_iff_ne]
      omega
  rw [e1, lt_int, lt_str]
  have e2 : PyData.eqv (.str (S b)) (.str (S a)) = decide (b = a) := by
    show (S b == S a) = _
    by_cases c : b = a
    · rw [c]; simp
    · rw [decide_eq_false c]
      simp only [beq_eq_false_iff_ne]
      exact fun q => c (S_inj q)
  rw [e2]
  by_cases c : b.length = a.length
  · rw [if_pos (decide_eq_true c), if_pos c.symm]
    by_cases d : b = a
    · rw [if_pos (decide_eq_true d), d, leLex_refl]
      rfl
    · rw [if_neg (by rw [decide_eq_false d]; exact Bool.false_ne_true)]
      simp
  · rw [if_neg (by rw [decide_eq_false c]; exact Bool.false_ne_true), if_neg (fun q => c q.symm)]
    by_cases d : a.length < b.length
    · rw [decide_eq_true d, decide_eq_false (by omega)]
      rfl
    · rw [decide_eq_false d, decide_eq_true (by omega)]
      rfl
theorem merge_is (l : List Wd) : l.mergeSort (PySem.W.dataLe false keyD2) = isort leSz l := by
  rw [le_key]
  refine isort_is ord_sz (List.mergeSort_perm l leSz) ?_
  exact List.pairwise_mergeSort (fun a b c => leSz_trans a b c) (fun a b => by
    rcases leSz_total a b with h | h <;> simp [h]) l
theorem key_alike (l : List Wd) : PySem.W.AllAlike (l.map keyD2) := PySem.W.AllAlike.of fun b b' => rfl
theorem key_sortable (l : List Wd) : PySem.W.Sortable (l.map keyD2) := PySem.W.Sortable.tuples fun b => ⟨_, _, rfl⟩
/-! ### the key's expression, (len(x), x) -/
def keyExpr (x : Str) (p1 p2 p3 p4 p5 : Pos) (k : Nat) : Expr := .Tuple [.Call (.Name "len" p1) [.Name x p2] [] p3, .Name x p4] k p5
section
variable {prog : Program} {w : World} {A : Around} {s : Shared} {env : Env} {x : Str} {z : Str} {t : Tok} {p1 p2 p3 p4 p5 : Pos} {k : Nat}
/-- all that stood stands, nothing else has changed -/
def Grown (s s' : Shared) : Prop := ∃ h' tk, s' = { s with heap := h', toks := tk } ∧ ∀ b o, s.heap.get? b = some o → h'.get? b = some o
theorem Grown.refl (s : Shared) : Grown s s := ⟨s.heap, s.toks, rfl, fun _ _ h => h⟩
theorem Grown.trans {s s1 s2 : Shared} (a : Grown s s1) (b : Grown s1 s2) : Grown s s2 := by
  obtain ⟨h1, t1, rfl, k1⟩ := a
  obtain ⟨h2, t2, rfl, k2⟩ := b
  exact ⟨h2, t2, rfl, fun b o e => k2 b o (k1 b o e)⟩
theorem key_eval {E : Value → Shared → Prop} (hz : z.length ≤ sizeLine) (hx : ∀ (s1 : Shared) (p : Pos) (Q : Value → Shared → Prop) (E : Value → Shared → Prop), Grown s s1 → Q (.str z t) s1 → wpAny (model prog w) A (eval (.Name x p) env) Q E s1)
    (hlen : ∀ (s1 : Shared) (p : Pos) (Q : Value → Shared → Prop) (E : Value → Shared → Prop), Grown s s1 → Q (.builtin "len") s1 → wpAny (model prog w) A (eval (.Name "len" p) env) Q E s1) :
    wpAny (model prog w) A (eval (keyExpr x p1 p2 p3 p4 p5 k) env) (PySem.W.KeyPure (.tuple [.int z.length, .str z]) s) E s := by
  have hfit : ¬ (z.length : Int) ≥ 2 ^ 63 := by
    have := line63
    omega
  unfold keyExpr
  refine wpAny_Tuple_spliced ?_
  refine Calls.spliced_cons (wpAny_Call_Name_kw (hlen s p1 _ _ (Grown.refl s) (callWith_builtin1 (Calls.spliced_cons (hx s p2 _ _ (Grown.refl s) (Calls.spliced_nil ?_))))))
  refine PyProof.Rows.len_str hfit ?_
  refine Calls.spliced_cons (hx _ p4 _ _ ⟨s.heap, _, rfl, fun _ _ h => h⟩ (Calls.spliced_nil ⟨by show 2 ≤ sizeLine; decide, ?_⟩))
  refine ⟨_, _, rfl, fun b o e => Heap.get?_push_of_some _ e, ?_⟩
  exact .tuple (Heap.get?_push_size _ rfl) rfl rfl (.cons (.int _ _) (.cons (.str _ _) .nil))
/-- a call of the def: KeyFn f says that f is such a key -/
def KeyFn (prog : Program) (w : World) (A : Around) (s : Shared) (f : Value) : Prop := ∀ (l : Wd) (t : Tok), l.length ≤ 1000 → ∀ (h : Heap) (tk : Nat), (∀ b o, s.heap.get? b = some o → h.get? b = some o) →
  wpAny (model prog w) A (call f [.str (S l) t]) (PySem.W.KeyPure (keyD2 l) { s with heap := h, toks := tk }) (fun _ _ => False) { s with heap := h, toks := tk }
end
section
variable {P : Program} {w : World} {K : PySem.W.Frag} {mg : Str → Option Value} {base : Heap}
theorem ld_len {A : Around} {env : Env} {s : Shared} {p : Pos} {Q : Value → Shared → Prop} {E : Value → Shared → Prop} (M : Mod K mg base) (hm : mg "len" = none) (hk : env.scope.kind = .function) (hg : env.kindOf "len" = some .globalImplicit)
    (e1 : env.globals = mainGlobals) (e2 : env.builtins = builtinsNs) (kb : ∀ b o, base.get? b = some o → s.heap.get? b = some o) (h : Q (.builtin "len") s) : wpAny (model P w) A (eval (.Name "len" p) env) Q E s := by
  obtain ⟨mb, h1, h2⟩ := M.blt
  exact Calls.Name_function_global hk hg (Calls.loadGlobal_builtin (by rw [e1]; exact M.glob.keeps kb) hm (by rw [e2]; exact h1.keeps kb) ((h2 "len" (by decide)).trans (by decide +kernel)) h) (by decide)
/-- the def f(x): return (len(x), x) -/
theorem key_def {st : Stmt} {f : Addr} {fd : FuncData} {name x : Str} {p1 p2 p3 p4 p5 p6 : Pos} {k : Nat} (F : Fun K name name st f fd) (sc : FnScope [x] [x] (defScope st)) (hb : defBody st = [.Return (some (keyExpr x p1 p2 p3 p4 p5 k)) p6])
    (bd : Binds K fd [x] []) (hx : (defScope st).names.lookup x = some .local) (hl : (defScope st).names.lookup ("len" : Str) = some .globalImplicit) (hd : (x == ("__debug__" : Str)) = false) (M : Mod K mg base) (hm : mg "len" = none)
    {A : Around} (hr : A.depth < recursionLimit) {s : Shared} (kb : ∀ b o, base.get? b = some o → s.heap.get? b = some o) : KeyFn P w A s (.ref f) := by
  intro l t hlen h tk hk
  obtain ⟨oc, od, kV, doc, pm, an, cdv, ct, osl, rfl, lk, hcd⟩ := F.ex
  have kb' : ∀ b o, base.get? b = some o → h.get? b = some o := fun b o e => hk b o (kb b o e)
  have KX : K.In h := M.kin.keeps kb'
  have lim : h.NoLimit := M.nolimit.keeps kb'
  refine wpAny_call (codeAny_call_function hr (KX _ _ lk) rfl sc.co sc.gen rfl (PySem.W.codeRec_of KX hcd) (bd _ [.str (S l) t] KX rfl _ _ _ _ ?_))
  refine wpAny_newFunctionEnv_cells sc.kind (fun y hy => ?_) fun env he s1 xx => ?_
  · have e : y = (x, Value.str (S l) t) := by simpa using hy
    subst e
    exact .inl hx
  subst he
  obtain ⟨h1, t1, e1, k1⟩ := xx.done
  refine ⟨lim.keeps xx.toInCall.keep, codeAny_func ?_⟩
  show wpAny _ _ (execs (defBody st) _) _ _ _
  rw [hb]
  refine wpAny_execs_cons ?_
  refine wpAny_Return_some ?_
  have kl : (newEnv (defScope st) h.objs.size mainGlobals (cellsFrom (h.objs.size + 1) (defScope st).names []) (name ++ ".<locals>.") (some f) cdv none builtinsNs).kindOf x = some .local := hx
  refine thn (key_eval (s := s1) (z := S l) (t := t) (by rw [S_len]; exact small_line (by omega)) (fun s2 p Q E g q => ?_) fun s2 p Q E g q => ?_) fun v s2 q => ?_
  · obtain ⟨h2, t2, rfl, k2⟩ := g
    rw [eval_Name _ _ _ hd]
    refine wpAny_bind (wpAny_standAt (wpAny_loadName_local sc.kind kl (xx.toInCall.ns.keeps k2) ?_ q))
    exact bindL_get (P := [x]) (vs := [.str (S l) t]) (i := 0) (by simp) rfl rfl kl
  · obtain ⟨h2, t2, rfl, k2⟩ := g
    exact ld_len M hm sc.kind hl rfl rfl (fun b o e => k2 b o (xx.toInCall.keep b o (kb' b o e))) q
  · obtain ⟨h2, t2, rfl, k2, rd⟩ := q
    rw [S_len] at rd
    refine ⟨h2, t2, ?_, fun b o e => k2 b o (xx.toInCall.keep b o e), rd⟩
    rw [e1]
end
/-! ### the sort itself -/
theorem each_VS : ∀ {l : List Wd} {us : List Value}, Vals (l.map VS) us → PySem.W.EachIs (fun v x => ∃ t, v = Value.str (S x) t) us l
  | [], _, .nil => .nil
  | _ :: _, _, .cons r q => .cons r (each_VS q)
theorem vals_each : ∀ {l : List Wd} {us : List Value}, PySem.W.EachIs (fun v x => ∃ t, v = Value.str (S x) t) us l → Vals (l.map VS) us
  | _, _, .nil => .nil
  | _, _, .cons r q => .cons r (vals_each q)
theorem sorted_core {X : Cx} {pins : List (Addr × Obj)} {σ : L2.St} {H : Hp} {s : Shared} {Q : VK} {E : Value → Shared → Prop} {a : Addr} {f : Addr} {l : List Wd} (I : Inv X pins σ H s) (hs : SqL X.K H a (l.map VS)) (hl : l.length ≤ 1000) (hx : ∀ x ∈ l, x.length ≤ 1000)
    (hu : X.A.units + 10 < cLine) (kf : KeyFn X.prog X.w X.A.in1.in1 s (.ref f)) (q : ∀ p, H p = none → Q (.ref p) (upd H p (.lst ((isort leSz l).map VS)))) :
    wpAny (model X.prog X.w) X.A (call (.builtin "sorted") [.ref a] [(Str.ofString "key", .ref f)]) (EP X pins σ Q) E s := by
  obtain ⟨its, rv, p, hz⟩ := I.list hs
  refine PySem.W.sorted_key_data (b := false) (bs := l) (R := fun v x => ∃ t, v = Value.str (S x) t) (f := .ref f) keyD2 p.isList (each_VS rv) (key_alike l) (key_sortable l) (Nat.le_trans hl (by decide)) (fun x _ => ?_) (ksk_s1 _ _) (fun x => ksk_l1 _ _) (fun x => ksk_t1 _ _) (fun v x ⟨t, ev⟩ hm h tk hk => ?_) fun out c h' tk hk h0 hnew hlen each => ?_
  · have e : (keyD2 x).depth = 1 := rfl
    rw [e]
    omega
  · subst ev
    exact kf x t (hx x hm) h tk hk
  · rw [merge_is] at each
    have hz2 : ((isort leSz l).map VS).length ≤ sizeLine := by
      rw [List.length_map, (isort_perm l).length_eq]
      exact Nat.le_trans hl (by decide)
    have hn : s.heap.objs.size ≤ s.heap.objs.size + 1 := Nat.le_succ _
    refine ⟨.ref (s.heap.objs.size + 1), upd H (s.heap.objs.size + 1) (.lst ((isort leSz l).map VS)), I.laid hk hn ⟨hz2, out, c, vals_each each, hnew⟩, rfl, q _ (I.hok.fresh hn)⟩
/-- sorted(e, key=f), f a def of the module -/
theorem w_sortedKey {X : Cx} {σ : L2.St} {H : Hp} {Q : VK} {e : Expr} {fn : Str} {f : Addr} {p p2 kp pos : Pos} {k : Nat} (hr : Room (k + 2) X.A) (hm : X.mg "sorted" = none) (hf : X.mg fn = some (.ref f))
    (kf : ∀ (A : Around) (s : Shared), A.depth < recursionLimit → (∀ b o, X.base.get? b = some o → s.heap.get? b = some o) → Mod X.K X.mg X.base → KeyFn X.prog X.w A s (.ref f))
    (q : wE X e σ H fun v H1 => ∃ a l, v = .ref a ∧ SqL X.K H1 a (l.map VS) ∧ l.length ≤ 1000 ∧ (∀ x ∈ l, x.length ≤ 1000) ∧ ∀ p, H1 p = none → Q (.ref p) (upd H1 p (.lst ((isort leSz l).map VS))))
    (hg : Gl X "sorted" := by rfl) (hgf : Gl X fn := by rfl) (hd : (fn == ("__debug__" : Str)) = false := by decide)
    (hs1 : starEach [e] X.env = (false, eval e X.env) :: starEach [] X.env := by rfl) (he : backTo pos (starEach [e] X.env) = (false, eval e X.env) :: backTo pos (starEach [] X.env) := by rfl) (hpl : (backTo pos (starEach [e] X.env)).any (·.1) = false := by rfl)
    (hall : (backToKw pos (keywordEach [⟨some "key", .Name fn p2, kp⟩] X.env)).all (·.1.isSome) = true := by rfl) (hnone : (backToKw pos (keywordEach [⟨some "key", .Name fn p2, kp⟩] X.env)).any (·.1.isNone) = false := by rfl)
    (hks : (backToKw pos (keywordEach [⟨some "key", .Name fn p2, kp⟩] X.env)).filterMap (·.1) = [Str.ofString "key"] := by rfl) :
    wE X (.Call (.Name "sorted" p) [e] [⟨some "key", .Name fn p2, kp⟩] pos) σ H Q := by
  have hc : CallRK X (.builtin "sorted") [Str.ofString "key"] (fun vs zs H1 Q => ∃ a l, vs = [.ref a] ∧ zs = [.ref f] ∧ SqL X.K H1 a (l.map VS) ∧ l.length ≤ 1000 ∧ (∀ x ∈ l, x.length ≤ 1000) ∧ ∀ p, H1 p = none → Q (.ref p) (upd H1 p (.lst ((isort leSz l).map VS)))) := by
    intro pins s σ H xs zs us ws Q I r1 r2 h
    obtain ⟨a, l, rfl, rfl, hs, hl, hx, q⟩ := h
    obtain ⟨u, rfl, ru⟩ := vals1 r1
    obtain ⟨v, rfl, rv⟩ := vals1 r2
    obtain rfl : u = .ref a := ru
    obtain rfl : v = .ref f := rv
    have hr2 : Room k X.A.in1.in1 := (hr.in1).in1
    exact sorted_core I hs hl hx (by have := hr.units; omega) (kf _ s hr2.depth I.bk I.ok.mod) q
  have hgl : PE X (.Name fn p2) (tC (.ref f)) := pe_glob hgf hf rfl hd
  refine ⟨_, pe_callBK hc hg hm (by decide +kernel) (pa_cons pe_w pa_nil hs1) (pk_cons hgl pk_nil) (by decide) (by decide) he hpl hall hnone hks, ?_⟩
  refine wE_mono q fun v H1 ⟨a, l, ev, hs, hl, hx, qq⟩ => ?_
  exact ⟨a, l, by rw [ev], rfl, hs, hl, hx, qq⟩
end RG

end

section
set_option Elab.async false
set_option linter.all false
set_option maxRecDepth 100000
set_option maxHeartbeats 4000000
namespace RG
open PySem L2 Evl
def top (i : Nat) : Stmt := PySem.Challenge.pw_relitgoals_k11_whole_trees_renamed_and_o.main.body.getD i (.Pass ⟨0, 0, 0, 0⟩)
abbrev sIsInteger : Stmt := top 11
abbrev sIsHand : Stmt := top 12
abbrev sNeedHand : Stmt := top 13
abbrev sIsRising : Stmt := top 14
abbrev sIsLamps : Stmt := top 15
abbrev sIsSet : Stmt := top 16
abbrev sNeedLamps : Stmt := top 17
abbrev sIsWithin : Stmt := top 21
/-- the built-ins are not hidden; the module's constants -/
structure Bt (mg : Str → Option Value) : Prop where
  isi : mg "isinstance" = none
  int : mg "int" = none
  bool : mg "bool" = none
  str : mg "str" = none
  tuple : mg "tuple" = none
  list : mg "list" = none
  dict : mg "dict" = none
  len : mg "len" = none
  all : mg "all" = none
  any : mg "any" = none
  zip : mg "zip" = none
  sorted : mg "sorted" = none
  max : mg "max" = none
  sum : mg "sum" = none
  abs : mg "abs" = none
  range : mg "range" = none
  letters : ∃ t, mg "LETTERS" = some (.str "abcdefghijklmnopqrstuvwxyz" t)
  mostLamps : ∃ t, mg "MOST_LAMPS" = some (.int 4 t)
  mostParts : ∃ t, mg "MOST_PARTS" = some (.int 20 t)
  mostSets : ∃ t, mg "MOST_SETS" = some (.int 16 t)
theorem letters_S : ("abcdefghijklmnopqrstuvwxyz" : Str) = S abc := by decide +kernel
section
variable {P : Program} {w : World} {K : PySem.W.Frag} {mg : Str → Option Value} {base : Heap}
/-! ### is_integer, is_hand, need_hand -/
def spIsInteger : Sp := fun vs H Q _ => ∃ i l m : Int, vs = [.int i, .int l, .int m] ∧ Q (.bl (decide (l ≤ i) && decide (i ≤ m))) H
theorem scIsInteger : FnScope ["value", "least", "most"] ["value", "least", "most"] (defScope sIsInteger) := ⟨rfl, rfl, rfl, by decide +kernel, rfl, by decide +kernel, by decide +kernel⟩
theorem ok_is_integer {f : Addr} {fd : FuncData} (F : Fun K "is_integer" "is_integer" sIsInteger f fd) (B : Bt mg) : FnOk P w K mg base CX0 1 f fd ["value", "least", "most"] spIsInteger := by
  refine F.ok scIsInteger (fun vs H Q E h => ?_) (fun cdv A outer s H vs Q E hr h => ?_)
  · obtain ⟨i, l, m, rfl, _⟩ := h
    rfl
  obtain ⟨i, l, m, rfl, k⟩ := h
  refine b_one (s_ret (w_and ?_))
  refine w_isi (t := "int") B.isi B.int (by decide +kernel) (w_var 0 rfl ⟨"int", true, .base (.int i), by decide +kernel, true, rfl, iteT ?_⟩)
  refine w_and (w_not ?_)
  refine w_isi (t := "bool") B.isi B.bool (by decide +kernel) (w_var 0 rfl ⟨"int", false, .base (.int i), by decide +kernel, false, rfl, true, rfl, iteT ?_⟩)
  refine w_one (w_chain op_le op_le (w_var 1 rfl (w_var 0 rfl ⟨_, _, rfl, rfl, _, rfl, ?_⟩)))
  by_cases c : l ≤ i
  · rw [if_pos (decide_eq_true c)]
    refine w_var 2 rfl ⟨_, _, rfl, rfl, ?_⟩
    rw [decide_eq_true c, Bool.true_and] at k
    exact k
  · rw [if_neg (by rw [decide_eq_false c]; exact Bool.false_ne_true)]
    rw [decide_eq_false c, Bool.false_and] at k
    exact k
def spIsHand : Sp := fun vs H Q _ => ∃ i : Int, vs = [.int i] ∧ Q (.bl (decide (1 ≤ i) && decide (i ≤ 2))) H
theorem scIsHand : FnScope ["value"] ["value"] (defScope sIsHand) := ⟨rfl, rfl, rfl, by decide +kernel, rfl, by decide +kernel, by decide +kernel⟩
theorem ok_is_hand {f g : Addr} {fd gd : FuncData} (F : Fun K "is_hand" "is_hand" sIsHand f fd) (G : Gv P w K mg base "is_integer" 1 g gd ["value", "least", "most"] spIsInteger) : FnOk P w K mg base CX0 2 f fd ["value"] spIsHand := by
  refine F.ok scIsHand (fun vs H Q E h => ?_) (fun cdv A outer s H vs Q E hr h => ?_)
  · obtain ⟨i, rfl, _⟩ := h
    rfl
  obtain ⟨i, rfl, k⟩ := h
  exact b_one (s_ret (w_call G hr (Nat.le_refl _) (a_cons (w_var 0 rfl (a_cons (w_int (a_cons (w_int (a_nil ⟨i, 1, 2, rfl, k⟩)))))))))
def spNeedHand : Sp := fun vs H Q _ => ∃ i : Int, vs = [.int i] ∧ (i = 1 ∨ i = 2) ∧ Q .non H
theorem scNeedHand : FnScope ["hand"] ["hand"] (defScope sNeedHand) := ⟨rfl, rfl, rfl, by decide +kernel, rfl, by decide +kernel, by decide +kernel⟩
theorem ok_need_hand {f g : Addr} {fd gd : FuncData} (F : Fun K "need_hand" "need_hand" sNeedHand f fd) (G : Gv P w K mg base "is_hand" 2 g gd ["value"] spIsHand) : FnOk P w K mg base CX0 3 f fd ["hand"] spNeedHand := by
  refine F.ok scNeedHand (fun vs H Q E h => ?_) (fun cdv A outer s H vs Q E hr h => ?_)
  · obtain ⟨i, rfl, _⟩ := h
    rfl
  obtain ⟨i, rfl, hi, k⟩ := h
  have e : (decide (1 ≤ i) && decide (i ≤ 2)) = true := by
    rcases hi with rfl | rfl <;> decide
  refine b_one (s_if (t_not (t_val (w_call G hr (Nat.le_refl _) (a_cons (w_var 0 rfl (a_nil ⟨i, rfl, _, rfl, ?_⟩)))))))
  rw [e]
  exact iteF (b_nil k)
/-! ### is_within -/
def spWithin : Sp := fun vs H Q _ => ∃ a b : Wd, vs = [VS a, VS b] ∧ a.length ≤ 1000 ∧ ∀ H', Ex H H' → Q (.bl (withinM a b)) H'
abbrev nWithin : List Str := ["one", "other", "letter"]
theorem scWithin : FnScope nWithin ["one", "other"] (defScope sIsWithin) := ⟨rfl, rfl, rfl, by decide +kernel, rfl, by decide +kernel, by decide +kernel⟩
theorem ok_is_within {f : Addr} {fd : FuncData} (F : Fun K "is_within" "is_within" sIsWithin f fd) (B : Bt mg) : FnOk P w K mg base CX0 1 f fd ["one", "other"] spWithin := by
  refine F.ok scWithin (fun vs H Q E h => ?_) (fun cdv A outer s H vs Q E hr h => ?_)
  · obtain ⟨a, b, rfl, _⟩ := h
    rfl
  obtain ⟨a, b, rfl, hl, k⟩ := h
  refine b_one (s_ret (w_all rfl B.all (w_lcS 2 scWithin.nd (blkOk_by (N := nWithin) (sc := defScope sIsWithin) (by decide +kernel)) (w_var 0 rfl ⟨S a, rfl, ?_⟩))))
  rw [signs_S]
  refine lcMap a (fun c => VS [c]) (fun c => .bl (b.contains c)) (small_lt (by omega)) (fun c hc H' ex R kk => ?_) (fun p H' hp ex e => ⟨p, a.map fun c => b.contains c, rfl, SqL.of (by rw [e, List.map_map]; rfl), ?_⟩)
  · intro s0 H0 C cl fp
    exact w_in_sign (w_var 2 rfl (w_var 1 rfl ⟨c, b, rfl, rfl, kk _ (Ex.refl _)⟩))
  · have z : (a.map fun c => b.contains c).all id = withinM a b := by simp [withinM, List.all_map]
    rw [z]
    exact k _ ex
/-! ### is_rising, is_lamps, is_set, need_lamps -/
def spRising : Sp := fun vs H Q _ => ∃ a : Wd, vs = [VS a] ∧ a.length ≤ 1000 ∧ ∀ H', Ex H H' → Q (.bl (risingM a)) H'
abbrev nRising : List Str := ["value", "letter", "one", "other"]
theorem scRising : FnScope nRising ["value"] (defScope sIsRising) := ⟨rfl, rfl, rfl, by decide +kernel, rfl, by decide +kernel, by decide +kernel⟩
theorem zip_pairs : ∀ l : Wd, l.zip (l.drop 1) = pairsOf l
  | [] => rfl
  | [_] => rfl
  | a :: b :: r => by
    show (a, b) :: (b :: r).zip ((b :: r).drop 1) = _
    rw [zip_pairs (b :: r)]
    rfl
theorem ok_is_rising {f : Addr} {fd : FuncData} (F : Fun K "is_rising" "is_rising" sIsRising f fd) (B : Bt mg) : FnOk P w K mg base CX0 1 f fd ["value"] spRising := by
  refine F.ok scRising (fun vs H Q E h => ?_) (fun cdv A outer s H vs Q E hr h => ?_)
  · obtain ⟨a, rfl, _⟩ := h
    rfl
  obtain ⟨a, rfl, hl, k⟩ := h
  obtain ⟨t, ht⟩ := B.letters
  refine b_cons (s_if (t_not (t_val (w_all rfl B.all (w_lcS 1 scRising.nd (blkOk_by (N := nRising) (sc := defScope sIsRising) (by decide +kernel)) (w_var 0 rfl ⟨S a, rfl, ?_⟩))))))
  rw [signs_S]
  refine lcMap a (fun c => VS [c]) (fun c => .bl (abc.contains c)) (small_lt (by omega)) (fun c hc H' ex R kk => ?_) (fun p H' hp ex e => ⟨p, a.map fun c => abc.contains c, rfl, SqL.of (by rw [e, List.map_map]; rfl), _, rfl, ?_⟩)
  · intro s0 H0 C cl fp
    refine w_in_sign (w_var 1 rfl (w_glob (v := VS abc) ht ⟨t, by rw [letters_S]⟩ ⟨c, abc, rfl, rfl, kk _ (Ex.refl _)⟩))
  · have z : (a.map fun c => abc.contains c).all id = a.all fun c => abc.contains c := by simp [List.all_map]
    rw [z]
    cases c : a.all fun c => abc.contains c with
    | false =>
      refine iteT (b_one (s_ret (w_bl ?_)))
      have := k H' ex
      unfold risingM at this
      rw [c, Bool.false_and] at this
      exact this
    | true =>
      refine iteF (b_nil (b_one (s_ret (w_all rfl B.all (w_lcZ 2 3 (by decide) scRising.nd (blkOk_by (N := nRising) (sc := defScope sIsRising) (by decide +kernel)) rfl B.zip
        (a_cons (w_var 0 rfl (a_cons (w_slice1 (w_var 0 rfl ⟨a, rfl, by omega, a_nil ⟨a, a.drop 1, rfl, by omega, fun c d => .bl (decide (c < d)), ?_, ?_⟩⟩))))) rfl rfl)))))
      · intro c d H2 R ex2 kk s0 H0 C cl fp
        exact w_lt_sign (w_var 2 rfl (w_var 3 rfl ⟨c, d, rfl, rfl, kk _ (Ex.refl _)⟩))
      · intro p2 H2 hp2 ex2 e2
        refine ⟨p2, (pairsOf a).map fun q => decide (q.1 < q.2), rfl, SqL.of (by rw [e2, List.map_map, zip_pairs]; rfl), ?_⟩
        have z2 : ((pairsOf a).map fun q => decide (q.1 < q.2)).all id = (pairsOf a).all fun q => decide (q.1 < q.2) := by simp [List.all_map]
        rw [z2]
        have := k H2 (ex.trans ex2)
        unfold risingM at this
        rw [c, Bool.true_and] at this
        exact this
def spIsLamps : Sp := fun vs H Q _ => ∃ a : Wd, vs = [VS a] ∧ a.length ≤ 1000 ∧ ∀ H', Ex H H' → Q (.bl (isLampsM a)) H'
theorem scIsLamps : FnScope ["value"] ["value"] (defScope sIsLamps) := ⟨rfl, rfl, rfl, by decide +kernel, rfl, by decide +kernel, by decide +kernel⟩
theorem ok_is_lamps {f g : Addr} {fd gd : FuncData} (F : Fun K "is_lamps" "is_lamps" sIsLamps f fd) (B : Bt mg) (G : Gv P w K mg base "is_rising" 1 g gd ["value"] spRising) : FnOk P w K mg base CX0 2 f fd ["value"] spIsLamps := by
  refine F.ok scIsLamps (fun vs H Q E h => ?_) (fun cdv A outer s H vs Q E hr h => ?_)
  · obtain ⟨a, rfl, _⟩ := h
    rfl
  obtain ⟨a, rfl, hl, k⟩ := h
  obtain ⟨t, ht⟩ := B.mostLamps
  refine b_one (s_ret (w_and (w_isi (t := "str") B.isi B.str (by decide +kernel) (w_var 0 rfl ⟨"str", true, .base (.str _), by decide +kernel, true, rfl, iteT ?_⟩))))
  refine w_and (w_chain op_le op_le (w_int (w_callB call_len_str B.len PySem.boot_len (a_cons (w_var 0 rfl (a_nil ⟨S a, rfl, by rw [S_len]; exact small_line (by omega), 1, _, rfl, rfl, _, rfl, ?_⟩))))))
  rw [S_len]
  have e1 : decide ((1 : Int) ≤ (a.length : Int)) = decide (1 ≤ a.length) := decide_eq_decide.mpr (by omega)
  rw [e1]
  have kk := k H (Ex.refl H)
  unfold isLampsM at kk k
  by_cases c1 : 1 ≤ a.length
  · rw [decide_eq_true c1] at kk k ⊢
    refine iteT (w_glob (v := .int 4) ht ⟨t, rfl⟩ ⟨_, 4, rfl, rfl, _, rfl, ?_⟩)
    have e2 : decide ((a.length : Int) ≤ 4) = decide (a.length ≤ 4) := decide_eq_decide.mpr (by omega)
    rw [e2]
    by_cases c2 : a.length ≤ 4
    · rw [decide_eq_true c2] at kk k ⊢
      exact iteT (w_one (w_call G hr (Nat.le_refl _) (a_cons (w_var 0 rfl (a_nil ⟨a, rfl, hl, k⟩)))))
    · rw [decide_eq_false c2] at kk k ⊢
      exact iteF kk
  · rw [decide_eq_false c1] at kk k ⊢
    exact iteF ⟨_, rfl, iteF kk⟩
def spIsSet : Sp := fun vs H Q _ => ∃ a L : Wd, vs = [VS a, VS L] ∧ a.length ≤ 1000 ∧ ∀ H', Ex H H' → Q (.bl (isSetM a L)) H'
abbrev nIsSet : List Str := ["value", "lamps", "letter"]
theorem scIsSet : FnScope nIsSet ["value", "lamps"] (defScope sIsSet) := ⟨rfl, rfl, rfl, by decide +kernel, rfl, by decide +kernel, by decide +kernel⟩
theorem ok_is_set {f g : Addr} {fd gd : FuncData} (F : Fun K "is_set" "is_set" sIsSet f fd) (B : Bt mg) (G : Gv P w K mg base "is_rising" 1 g gd ["value"] spRising) : FnOk P w K mg base CX0 2 f fd ["value", "lamps"] spIsSet := by
  refine F.ok scIsSet (fun vs H Q E h => ?_) (fun cdv A outer s H vs Q E hr h => ?_)
  · obtain ⟨a, L, rfl, _⟩ := h
    rfl
  obtain ⟨a, L, rfl, hl, k⟩ := h
  refine b_one (s_ret (w_and (w_isi (t := "str") B.isi B.str (by decide +kernel) (w_var 0 rfl ⟨"str", true, .base (.str _), by decide +kernel, true, rfl, iteT ?_⟩))))
  refine w_and (w_call G hr (Nat.le_refl _) (a_cons (w_var 0 rfl (a_nil ⟨a, rfl, hl, fun H1 ex1 => ⟨_, rfl, ?_⟩⟩))))
  unfold isSetM at k
  cases c : risingM a with
  | false =>
    refine iteF ?_
    have kk := k H1 ex1
    rw [c, Bool.false_and] at kk
    exact kk
  | true =>
    refine iteT (w_one (w_all rfl B.all (w_lcS 2 scIsSet.nd (blkOk_by (N := nIsSet) (sc := defScope sIsSet) (by decide +kernel)) (w_var 0 rfl ⟨S a, rfl, ?_⟩))))
    rw [signs_S]
    refine lcMap a (fun c => VS [c]) (fun c => .bl (L.contains c)) (small_lt (by omega)) (fun c hc H' ex R kk => ?_) (fun p H' hp ex e => ⟨p, a.map fun c => L.contains c, rfl, SqL.of (by rw [e, List.map_map]; rfl), ?_⟩)
    · intro s0 H0 C cl fp
      exact w_in_sign (w_var 2 rfl (w_var 1 rfl ⟨c, L, rfl, rfl, kk _ (Ex.refl _)⟩))
    · have z : (a.map fun c => L.contains c).all id = a.all fun c => L.contains c := by simp [List.all_map]
      rw [z]
      have kk := k H' (ex1.trans ex)
      rw [c, Bool.true_and] at kk
      exact kk
def spNeedLamps : Sp := fun vs H Q _ => ∃ L : Wd, vs = [VS L] ∧ isLampsM L = true ∧ L.length ≤ 1000 ∧ ∀ H', Ex H H' → Q .non H'
theorem scNeedLamps : FnScope ["lamps"] ["lamps"] (defScope sNeedLamps) := ⟨rfl, rfl, rfl, by decide +kernel, rfl, by decide +kernel, by decide +kernel⟩
theorem ok_need_lamps {f g : Addr} {fd gd : FuncData} (F : Fun K "need_lamps" "need_lamps" sNeedLamps f fd) (G : Gv P w K mg base "is_lamps" 2 g gd ["value"] spIsLamps) : FnOk P w K mg base CX0 3 f fd ["lamps"] spNeedLamps := by
  refine F.ok scNeedLamps (fun vs H Q E h => ?_) (fun cdv A outer s H vs Q E hr h => ?_)
  · obtain ⟨L, rfl, _⟩ := h
    rfl
  obtain ⟨L, rfl, hL, hl, k⟩ := h
  refine b_one (s_if (t_not (t_val (w_call G hr (Nat.le_refl _) (a_cons (w_var 0 rfl (a_nil ⟨L, rfl, hl, fun H1 ex1 => ⟨_, rfl, ?_⟩⟩)))))))
  rw [hL]
  exact iteF (b_nil (k _ ex1))
end
end RG

end

section
set_option Elab.async false
set_option linter.all false
set_option maxRecDepth 100000
set_option maxHeartbeats 4000000
namespace RG
open PySem L2 Evl
/-! ## for loops -/
section
variable {X : Cx} {σ : L2.St} {H : Hp} {D : Ends} {tg iter : Expr} {body : List Stmt} {pos : Pos}
theorem s_for {g : TG} (hg : PG X tg g) (q : wI X tg iter σ H fun J H1 => ∃ n G Y, Walk J n G Y ∧ ∃ Pv : Nat → L2.St → Hp → Prop, Pv 0 σ H1 ∧ (∀ i σ' H', i ≤ n → Pv i σ' H' → G H') ∧
      (∀ i x σ' H' H2, i < n → Pv i σ' H' → Y i H' x H2 → g x σ' H2 fun σ3 H3 => wB X body { D with nx := Pv (i + 1), ct := Pv (i + 1), bk := D.nx } σ3 H3) ∧ ∀ σ' H', Pv n σ' H' → D.nx σ' H')
    (hp : PassesOwn (model X.prog X.w) X.A X.env X.xe := by exact PassesOwn.never) (hc : X.calm = true := by rfl) (hs : ∀ x, foldedSetIterable iter X.env x = pure x := by intro _; rfl) : wS X (.For tg iter body [] pos) D σ H := by
  obtain ⟨wi, hi, hq⟩ := q
  have hi' : PI X tg iter (fun σ H R => ∃ R0, wi σ H R0 ∧ ∀ J H1, R0 J H1 → R J H1) := ⟨fun pins s σ H R I ⟨R0, q0, k⟩ => by
    refine thn (hi.run pins s σ H R0 I q0) fun v s1 z => thn z fun u s2 ⟨it, fp, tn, J, H', e, I2, T, st, f, r⟩ => ⟨it, fp, tn, J, H', e, I2, T, st, f, k _ _ r⟩⟩
  refine ⟨_, ps_for hp hc hi' hg pss_w hs, _, hq, ?_⟩
  rintro J H1 ⟨n, G, Y, hw, Pv, h0, hG, hs', hd⟩
  exact for_it hw Pv h0 hG hs' hd
end
/-- .. over a text, the name at slot j -/
theorem s_forS {X : Cx} {σ : L2.St} {H : Hp} {D : Ends} {iter : Expr} {body : List Stmt} {pos px : Pos} {x : Str} (j : Nat) (hN : X.N.Nodup)
    (q : wE X iter σ H fun v H1 => ∃ l : Wd, v = VS l ∧ ∃ Pv : Nat → L2.St → Hp → Prop, Pv 0 σ H1 ∧ (∀ i c σ' H', l[i]? = some c → Pv i σ' H' → wB X body { D with nx := Pv (i + 1), ct := Pv (i + 1), bk := D.nx } (σ'.set j (some (VS [c]))) H') ∧ ∀ σ' H', Pv l.length σ' H' → D.nx σ' H')
    (hi : X.N[j]? = some x := by rfl) (hx : Loc X.env.scope x := by first | exact Or.inl rfl | exact Or.inr rfl)
    (hf : X.fn x = true ∨ X.env.scope.names.lookup x = some .local := by first | exact .inl rfl | exact .inr rfl | assumption)
    (hp : PassesOwn (model X.prog X.w) X.A X.env X.xe := by exact PassesOwn.never) (hc : X.calm = true := by rfl) (hs : ∀ x, foldedSetIterable iter X.env x = pure x := by intro _; rfl) : wS X (.For (.Name x px) iter body [] pos) D σ H := by
  refine s_for (g := gName j) (pg_name hN hi hx hf) (i_str (wE_mono q fun v H1 ⟨l, ev, Pv, h0, hs', hd⟩ => ⟨S l, ev, _, _, _, walk_signs, Pv, h0, fun _ _ _ _ _ => trivial, ?_, ?_⟩)) hp hc hs
  · rintro i v' σ' H' H2 hi' p ⟨rfl, hv⟩
    rw [signs_S] at hv
    obtain ⟨c, hcc, rfl⟩ : ∃ c, l[i]? = some c ∧ v' = VS [c] := by
      rw [List.getElem?_map] at hv
      cases q : l[i]? with
      | none => rw [q] at hv; cases hv
      | some c => rw [q] at hv; exact ⟨c, rfl, (Option.some.inj hv).symm⟩
    exact hs' i c σ' _ hcc p
  · intro σ' H' p
    rw [signs_S, List.length_map] at p
    exact hd σ' H' p
/-- y = [.. for x in a list ..] on one line, y a plain local name -/
theorem s_setLc {X : Cx} {σ : L2.St} {H : Hp} {D : Ends} {elt iter : Expr} {ifs : List Expr} {scope : Scope} {pos spos px py : Pos} {x y : Str} (i j : Nat) (hN : X.N.Nodup) (hy : X.N[i]? = some y) (hyl : X.env.scope.names.lookup y = some .local)
    (hsw : swapsWith (.ListComp elt [⟨.Name x px, iter, ifs, 0⟩] scope pos) (some (.Name y py)) spos.line X.env = pure true) (ok : BlkOk X.N X.env.scope scope [(x, j)])
    (q : wE X iter σ H fun v H1 => ∃ a xs, v = .ref a ∧ SqL X.K H1 a xs ∧ LcF X scope ifs elt j σ H1 (fun v H2 => D.nx (σ.set i (some v)) H2) xs)
    (hx : scope.names.lookup x = some .local ∨ scope.names.lookup x = some .cell := by first | exact Or.inl rfl | exact Or.inr rfl) (hc : X.calm = true := by rfl) (h1 : ifs.length ≤ 1 := by decide) (hs : ∀ x, foldedSetIterable iter X.env x = pure x := by intro _; rfl) :
    wS X (.Assign [.Name y py] (.ListComp elt [⟨.Name x px, iter, ifs, 0⟩] scope pos) spos) D σ H := by
  have core : ∀ tt : TT, (∀ (s : Shared) (H : Hp) (C : Addr) (cl : List (Str × Addr)) (fp : List Addr), PTs (X.blk s H scope (compEnvC scope cl C X.env) fp) ifs tt) →
      (∀ (σ2 : L2.St) (H2 : Hp) (R R' : Option V → Hp → Prop), bBody X scope ifs elt σ2 H2 R → (∀ r H3, R r H3 → R' r H3) → tt σ2 H2 fun k H3 => if k = true then bE X scope elt σ2 H3 fun y H4 => R' (some y) H4 else R' none H3) →
      wS X (.Assign [.Name y py] (.ListComp elt [⟨.Name x px, iter, ifs, 0⟩] scope pos) spos) D σ H := by
    intro tt ht hb
    refine ⟨_, ps_setLc hc hN hy hyl hsw (pi_list pe_w) ok (pg_own hN ok hx) ht (fun s H C cl fp => pe_b s H C cl fp) hs, wE_mono q ?_⟩
    rintro v H1 ⟨a, xs, ev, hq, h⟩
    exact ⟨a, ev, ⟨xs, hq⟩, lc_read walk_list gm_name (lcF_ask (fun H' ex => ex_l ex hq) h) hb⟩
  match ifs, h1 with
  | [], _ =>
    refine core tYes (fun _ _ _ _ _ => pts_nil) fun σ2 H2 R R' hb k => ?_
    change (if true = true then bE X scope elt σ2 H2 (fun y H4 => R' (some y) H4) else R' none H2)
    rw [if_pos rfl]
    exact bE_mono hb fun v H' z => k _ _ z
  | [c], _ =>
    refine core (bT X scope c) (fun s H C cl fp => pts_one (pt_b s H C cl fp)) fun σ2 H2 R R' hb k => ?_
    refine bT_mono hb fun b H3 z => ?_
    cases b with
    | true =>
      rw [if_pos rfl] at z ⊢
      exact bE_mono z fun v H' z => k _ _ z
    | false =>
      rw [if_neg Bool.false_ne_true] at z ⊢
      exact k _ _ z
/-! ## sets_of -/
abbrev sKey : Stmt := top 19
abbrev sSetsOf : Stmt := top 20
theorem rawFrom_snoc (c : Nat) : ∀ (l : Wd) (acc : List Wd), rawFrom acc (l ++ [c]) = rawFrom acc l ++ (rawFrom acc l).map fun q => q ++ [c]
  | [], acc => rfl
  | a :: r, acc => by
    show rawFrom _ (r ++ [c]) = _
    rw [rawFrom_snoc c r]
    rfl
theorem mem_len {p l : Wd} (h : p ∈ rawSets l) : p.length ≤ l.length := by
  have h2 : p ∈ setsOf l := (isort_perm _).mem_iff.mpr h
  exact (mem_setsOf.mp h2).length_le
section
variable {P : Program} {w : World} {K : PySem.W.Frag} {mg : Str → Option Value} {base : Heap}
theorem scKey : FnScope ["lit"] ["lit"] (defScope sKey) := ⟨rfl, rfl, rfl, by decide +kernel, rfl, by decide +kernel, by decide +kernel⟩
def spSetsOf : Sp := fun vs H Q _ => ∃ L : Wd, vs = [VS L] ∧ L.length ≤ 4 ∧ ∀ p H', H p = none → Ex H H' → H' p = some (.lst ((setsOf L).map VS)) → Q (.ref p) H'
abbrev nSetsOf : List Str := ["lamps", "found", "lamp", "lit"]
theorem scSetsOf : FnScope nSetsOf ["lamps"] (defScope sSetsOf) := ⟨rfl, rfl, rfl, by decide +kernel, rfl, by decide +kernel, by decide +kernel⟩
theorem ok_sets_of {f g : Addr} {fd gd : FuncData} (F : Fun K "sets_of" "sets_of" sSetsOf f fd) (B : Bt mg) (G : Fun K "size_and_letters" "size_and_letters" sKey g gd) (bG : Binds K gd ["lit"] []) (gG : mg "size_and_letters" = some (.ref g)) :
    FnOk P w K mg base CX0 3 f fd ["lamps"] spSetsOf := by
  refine F.ok scSetsOf (fun vs H Q E h => ?_) (fun cdv A outer s H vs Q E hr h => ?_)
  · obtain ⟨L, rfl, _⟩ := h
    rfl
  obtain ⟨L, rfl, hl, k⟩ := h
  refine b_cons (s_set 1 scSetsOf.nd (w_lst (a_cons (w_str (a_nil ⟨by show 1 ≤ sizeLine; decide, fun p0 hp0 => ?_⟩)))))
  have ex0 : Ex H (upd H p0 (.lst [.str ""])) := Ex.new hp0
  refine b_cons (s_forS 2 scSetsOf.nd (w_var 0 rfl ⟨L, rfl, fun i σ' H' => ∃ p v, σ' = [some (VS L), some (.ref p), v, none] ∧ Ex H H' ∧ H p = none ∧ H' p = some (.lst ((rawSets (L.take i)).map VS)), ⟨p0, none, rfl, ex0, hp0, ?_⟩, ?_, ?_⟩))
  · rw [upd_same]
    rfl
  · rintro i c σ' H1 hi ⟨p, v, rfl, ex, hp, hL⟩
    have hi4 : i < L.length := (List.getElem?_eq_some_iff.mp hi).1
    have hsz : (rawSets (L.take i)).length ≤ 16 := by
      unfold rawSets
      rw [len_rawFrom, List.length_take]
      have : 2 ^ (min i L.length) ≤ 2 ^ 4 := Nat.pow_le_pow_right (by decide) (by omega)
      simpa using this
    have hlen : ∀ q ∈ rawSets (L.take i), q.length ≤ 4 := fun q hq => by
      have := mem_len hq
      rw [List.length_take] at this
      omega
    refine b_one (s_set 1 scSetsOf.nd (w_op op_cat (w_var 1 rfl (w_lcL 3 scSetsOf.nd (blkOk_by (N := nSetsOf) (sc := defScope sSetsOf) (by decide +kernel)) (w_var 1 rfl ⟨p, _, rfl, SqL.of hL, ?_⟩)))))
    refine lcMap (rawSets (L.take i)) VS (fun q => VS (q ++ [c])) (small_lt (by omega)) (fun q hq H2 ex2 R kk => ?_) (fun p2 H2 hp2 ex2 e2 => ?_)
    · intro s0 H0 C cl fp
      refine w_add_str (w_var 3 rfl (w_var 2 rfl ⟨q, [c], rfl, rfl, ?_, kk _ (Ex.refl _)⟩))
      have := hlen q hq
      simp only [List.length_cons, List.length_nil]
      omega
    · refine ⟨p, p2, _, _, rfl, rfl, ex2 _ _ hL, e2, ?_, fun p3 hp3 => ⟨p3, _, rfl, ex.trans (ex2.trans (Ex.new hp3)), fresh_back (ex.trans ex2) hp3, ?_⟩⟩
      · rw [List.length_map, List.length_map]
        exact small_line (by omega)
      · rw [upd_same, List.take_add_one, hi]
        unfold rawSets
        rw [show (some c).toList = [c] from rfl, rawFrom_snoc, List.map_append, List.map_map]
        rfl
  · rintro σ' H1 ⟨p, v, rfl, ex, hp, hL⟩
    rw [List.take_length] at hL
    have hz : ("lit" : Str) = "lit" := rfl
    refine b_one (s_ret (w_sortedKey (k := 0) hr B.sorted gG (fun A s hA kb M => key_def (st := sKey) (x := "lit") G scKey rfl bG rfl rfl (by decide) M B.len hA kb) (w_var 1 rfl ⟨p, rawSets L, rfl, SqL.of hL, ?_, fun x hx => ?_, fun q hq => ?_⟩)))
    · unfold rawSets
      rw [len_rawFrom]
      have : 2 ^ L.length ≤ 2 ^ 4 := Nat.pow_le_pow_right (by decide) hl
      simp only [List.length_singleton, Nat.one_mul]
      omega
    · have := mem_len hx
      omega
    · exact k q _ (fresh_back ex hq) (ex.trans (Ex.new hq)) upd_same
end
end RG

end

section
set_option Elab.async false
set_option linter.all false
set_option maxRecDepth 100000
set_option maxHeartbeats 4000000
/-! ## x, *y = a tuple; (a, *b) as a display -/
namespace RG
open PySem PySem.Spec PySem.Calls PyProof.Rows L2 Evl
open PySem.W (kun_collect)
section
variable {prog : Program} {w : World} {A : Around} {E : Value → Shared → Prop} {s : Shared}
/-- the first item, and a new list of the others -/
theorem star_unpack {l : Addr} {x : Value} {xs : List Value} {Q : List Value → Shared → Prop} (hl : IsTup s.heap l (x :: xs).toArray) (hh : A.handled = none) (hz : xs.length ≤ 1000)
    (h : ∀ (h' : Heap) (tk : Nat), (∀ b o, s.heap.get? b = some o → h'.get? b = some o) → Q [x, .ref h'.objs.size] { s with heap := h'.push { cls := .type "list", data := .seq xs.toArray }, toks := tk }) :
    wpAny (model prog w) A (unpackItems (.ref l) 2 (some 1)) Q E s := by
  have hlt : l ≠ s.heap.objs.size := by obtain ⟨o, ho, _⟩ := hl; exact Nat.ne_of_lt (Heap.lt_size ho)
  have hsize : (x :: xs).toArray.size = xs.length + 1 := by simp
  have ef : List.take 1 (List.drop 0 (x :: xs).toArray.toList) = [x] := by simp
  unfold unpackItems
  refine wpAny_bind ?_
  unfold notIterableAtAll
  refine wpAny_bind (wpAny_specialOf hl.typeIs PySem.F.slot_tuple_iter.lookup ?_)
  refine wpAny_pure ?_
  simp only [Bool.false_eq_true, if_false]
  refine wpAny_bind (wpAny_holding (iter_tuple hl ?_))
  refine wpAny_bind (wpAny_holding (draw_tuple hlt 1 0 _ _ ⟨_, Heap.get?_push_size _ rfl, rfl, rfl⟩ (hl.push _) (by rw [hsize]; omega) fun h₁ hit₁ hs₁ => ?_))
  have hl₁ : IsTup h₁ l (x :: xs).toArray := (hl.push _).extBut hs₁.extBut hlt
  rw [Nat.zero_add] at hit₁
  have hit₁' := hit₁
  obtain ⟨oi, hoi, _⟩ := hit₁'
  have hl₁' := hl₁
  obtain ⟨ol, hol, _⟩ := hl₁'
  rw [ef]
  rw [if_neg (show ¬ [x].length < 1 from Nat.lt_irrefl 1)]
  refine wpAny_bind (wpAny_holding (kun_collect (s := { s with heap := h₁ }) (T := "tuple_iterator") (.inr (.inr (.inr rfl))) (Walks.tuple (A := A.in1) hh s.heap.objs.size l hlt (x :: xs).toArray) (fun j u st => st.1.typeIs) (k := 1) (by rw [hsize]; omega) ⟨hit₁, hl₁⟩ (Heap.lt_size hoi) (Heap.lt_size hol) (fun h₂ tk hk => ?_) (by rw [hsize, sizeLine_eq]; omega)))
  have hd : (x :: xs).toArray.toList.drop 1 = xs := by simp
  rw [hd]
  show wpAny _ _ (if xs.length < 0 then _ else _) _ _ _
  rw [if_neg (Nat.not_lt_zero _)]
  show wpAny _ _ (newList (xs.take xs.length) >>= fun d => pure ([x] ++ [d] ++ xs.drop xs.length)) _ _ _
  rw [List.take_length, List.drop_length]
  have he : ∀ b o, s.heap.get? b = some o → h₂.get? b = some o := fun b o e => hk b o (Nat.ne_of_lt (Heap.lt_size e)) (hs₁.extBut b o (Nat.ne_of_lt (Heap.lt_size e)) (Heap.get?_push_of_some _ e))
  refine wpAny_bind ?_
  refine PySem.wpAny_newList ?_ (by show xs.length ≤ sizeLine; rw [sizeLine_eq]; omega)
  exact wpAny_pure (h h₂ tk he)
end
section
variable {X : Cx}
/-- x, *y = a tuple that has an item at least -/
def gStar (K : PySem.W.Frag) (i j : Nat) : TG := fun v σ H Q => ∃ a x xs, v = .ref a ∧ SqT K H a (x :: xs) ∧ xs.length ≤ 1000 ∧ ∀ p, H p = none → Q ((σ.set i (some x)).set j (some (.ref p))) (upd H p (.lst xs))
theorem pg_star {i j : Nat} {x y : Str} {px py ps pos : Pos} {kk : Nat} (hc : X.calm = true) (h : PGs X [.Name x px, .Name y py] (gCons (gName i) (gCons (gName j) gNil))) : PG X (.Tuple [.Name x px, .Starred (.Name y py) ps] kk pos) (gStar X.K i j) := by
  refine ⟨fun pins s σ H v u Q I r hw => ?_⟩
  obtain ⟨a, x0, xs, e1, hq, hl, hw⟩ := hw
  subst e1
  obtain rfl : u = Value.ref a := r
  obtain ⟨its, rv, ht, hz⟩ := I.tuple hq
  cases rv with
  | @cons _ u0 _ us r0 rs =>
  rw [assign_Tuple]
  refine wpAny_bind (wpAny_standAt ?_)
  unfold unpack
  refine wpAny_bind (wpAny_holding (star_unpack ht (I.ok.hd hc) (by rw [← rs.length]; exact hl) fun h' tk hk => ?_))
  have I1 : Inv X pins σ H { s with heap := h', toks := tk } := I.kept hk
  have hf : H h'.objs.size = none := I1.hok.fresh (Nat.le_refl _)
  have I2 : Inv X pins σ (upd H h'.objs.size (.lst xs)) { s with heap := h'.push { cls := .type "list", data := .seq us.toArray }, toks := tk } :=
    I1.laid (t' := tk) (fun b o e => Heap.get?_push_of_some _ e) (Nat.le_refl _) ⟨small1000 hl |> Nat.le_of_lt, us, 0, rs, Heap.get?_push_size _ rfl⟩
  exact h.run pins _ σ _ [x0, .ref h'.objs.size] [u0, .ref h'.objs.size] Q I2 (.cons r0 (.cons rfl .nil)) ⟨_, _, rfl, _, _, rfl, rfl, hw _ hf⟩
end
/-! ### x, *y = e -/
theorem s_star {X : Cx} {σ : L2.St} {H : Hp} {D : Ends} {e : Expr} {x y : Str} {px py pst pos' pos : Pos} {kk : Nat} (i j : Nat) (hN : X.N.Nodup)
    (q : wE X e σ H fun v H1 => ∃ a x xs, v = .ref a ∧ SqT X.K H1 a (x :: xs) ∧ xs.length ≤ 1000 ∧ ∀ p, H1 p = none → D.nx ((σ.set i (some x)).set j (some (.ref p))) (upd H1 p (.lst xs)))
    (hi : X.N[i]? = some x := by rfl) (hj : X.N[j]? = some y := by rfl) (hx : Loc X.env.scope x := by first | exact Or.inl rfl | exact Or.inr rfl) (hy : Loc X.env.scope y := by first | exact Or.inl rfl | exact Or.inr rfl)
    (hfx : X.fn x = true ∨ X.env.scope.names.lookup x = some .local := by first | exact .inl rfl | exact .inr rfl | assumption) (hfy : X.fn y = true ∨ X.env.scope.names.lookup y = some .local := by first | exact .inl rfl | exact .inr rfl | assumption)
    (hc : X.calm = true := by rfl) (hs : swapsWithSole [.Tuple [.Name x px, .Starred (.Name y py) pst] kk pos'] e pos.line X.env = pure false := by rfl) (hw : swappedStores [.Tuple [.Name x px, .Starred (.Name y py) pst] kk pos'] e X.env = pure none := by rfl)
    (h1 : (assignEach [.Tuple [.Name x px, .Starred (.Name y py) pst] kk pos'] X.env).map (·.2) = [assign (.Tuple [.Name x px, .Starred (.Name y py) pst] kk pos') X.env] := by rfl) : wS X (.Assign [.Tuple [.Name x px, .Starred (.Name y py) pst] kk pos'] e pos) D σ H :=
  ⟨_, ps_asg pe_w (pg_star hc (pgs_cons (pg_name hN hi hx hfx) (pgs_cons (pg_name hN hj hy hfy) pgs_nil))) hs hw h1, q⟩
end RG

end

section
set_option Elab.async false
set_option linter.all false
set_option maxRecDepth 100000
set_option maxHeartbeats 4000000
namespace RG
open PySem L2 Evl
/-! ## sentences as they stand in the heap: what they hold for, how many parts they have -/
def SenLeaf (L : Wd) (H : Hp) (a : Addr) (f : Wd → Bool) : Prop :=
  (∃ c, c ∈ L ∧ H a = some (.tup [.str "lit", VS [c]]) ∧ ∀ l, f l = l.contains c) ∨
  (∃ (i : Int) (s : Wd), 1 ≤ i ∧ i ≤ 4 ∧ s ∈ setsOf L ∧ H a = some (.tup [.str "least", .int i, VS s]) ∧ ∀ l, f l = decide (i ≤ ((s.filter fun c => l.contains c).length : Int))) ∨
  (∃ ss : List Wd, ss.length ≤ 16 ∧ (∀ s ∈ ss, s ∈ setsOf L) ∧ H a = some (.tup (.str "sets" :: ss.map VS)) ∧ ∀ l, f l = ss.contains l)
abbrev andOr (b : Bool) : Str := if b then "and" else "or"
def SenAt (L : Wd) (H : Hp) : Nat → V → (Wd → Bool) → Nat → Prop
  | 0, v, f, k => ∃ a, v = .ref a ∧ SenLeaf L H a f ∧ k = 1
  | n + 1, v, f, k => ∃ a, v = .ref a ∧ ((SenLeaf L H a f ∧ k = 1) ∨ (∃ w g j, H a = some (.tup [.str "not", w]) ∧ SenAt L H n w g j ∧ (∀ l, f l = !g l) ∧ k = j + 1) ∨
      (∃ (b : Bool) (ps : List (V × (Wd → Bool) × Nat)), H a = some (.tup (.str (andOr b) :: ps.map (·.1))) ∧ 2 ≤ ps.length ∧ ps.length ≤ 4 ∧ (∀ p ∈ ps, SenAt L H n p.1 p.2.1 p.2.2) ∧
        (∀ l, f l = if b then ps.all (fun p => p.2.1 l) else ps.any (fun p => p.2.1 l)) ∧ k = (ps.map (·.2.2)).sum + 1))
theorem SenLeaf.mono {L : Wd} {H H' : Hp} {a : Addr} {f : Wd → Bool} (e : Ex H H') (h : SenLeaf L H a f) : SenLeaf L H' a f := by
  rcases h with ⟨c, h1, h2, h3⟩ | ⟨i, s, h1, h2, h3, h4, h5⟩ | ⟨ss, h1, h2, h3, h4⟩
  · exact .inl ⟨c, h1, e _ _ h2, h3⟩
  · exact .inr (.inl ⟨i, s, h1, h2, h3, e _ _ h4, h5⟩)
  · exact .inr (.inr ⟨ss, h1, h2, e _ _ h3, h4⟩)
theorem SenAt.mono {L : Wd} {H H' : Hp} (e : Ex H H') : ∀ {n : Nat} {v : V} {f : Wd → Bool} {k : Nat}, SenAt L H n v f k → SenAt L H' n v f k
  | 0, v, f, k, ⟨a, ev, h, hk⟩ => ⟨a, ev, h.mono e, hk⟩
  | n + 1, v, f, k, ⟨a, ev, h⟩ => by
    refine ⟨a, ev, ?_⟩
    rcases h with ⟨h, hk⟩ | ⟨w, g, j, h1, h2, h3, h4⟩ | ⟨b, ps, h1, h2, h3, h4, h5, h6⟩
    · exact .inl ⟨h.mono e, hk⟩
    · exact .inr (.inl ⟨w, g, j, e _ _ h1, h2.mono e, h3, h4⟩)
    · exact .inr (.inr ⟨b, ps, e _ _ h1, h2, h3, fun p hp => (h4 p hp).mono e, h5, h6⟩)
/-- a sentence is a tuple that begins with a word -/
theorem SenLeaf.head {L : Wd} {H : Hp} {a : Addr} {f : Wd → Bool} (h : SenLeaf L H a f) : ∃ wd rest, H a = some (.tup (.str wd :: rest)) ∧ rest.length ≤ 16 := by
  rcases h with ⟨c, h1, h2, h3⟩ | ⟨i, s, h1, h2, h3, h4, h5⟩ | ⟨ss, h1, h2, h3, h4⟩
  · exact ⟨_, _, h2, by show 1 ≤ 16; decide⟩
  · exact ⟨_, _, h4, by show 2 ≤ 16; decide⟩
  · exact ⟨_, _, h3, by rw [List.length_map]; exact h1⟩
theorem SenAt.head {L : Wd} {H : Hp} : ∀ {n : Nat} {v : V} {f : Wd → Bool} {k : Nat}, SenAt L H n v f k → ∃ a wd rest, v = .ref a ∧ H a = some (.tup (.str wd :: rest)) ∧ rest.length ≤ 16
  | 0, v, f, k, ⟨a, ev, h, hk⟩ => by
    obtain ⟨wd, rest, h1, h2⟩ := h.head
    exact ⟨a, wd, rest, ev, h1, h2⟩
  | n + 1, v, f, k, ⟨a, ev, h⟩ => by
    rcases h with ⟨h, hk⟩ | ⟨w, g, j, h1, h2, h3, h4⟩ | ⟨b, ps, h1, h2, h3, h4, h5, h6⟩
    · obtain ⟨wd, rest, h1, h2⟩ := h.head
      exact ⟨a, wd, rest, ev, h1, h2⟩
    · exact ⟨a, _, _, ev, h1, by show 1 ≤ 16; decide⟩
    · exact ⟨a, _, _, ev, h1, by rw [List.length_map]; omega⟩
theorem SenAt.up {L : Wd} {H : Hp} : ∀ {n : Nat} {v : V} {f : Wd → Bool} {k : Nat}, SenAt L H n v f k → SenAt L H (n + 1) v f k
  | 0, v, f, k, ⟨a, ev, h, hk⟩ => ⟨a, ev, .inl ⟨h, hk⟩⟩
  | n + 1, v, f, k, ⟨a, ev, h⟩ => by
    refine ⟨a, ev, ?_⟩
    rcases h with ⟨h, hk⟩ | ⟨w, g, j, h1, h2, h3, h4⟩ | ⟨b, ps, h1, h2, h3, h4, h5, h6⟩
    · exact .inl ⟨h, hk⟩
    · exact .inr (.inl ⟨w, g, j, h1, h2.up, h3, h4⟩)
    · exact .inr (.inr ⟨b, ps, h1, h2, h3, fun p hp => (h4 p hp).up, h5, h6⟩)
/-! ## tests that are decided -/
theorem ite_no {c : Bool} {A B : Prop} (h : c = false) (b : B) : if c = true then A else B := by
  rw [if_neg (by rw [h]; exact Bool.false_ne_true)]
  exact b
theorem ite_yes {c : Bool} {A B : Prop} (h : c = true) (a : A) : if c = true then A else B := by
  rw [if_pos h]
  exact a
section
variable {X : Cx} {σ : L2.St} {H : Hp} {R : Bool → Hp → Prop} {a b : Expr} {pos p : Pos} {j : Nat}
/-- x == 'word', x a text -/
theorem t_eqw {y : Str} (q : wE X a σ H fun v H1 => ∃ x, v = .str x ∧ R (decide (V.str x = V.str y)) H1) : wT X (.Compare a [.Eq] [.Constant (.str y) j p] pos) σ H R :=
  t_cmp op_eq (wE_mono q fun v H1 ⟨x, ev, h⟩ => w_str ⟨by rw [ev]; rfl, _, rfl, by rw [ev]; exact h⟩) (nomark _)
end
theorem at0 {α : Type} {x : α} {r : List α} : atI (x :: r) 0 = some x := atI_nat (j := 0) rfl
theorem at1 {α : Type} {x y : α} {r : List α} : atI (x :: y :: r) 1 = some y := atI_nat (j := 1) rfl
theorem at2 {α : Type} {x y z : α} {r : List α} : atI (x :: y :: z :: r) 2 = some z := atI_nat (j := 2) rfl
/-- a text among texts -/
theorem inV_words (z : Wd) : ∀ ss : List Wd, inV (VS z) (ss.map VS) = ss.contains z
  | [] => rfl
  | s :: r => by
    have ih := inV_words z r
    unfold inV at ih ⊢
    rw [List.map_cons, List.any_cons, ih]
    have e : eqV (VS s) (VS z) = (z == s) := by
      show (S s == S z) = _
      by_cases c : z = s
      · subst c; simp
      · have c' : ¬ S s = S z := fun q => c (S_inj q).symm
        exact (beq_eq_false_iff_ne.mpr c').trans (beq_eq_false_iff_ne.mpr c).symm
    rw [e]
    rfl
theorem flat_words : ∀ ss : List Wd, (ss.map VS).all flatV = true
  | [] => rfl
  | s :: r => flat_words r
section
variable {P : Program} {w : World} {K : PySem.W.Frag} {mg : Str → Option Value} {base : Heap}
abbrev sHoldsFor : Stmt := top 31
def spHolds (n : Nat) : Sp := fun vs H Q _ => ∃ (L : Wd) (v : V) (g : Wd → Bool) (k : Nat) (z : Wd), vs = [v, VS z] ∧ SenAt L H n v g k ∧ L.length ≤ 4 ∧ z.length ≤ 1000 ∧ ∀ H', Ex H H' → Q (.bl (g z)) H'
abbrev nHolds : List Str := ["sentence", "lit", "word", "rest", "lamp", "told", "part"]
theorem scHolds : FnScope nHolds ["sentence", "lit"] (defScope sHoldsFor) := ⟨rfl, rfl, rfl, by decide +kernel, rfl, by decide +kernel, by decide +kernel⟩
theorem holds_step {f : Addr} {fd : FuncData} (F : Fun K "holds_for" "holds_for" sHoldsFor f fd) (B : Bt mg) (n : Nat) (G : ∀ m, n = m + 1 → Gv P w K mg base "holds_for" (m + 1) f fd ["sentence", "lit"] (spHolds m)) :
    FnOk P w K mg base CX0 (n + 1) f fd ["sentence", "lit"] (spHolds n) := by
  refine F.ok scHolds (fun vs H Q E h => ?_) (fun cdv A outer s H vs Q E hr h => ?_)
  · obtain ⟨L, v, g, k, z, rfl, _⟩ := h
    rfl
  obtain ⟨L, v, g, k, z, rfl, hS, hL, hz, hq⟩ := h
  obtain ⟨a, wd, rest, rfl, ha, hlen⟩ := hS.head
  refine b_cons (s_star 2 3 scHolds.nd (w_var 0 rfl ⟨a, .str wd, rest, rfl, SqT.of ha, by omega, fun p hp => ?_⟩))
  have ex0 : Ex H (upd H p (.lst rest)) := Ex.new hp
  have hrest : (upd H p (.lst rest)) p = some (.lst rest) := upd_same
  -- what a leaf does
  have leaf : SenLeaf L H a g → wB (cxOf CX0 P w K mg base nHolds "holds_for" (defScope sHoldsFor) f cdv A outer s H E).nox ((defBody sHoldsFor).drop 1) { nx := fun x H' => Q V.non H', rt := Q }
      [some (.ref a), some (VS z), some (.str wd), some (.ref p), none, none, none] (upd H p (.lst rest)) := by
    intro hleaf
    rcases hleaf with ⟨c, h1, h2, h3⟩ | ⟨i, st, h1, h2, h3, h4, h5⟩ | ⟨ss, h1, h2, h3, h4⟩
    · rw [ha] at h2
      obtain ⟨rfl, rfl⟩ : wd = "lit" ∧ rest = [VS [c]] := by
        have e := HO.tup.inj (Option.some.inj h2)
        exact ⟨V.str.inj (List.cons.inj e).1, (List.cons.inj e).2⟩
      refine b_cons (s_if (t_eqw (w_var 2 rfl ⟨_, rfl, ite_yes (by decide +kernel) ?_⟩)))
      refine b_one (s_ret (w_in_sign (w_ix ix_list (w_var 3 rfl (w_int ⟨p, _, 0, _, rfl, rfl, SqL.of hrest, at0, ?_⟩)))))
      refine w_var 1 rfl ⟨c, z, rfl, rfl, ?_⟩
      rw [← h3]
      exact hq _ ex0
    · rw [ha] at h4
      obtain ⟨rfl, rfl⟩ : wd = "least" ∧ rest = [V.int i, VS st] := by
        have e := HO.tup.inj (Option.some.inj h4)
        exact ⟨V.str.inj (List.cons.inj e).1, (List.cons.inj e).2⟩
      refine b_cons (s_if (t_eqw (w_var 2 rfl ⟨_, rfl, ite_no (by decide +kernel) (b_nil ?_)⟩)))
      refine b_cons (s_if (t_eqw (w_var 2 rfl ⟨_, rfl, ite_yes (by decide +kernel) ?_⟩)))
      have hst : st.length ≤ 4 := Nat.le_trans (mem_setsOf.mp h3).length_le hL
      refine b_one (s_ret (w_cmp op_ge (w_callB call_len_seq B.len PySem.boot_len (a_cons (w_lcS 4 scHolds.nd (blkOk_by (N := nHolds) (sc := defScope sHoldsFor) (by decide +kernel)) (w_ix ix_list (w_var 3 rfl (w_int ⟨p, _, 1, _, rfl, rfl, SqL.of hrest, at1, S st, rfl, ?_⟩)))))) (nomark _)))
      rw [signs_S]
      refine lcFil st (fun c => VS [c]) (fun c => z.contains c) (small_lt (by omega)) (fun c hc H' ex R kk => ?_) (fun c H' R q s0 H0 C cl fp => w_var 4 rfl q) (fun p2 H' hp2 ex e => ?_)
      · intro s0 H0 C cl fp
        exact t_in_sign (w_var 4 rfl (w_var 1 rfl ⟨c, z, rfl, rfl, kk _ (Ex.refl _)⟩))
      · refine a_nil ⟨p2, _, rfl, .inl (SqL.of e), ?_⟩
        refine w_ix ix_list (w_var 3 rfl (w_int ⟨p, _, 0, _, rfl, rfl, SqL.of (ex _ _ hrest), at0, _, _, rfl, rfl, ?_⟩))
        rw [List.length_map]
        have := hq H' (ex0.trans ex)
        rw [h5] at this
        exact this
    · rw [ha] at h3
      obtain ⟨rfl, rfl⟩ : wd = "sets" ∧ rest = ss.map VS := by
        have e := HO.tup.inj (Option.some.inj h3)
        exact ⟨V.str.inj (List.cons.inj e).1, (List.cons.inj e).2⟩
      refine b_cons (s_if (t_eqw (w_var 2 rfl ⟨_, rfl, ite_no (by decide +kernel) (b_nil ?_)⟩)))
      refine b_cons (s_if (t_eqw (w_var 2 rfl ⟨_, rfl, ite_no (by decide +kernel) (b_nil ?_)⟩)))
      refine b_cons (s_if (t_eqw (w_var 2 rfl ⟨_, rfl, ite_yes (by decide +kernel) ?_⟩)))
      refine b_one (s_ret (w_cmp op_in_seq (w_var 1 rfl (w_var 3 rfl ⟨p, _, rfl, .inl (SqL.of hrest), rfl, flat_words ss, ?_⟩))))
      show Q (.bl (inV (VS z) (ss.map VS))) _
      rw [inV_words, ← h4]
      exact hq _ ex0
  -- told = [holds_for(part, lit) for part in rest]
  have told : ∀ (m : Nat) (G1 : Gv P w K mg base "holds_for" (m + 1) f fd ["sentence", "lit"] (spHolds m)) (ps : List (V × (Wd → Bool) × Nat)), n = m + 1 → (upd H p (.lst rest)) p = some (.lst (ps.map (·.1))) → Ex H (upd H p (.lst rest)) → ps.length ≤ 4 → (∀ q ∈ ps, SenAt L H m q.1 q.2.1 q.2.2) → ∀ D : Ends,
      (∀ p2 H', Ex H H' → H' p2 = some (.lst (ps.map fun q => V.bl (q.2.1 z))) → D.nx [some (.ref a), some (VS z), some (.str wd), some (.ref p), none, some (.ref p2), none] H') →
      wS (cxOf CX0 P w K mg base nHolds "holds_for" (defScope sHoldsFor) f cdv A outer s H E).nox ((defBody sHoldsFor).getD 4 (.Pass ⟨0, 0, 0, 0⟩)) D [some (.ref a), some (VS z), some (.str wd), some (.ref p), none, none, none] (upd H p (.lst rest)) := by
    intro m G1 ps hn hps ex0 h4 hsen D kk
    subst hn
    refine s_setLc 5 6 scHolds.nd rfl rfl (sw_true rfl rfl rfl (by decide +kernel)) (blkOk_by (N := nHolds) (sc := defScope sHoldsFor) (by decide +kernel)) (w_var 3 rfl ⟨p, _, rfl, SqL.of hps, ?_⟩)
    refine lcMap ps (·.1) (fun q => V.bl (q.2.1 z)) (small_lt (by omega)) (fun q hm H' ex R kk => ?_) (fun p2 H' hp2 ex e2 => kk p2 H' (ex0.trans ex) e2)
    intro s0 H0 C cl fp
    exact w_call G1 hr (Nat.le_refl _) (a_cons (w_var 6 rfl (a_cons (w_var 1 rfl (a_nil ⟨L, q.1, q.2.1, q.2.2, z, rfl, (hsen q hm).mono (ex0.trans ex), hL, hz, kk⟩)))))
  cases n with
  | zero =>
    obtain ⟨a', ev, hleaf, hk⟩ := hS
    cases ev
    exact leaf hleaf
  | succ m =>
    obtain ⟨a', ev, hS⟩ := hS
    cases ev
    rcases hS with ⟨hleaf, hk⟩ | ⟨w1, g1, j, h1, h2, h3, h4⟩ | ⟨b, ps, h1, h2, h3, h4, h5, h6⟩
    · exact leaf hleaf
    · rw [ha] at h1
      obtain ⟨rfl, rfl⟩ : wd = "not" ∧ rest = [w1] := by
        have e := HO.tup.inj (Option.some.inj h1)
        exact ⟨V.str.inj (List.cons.inj e).1, (List.cons.inj e).2⟩
      refine b_cons (s_if (t_eqw (w_var 2 rfl ⟨_, rfl, ite_no (by decide +kernel) (b_nil ?_)⟩)))
      refine b_cons (s_if (t_eqw (w_var 2 rfl ⟨_, rfl, ite_no (by decide +kernel) (b_nil ?_)⟩)))
      refine b_cons (s_if (t_eqw (w_var 2 rfl ⟨_, rfl, ite_no (by decide +kernel) (b_nil ?_)⟩)))
      obtain ⟨G1⟩ : Nonempty (Gv P w K mg base "holds_for" (m + 1) f fd ["sentence", "lit"] (spHolds m)) := ⟨G m rfl⟩
      refine b_cons (told m G1 [(w1, g1, j)] rfl hrest ex0 (by show 1 ≤ 4; decide) (fun p hp => by rw [List.mem_singleton.mp hp]; exact h2) _ fun p2 H' ex2 e2 => ?_)
      refine b_cons (s_if (t_eqw (w_var 2 rfl ⟨_, rfl, ite_yes (by decide +kernel) ?_⟩)))
      refine b_one (s_ret (w_not (w_ix ix_list (w_var 5 rfl (w_int ⟨p2, _, 0, .bl (g1 z), rfl, rfl, SqL.of e2, at0, _, rfl, ?_⟩)))))
      rw [← h3]
      exact hq _ ex2
    · rw [ha] at h1
      obtain ⟨rfl, rfl⟩ : wd = andOr b ∧ rest = ps.map (·.1) := by
        have e := HO.tup.inj (Option.some.inj h1)
        exact ⟨V.str.inj (List.cons.inj e).1, (List.cons.inj e).2⟩
      obtain ⟨G1⟩ : Nonempty (Gv P w K mg base "holds_for" (m + 1) f fd ["sentence", "lit"] (spHolds m)) := ⟨G m rfl⟩
      refine b_cons (s_if (t_eqw (w_var 2 rfl ⟨_, rfl, ite_no (by cases b <;> decide +kernel) (b_nil ?_)⟩)))
      refine b_cons (s_if (t_eqw (w_var 2 rfl ⟨_, rfl, ite_no (by cases b <;> decide +kernel) (b_nil ?_)⟩)))
      refine b_cons (s_if (t_eqw (w_var 2 rfl ⟨_, rfl, ite_no (by cases b <;> decide +kernel) (b_nil ?_)⟩)))
      refine b_cons (told m G1 ps rfl hrest ex0 h3 h4 _ fun p2 H' ex2 e2 => ?_)
      refine b_cons (s_if (t_eqw (w_var 2 rfl ⟨_, rfl, ite_no (by cases b <;> decide +kernel) (b_nil ?_)⟩)))
      have kk := hq _ ex2
      rw [h5] at kk
      refine b_one (s_ret (w_if (t_eqw (w_var 2 rfl ⟨_, rfl, ?_⟩))))
      cases b with
      | true =>
        refine ite_yes (by decide +kernel) (w_all rfl B.all (w_var 5 rfl ⟨p2, ps.map fun q => q.2.1 z, rfl, SqL.of (by rw [e2, List.map_map]; rfl), ?_⟩))
        rw [if_pos rfl] at kk
        simpa [List.all_map] using kk
      | false =>
        refine ite_no (by decide +kernel) (w_any rfl B.any (w_var 5 rfl ⟨p2, ps.map fun q => q.2.1 z, rfl, SqL.of (by rw [e2, List.map_map]; rfl), ?_⟩))
        rw [if_neg Bool.false_ne_true] at kk
        simpa [List.any_map] using kk
end
end RG

end

section
set_option Elab.async false
set_option linter.all false
set_option maxRecDepth 100000
set_option maxHeartbeats 4000000
/-! ## values as data: what == and != of lists and tuples ask -/
namespace RG
open PySem L2 Evl
open PySem.PyData (canLay0 canLayAll0 depth depthAll strOk)
theorem S_ok {l : Wd} (h : ∀ c ∈ l, c < 1114112) : strOk (S l) = true := by
  unfold strOk S
  simp only [List.all_toArray, List.all_eq_true, decide_eq_true_eq]
  exact h
theorem abc_small {c : Nat} (h : abc.contains c = true) : c < 1114112 := by
  have : c ∈ abc := by simpa using h
  have z : ∀ c ∈ abc, c < 1114112 := by decide
  exact z c this
theorem set_small {L p : Wd} (h : isSetM p L = true) : ∀ c ∈ p, c < 1114112 := by
  unfold isSetM risingM at h
  simp only [Bool.and_eq_true, List.all_eq_true] at h
  exact fun c hc => abc_small (h.1.1 c hc)
theorem GoodL.small {L p : Wd} (g : GoodL L) (h : p ∈ setsOf L) : ∀ c ∈ p, c < 1114112 := set_small (g.sets p h)
theorem GoodL.ok {L p : Wd} (g : GoodL L) (h : p ∈ setsOf L) : strOk (S p) = true := S_ok (g.small h)
mutual
theorem Dp.ex {K : PySem.W.Frag} {H H' : Hp} (e : Ex H H') : ∀ {d : PyData} {v : V}, Dp K H v d → Dp K H' v d
  | _, _, .non => .non
  | _, _, .bl b => .bl b
  | _, _, .int i => .int i
  | _, _, .str x => .str x
  | _, _, .lst h q => .lst (ex_l e h) (DpAll.ex e q)
  | _, _, .tup h q => .tup (ex_t e h) (DpAll.ex e q)
theorem DpAll.ex {K : PySem.W.Frag} {H H' : Hp} (e : Ex H H') : ∀ {ds : List PyData} {vs : List V}, DpAll K H vs ds → DpAll K H' vs ds
  | _, _, .nil => .nil
  | _, _, .cons h q => .cons (Dp.ex e h) (DpAll.ex e q)
end
/-- data that may be compared -/
structure Fine (n : Nat) (d : PyData) : Prop where
  lay : canLay0 d = true
  dep : depth d ≤ n
theorem Fine.shaped {n : Nat} {d : PyData} (h : Fine n d) (hn : n ≤ 64) : PySem.SeqAt.shaped d = true := by
  unfold PySem.SeqAt.shaped
  rw [h.lay, decide_eq_true (Nat.le_trans h.dep hn)]
  rfl
theorem Fine.mono {n m : Nat} {d : PyData} (h : Fine n d) (hn : n ≤ m) : Fine m d := ⟨h.lay, Nat.le_trans h.dep hn⟩
theorem fine_int {n : Nat} {i : Int} : Fine n (.int i) := ⟨by simp [canLay0], by simp [depth]⟩
theorem fine_str {n : Nat} {x : Str} (h : strOk x = true) : Fine n (.str x) := ⟨by simpa [canLay0] using h, by simp [depth]⟩
theorem fine_all {n : Nat} : ∀ {ds : List PyData}, (∀ d ∈ ds, Fine n d) → canLayAll0 ds = true ∧ depthAll ds ≤ n
  | [], _ => ⟨by simp [canLayAll0], by simp [depthAll]⟩
  | d :: r, h => by
    obtain ⟨h1, h2⟩ := fine_all (ds := r) fun x hx => h x (List.mem_cons_of_mem _ hx)
    have hd := h d List.mem_cons_self
    refine ⟨?_, ?_⟩
    · unfold canLayAll0
      rw [hd.lay, h1]
      rfl
    · unfold depthAll
      exact Nat.max_le.mpr ⟨hd.dep, h2⟩
theorem fine_lst {n : Nat} {ds : List PyData} (h : ∀ d ∈ ds, Fine n d) : Fine (n + 1) (.list ds) := by
  obtain ⟨h1, h2⟩ := fine_all h
  exact ⟨by simpa [canLay0] using h1, by simp only [depth]; omega⟩
theorem fine_tup {n : Nat} {ds : List PyData} (h : ∀ d ∈ ds, Fine n d) : Fine (n + 1) (.tuple ds) := by
  obtain ⟨h1, h2⟩ := fine_all h
  exact ⟨by simpa [canLay0] using h1, by simp only [depth]; omega⟩
theorem dp_all {α : Type} {K : PySem.W.Frag} {H : Hp} (g : α → V) (d : α → PyData) : ∀ l : List α, (∀ x ∈ l, Dp K H (g x) (d x)) → DpAll K H (l.map g) (l.map d)
  | [], _ => .nil
  | x :: r, h => .cons (h x List.mem_cons_self) (dp_all g d r fun y hy => h y (List.mem_cons_of_mem _ hy))
/-- what a list of values is, as data -/
theorem dp_exists {α : Type} {K : PySem.W.Frag} {H : Hp} (n : Nat) (g : α → V) : ∀ l : List α, (∀ x ∈ l, ∃ d, Dp K H (g x) d ∧ Fine n d) → ∃ ds, DpAll K H (l.map g) ds ∧ (∀ d ∈ ds, Fine n d) ∧ ds.length = l.length
  | [], _ => ⟨[], .nil, (fun d h => absurd h List.not_mem_nil), rfl⟩
  | x :: r, h => by
    obtain ⟨ds, h1, h2, h3⟩ := dp_exists n g r fun y hy => h y (List.mem_cons_of_mem _ hy)
    obtain ⟨d, h4, h5⟩ := h x List.mem_cons_self
    refine ⟨d :: ds, .cons h4 h1, fun y hy => ?_, by rw [List.length_cons, h3, List.length_cons]⟩
    rcases List.mem_cons.mp hy with e | e
    · rw [e]; exact h5
    · exact h2 y e
theorem eqv_nil (ds : List PyData) : PyData.eqv (.list ds) (.list []) = ds.isEmpty := by
  cases ds <;> simp [PyData.eqv, PyData.eqvAll]
section
variable {X : Cx} {σ : L2.St} {H : Hp} {R : Bool → Hp → Prop} {e : Expr} {pos p : Pos} {k : Nat}
theorem t_ne_nil (hr : Room k X.A) (q : wE X e σ H fun v H1 => ∃ a xs ds n, v = .ref a ∧ SqL X.K H1 a xs ∧ DpAll X.K H1 xs ds ∧ (∀ d ∈ ds, Fine n d) ∧ n ≤ 60 ∧ ds.length = xs.length ∧ ∀ H', Ex H1 H' → R (!xs.isEmpty) H') : wT X (.Compare e [.NotEq] [.List [] p] pos) σ H R := by
  refine t_cmp (op_neD hr.units) (wE_mono q fun v H1 ⟨a, xs, ds, n, ev, h1, h2, h3, h4, h5, h6⟩ => ?_) (nomark _)
  refine w_lst (a_nil ⟨Nat.zero_le _, fun p2 hp2 => ?_⟩)
  have ex := Ex.new (o := .lst []) hp2
  refine ⟨.list ds, .list [], by rw [ev]; exact .lst (ex_l ex h1) (DpAll.ex ex h2), .lst (SqL.of upd_same) .nil, (fine_lst h3).shaped (by omega), (fine_lst (n := 0) (fun d h => absurd h List.not_mem_nil)).shaped (by omega), _, rfl, ?_⟩
  rw [eqv_nil]
  have z : ds.isEmpty = xs.isEmpty := by
    cases ds <;> cases xs <;> simp_all
  rw [z]
  exact h6 _ ex
theorem t_eq_nil (hr : Room k X.A) (q : wE X e σ H fun v H1 => ∃ a xs ds n, v = .ref a ∧ SqL X.K H1 a xs ∧ DpAll X.K H1 xs ds ∧ (∀ d ∈ ds, Fine n d) ∧ n ≤ 60 ∧ ds.length = xs.length ∧ ∀ H', Ex H1 H' → R xs.isEmpty H') : wT X (.Compare e [.Eq] [.List [] p] pos) σ H R := by
  refine t_cmp (op_eqD hr.units) (wE_mono q fun v H1 ⟨a, xs, ds, n, ev, h1, h2, h3, h4, h5, h6⟩ => ?_) (nomark _)
  refine w_lst (a_nil ⟨Nat.zero_le _, fun p2 hp2 => ?_⟩)
  have ex := Ex.new (o := .lst []) hp2
  refine ⟨.list ds, .list [], by rw [ev]; exact .lst (ex_l ex h1) (DpAll.ex ex h2), .lst (SqL.of upd_same) .nil, (fine_lst h3).shaped (by omega), (fine_lst (n := 0) (fun d h => absurd h List.not_mem_nil)).shaped (by omega), _, rfl, ?_⟩
  rw [eqv_nil]
  have z : ds.isEmpty = xs.isEmpty := by
    cases ds <;> cases xs <;> simp_all
  rw [z]
  exact h6 _ ex
end
/-! ### sentences as data -/
theorem SenLeaf.data {K : PySem.W.Frag} {L : Wd} {H : Hp} {a : Addr} {f : Wd → Bool} (g : GoodL L) (h : SenLeaf L H a f) : ∃ d, Dp K H (.ref a) d ∧ Fine 1 d := by
  rcases h with ⟨c, h1, h2, h3⟩ | ⟨i, s, h1, h2, h3, h4, h5⟩ | ⟨ss, h1, h2, h3, h4⟩
  · have hc : [c] ∈ setsOf L := mem_setsOf.mpr (List.singleton_sublist.mpr h1)
    exact ⟨.tuple [.str "lit", .str (S [c])], .tup (SqT.of h2) (.cons (.str _) (.cons (.str _) .nil)), fine_tup fun d hd => by
      simp only [List.mem_cons, List.not_mem_nil, or_false] at hd
      rcases hd with rfl | rfl
      · exact fine_str (by decide +kernel)
      · exact fine_str (g.ok hc)⟩
  · exact ⟨.tuple [.str "least", .int i, .str (S s)], .tup (SqT.of h4) (.cons (.str _) (.cons (.int _) (.cons (.str _) .nil))), fine_tup fun d hd => by
      simp only [List.mem_cons, List.not_mem_nil, or_false] at hd
      rcases hd with rfl | rfl | rfl
      · exact fine_str (by decide +kernel)
      · exact fine_int
      · exact fine_str (g.ok h3)⟩
  · exact ⟨.tuple (.str "sets" :: ss.map fun s => .str (S s)), .tup (SqT.of h3) (.cons (.str _) (dp_all VS (fun s => .str (S s)) ss fun s _ => .str _)), fine_tup fun d hd => by
      rcases List.mem_cons.mp hd with rfl | hd
      · exact fine_str (by decide +kernel)
      · obtain ⟨s, hs, rfl⟩ := List.mem_map.mp hd
        exact fine_str (g.ok (h2 s hs))⟩
theorem SenAt.data {K : PySem.W.Frag} {L : Wd} {H : Hp} (g : GoodL L) : ∀ {n : Nat} {v : V} {f : Wd → Bool} {k : Nat}, SenAt L H n v f k → ∃ d, Dp K H v d ∧ Fine (n + 1) d
  | 0, v, f, k, ⟨a, ev, h, hk⟩ => by
    subst ev
    exact h.data g
  | n + 1, v, f, k, ⟨a, ev, h⟩ => by
    subst ev
    rcases h with ⟨h, hk⟩ | ⟨w, f2, j, h1, h2, h3, h4⟩ | ⟨b, ps, h1, h2, h3, h4, h5, h6⟩
    · obtain ⟨d, h1, h2⟩ := h.data (K := K) g
      exact ⟨d, h1, h2.mono (by omega)⟩
    · obtain ⟨d, hd, hf⟩ := h2.data (K := K) g
      refine ⟨.tuple [.str "not", d], .tup (SqT.of h1) (.cons (.str _) (.cons hd .nil)), fine_tup fun x hx => ?_⟩
      simp only [List.mem_cons, List.not_mem_nil, or_false] at hx
      rcases hx with rfl | rfl
      · exact fine_str (by decide +kernel)
      · exact hf
    · obtain ⟨ds, e1, e2, e3⟩ := dp_exists (n + 1) (fun q : V × (Wd → Bool) × Nat => q.1) ps fun q hq => (h4 q hq).data (K := K) g
      refine ⟨.tuple (.str (andOr b) :: ds), .tup (SqT.of h1) (.cons (.str _) e1), fine_tup fun x hx => ?_⟩
      rcases List.mem_cons.mp hx with rfl | hx
      · exact fine_str (by cases b <;> decide +kernel)
      · exact e2 x hx
end RG

end

section
set_option Elab.async false
set_option linter.all false
set_option maxRecDepth 100000
set_option maxHeartbeats 4000000
namespace RG
open PySem L2 Evl
/-! ## more rules -/
section
variable {X : Cx} {σ : L2.St} {H : Hp} {Q : VK} {D : Ends} {o e c : Expr} {es : List Expr} {body : List Stmt} {pos p1 p2 p3 apos cpos : Pos}
theorem w_bm0 {T id : String} {name : Str} {r : V → List V → Hp → VK → Prop} (pa : PlainAttrs T) (slot : Slot T name id) (hty : typeOf (.builtin id) = pure (.type "method_descriptor")) (hm : MtR X id r)
    (q : wE X o σ H fun x H1 => tyV X.K T x H1 ∧ r x [] H1 Q) (hbase : attributeBase o name X.env (eval o X.env) = eval o X.env := by rfl) (hline : (apos.endLine == cpos.line) = true := by rfl) : wE X (.Call (.Attribute o name apos) [] [] cpos) σ H Q :=
  ⟨_, pe_bm0 pa slot hty hm pe_w hbase hline, q⟩
theorem w_bm {T id : String} {name : Str} {r : V → List V → Hp → VK → Prop} (pa : PlainAttrs T) (slot : Slot T name id) (hty : typeOf (.builtin id) = pure (.type "method_descriptor")) (hm : MtR X id r)
    (q : wE X o σ H fun x H1 => tyV X.K T x H1 ∧ wA X (e :: es) σ H1 fun xs H2 => r x xs H2 Q) (hbase : attributeBase o name X.env (eval o X.env) = eval o X.env := by rfl)
    (hfew : ((backTo cpos (starEach (e :: es) X.env)).all (fun x => !x.1) && (backToKw cpos (keywordEach [] X.env)).all (fun x => x.1.isSome)
      && decide ((e :: es).length + ([] : List Keyword).length + (if ([] : List Keyword).isEmpty then 0 else 1) < 30)) = true := by rfl)
    (hline : (apos.endLine == cpos.line) = true := by rfl) (hs : starEach (e :: es) X.env = (false, eval e X.env) :: starEach es X.env := by rfl) (hplain : (backTo cpos (starEach es X.env)).any (·.1) = false := by rfl) : wE X (.Call (.Attribute o name apos) (e :: es) [] cpos) σ H Q :=
  ⟨_, pe_bm pa slot hty hm pe_w pa_w hbase hfew hline hs hplain, q⟩
theorem w_revL {k : Nat} (q : wE X e σ H fun x H1 => ∃ a xs, x = .ref a ∧ SqL X.K H1 a xs ∧ ∀ p, H1 p = none → Q (.ref p) (upd H1 p (.lst xs.reverse))) : wE X (.Subscript e (.Slice none none (some (.UnaryOp .USub (.Constant (.int 1) k p1) p2)) p3) pos) σ H Q :=
  ⟨_, pe_revL pe_w, q⟩
theorem s_aug {op : Operator} {ti : TIp} {x : Str} (i : Nat) (hN : X.N.Nodup) (ho : PIp X op ti) (q : ∃ v, σ[i]? = some (some v) ∧ wE X e σ H fun y H1 => ti v y H1 fun z H2 => D.nx (σ.set i (some z)) H2)
    (hi : X.N[i]? = some x := by rfl) (hx : Loc X.env.scope x := by first | exact Or.inl rfl | exact Or.inr rfl) (hf : X.fn x = true ∨ X.env.scope.names.lookup x = some .local := by first | exact .inl rfl | exact .inr rfl | assumption) :
    wS X (.AugAssign (.Name x p1) op e pos) D σ H := ⟨_, ps_aug hN hi hx pe_w ho hf, q⟩
/-- a while by a measure: W m holds at each turn, m falls -/
theorem s_while (W : Nat → L2.St → Hp → Prop) (m0 : Nat) (h0 : W m0 σ H)
    (hs : ∀ m σ' H', W m σ' H' → wT X c σ' H' fun b H1 => if b = true then wB X body { D with nx := fun s h => ∃ m', m' < m ∧ W m' s h, ct := fun s h => ∃ m', m' < m ∧ W m' s h, bk := D.nx } σ' H1 else D.nx σ' H1)
    (hp : PassesOwn (model X.prog X.w) X.A X.env X.xe := by exact PassesOwn.never) : wS X (.While c body [] pos) D σ H := by
  refine ⟨_, ps_while hp pt_w pss_w, W, ⟨m0, h0⟩, fun m σ' H' h => wT_mono (hs m σ' H' h) fun b H1 q => ?_⟩
  cases b with
  | true =>
    rw [if_pos rfl] at q ⊢
    exact ⟨_, fun _ _ h => h, q⟩
  | false =>
    rw [if_neg Bool.false_ne_true] at q ⊢
    exact q
theorem w_sliceT1 {j} {pc : Pos} (q : wE X e σ H fun x H1 => ∃ a y ys, x = .ref a ∧ SqT X.K H1 a (y :: ys) ∧ ∀ p, H1 p = none → Q (.ref p) (upd H1 p (.tup ys))) : wE X (.Subscript e (.Slice (some (.Constant (.int 1) j pc)) none none p2) pos) σ H Q := by
  refine ⟨_, pe_slice sl_tup pe_w (po_some pe_int) po_none, wE_mono q fun x H1 ⟨a, y, ys, ex, h, k⟩ => ⟨1, rfl, a, y :: ys, ex, h, ?_⟩⟩
  have e1 : HT.sIx (y :: ys).length 0 (some ((1 : Nat) : Int)) = min 1 (y :: ys).length := HT.sIx_nat _ 0 1
  have e2 : min 1 (y :: ys).length = 1 := by simp only [List.length_cons]; omega
  have e3 : HT.sIx (y :: ys).length 0 (some (1 : Int)) = 1 := e1.trans e2
  refine ⟨fun h => ?_, ?_⟩
  · rw [e3] at h
    exact absurd h.1 (by decide)
  · have z : cutV (y :: ys) (some 1) none = ys := by
      unfold cutV
      rw [e3, HT.sIx_none]
      simp
    rw [z]
    exact k
/-- len of a list or a tuple; of a text -/
theorem w_len (hm : X.mg "len" = none) (q : wE X e σ H fun v H1 => ∃ a xs, v = .ref a ∧ (SqL X.K H1 a xs ∨ SqT X.K H1 a xs) ∧ Q (.int xs.length) H1) (hg : Gl X "len" := by rfl)
    (hs1 : starEach [e] X.env = (false, eval e X.env) :: starEach [] X.env := by rfl) : wE X (.Call (.Name "len" p1) [e] [] pos) σ H Q :=
  w_callB call_len_seq hm PySem.boot_len (a_cons (wE_mono q fun v H1 ⟨a, xs, ev, h, k⟩ => a_nil ⟨a, xs, by rw [ev], h, k⟩) hs1) hg (by decide) (by decide) hs1 (by rfl)
theorem w_lenS (hm : X.mg "len" = none) (q : wE X e σ H fun v H1 => ∃ l : Wd, v = VS l ∧ l.length ≤ 100000 ∧ Q (.int l.length) H1) (hg : Gl X "len" := by rfl)
    (hs1 : starEach [e] X.env = (false, eval e X.env) :: starEach [] X.env := by rfl) : wE X (.Call (.Name "len" p1) [e] [] pos) σ H Q :=
  w_callB call_len_str hm PySem.boot_len (a_cons (wE_mono q fun v H1 ⟨l, ev, h, k⟩ => a_nil ⟨S l, by rw [ev], by rw [S_len]; exact small_line h, by rw [S_len]; exact k⟩) hs1) hg (by decide) (by decide) hs1 (by rfl)
/-- e == a number -/
theorem w_eqi {i : Int} {j} (q : wE X e σ H fun v H1 => ∃ x : Int, v = .int x ∧ Q (.bl (decide (x = i))) H1) : wE X (.Compare e [.Eq] [.Constant (.int i) j p1] pos) σ H Q :=
  w_cmp op_eq (wE_mono q fun v H1 ⟨x, ev, h⟩ => w_int ⟨by rw [ev]; rfl, by
    rw [ev, show decide (V.int x = V.int i) = decide (x = i) from decide_eq_decide.mpr ⟨fun z => V.int.inj z, fun z => by rw [z]⟩]
    exact h⟩) (nomark _)
theorem t_eqi {i : Int} {j} {R : Bool → Hp → Prop} (q : wE X e σ H fun v H1 => ∃ x : Int, v = .int x ∧ R (decide (x = i)) H1) : wT X (.Compare e [.Eq] [.Constant (.int i) j p1] pos) σ H R :=
  t_cmp op_eq (wE_mono q fun v H1 ⟨x, ev, h⟩ => w_int ⟨by rw [ev]; rfl, _, rfl, by
    rw [ev, show decide (V.int x = V.int i) = decide (x = i) from decide_eq_decide.mpr ⟨fun z => V.int.inj z, fun z => by rw [z]⟩]
    exact h⟩) (nomark _)
theorem w_ix0 {j} {pc : Pos} (q : wE X e σ H fun x H1 => ∃ a y ys, x = .ref a ∧ SqT X.K H1 a (y :: ys) ∧ Q y H1) : wE X (.Subscript e (.Constant (.int 0) j pc) pos) σ H Q :=
  w_ix ix_tup (wE_mono q fun x H1 ⟨a, y, ys, ex, h, k⟩ => w_int ⟨a, _, 0, y, ex, rfl, h, at0, k⟩)
theorem w_ix1 {j} {pc : Pos} (q : wE X e σ H fun x H1 => ∃ a x0 y ys, x = .ref a ∧ SqT X.K H1 a (x0 :: y :: ys) ∧ Q y H1) : wE X (.Subscript e (.Constant (.int 1) j pc) pos) σ H Q :=
  w_ix ix_tup (wE_mono q fun x H1 ⟨a, x0, y, ys, ex, h, k⟩ => w_int ⟨a, _, 1, y, ex, rfl, h, at1, k⟩)
theorem w_ix2 {j} {pc : Pos} (q : wE X e σ H fun x H1 => ∃ a x0 x1 y ys, x = .ref a ∧ SqT X.K H1 a (x0 :: x1 :: y :: ys) ∧ Q y H1) : wE X (.Subscript e (.Constant (.int 2) j pc) pos) σ H Q :=
  w_ix ix_tup (wE_mono q fun x H1 ⟨a, x0, x1, y, ys, ex, h, k⟩ => w_int ⟨a, _, 2, y, ex, rfl, h, at2, k⟩)
end
section
variable {P : Program} {w : World} {K : PySem.W.Frag} {mg : Str → Option Value} {base : Heap}
/-! ## is_part -/
abbrev sIsPart : Stmt := top 28
abbrev sInner : Stmt := top 29
abbrev sCheck : Stmt := top 30
def spIsPart : Sp := fun vs H Q _ => ∃ (L : Wd) (v : V) (n : Nat) (f : Wd → Bool) (k : Nat), vs = [VS L, v] ∧ GoodL L ∧ SenAt L H n v f k ∧ ∀ H', Ex H H' → Q (.bl true) H'
abbrev nIsPart : List Str := ["lamps", "value", "word", "lit"]
theorem scIsPart : FnScope nIsPart ["lamps", "value"] (defScope sIsPart) := ⟨rfl, rfl, rfl, by decide +kernel, rfl, by decide +kernel, by decide +kernel⟩
theorem mem_len4 {L s : Wd} (g : GoodL L) (h : s ∈ setsOf L) : s.length ≤ 4 := Nat.le_trans (mem_setsOf.mp h).length_le g.len.2
theorem ok_is_part {f g1 g2 : Addr} {fd gd1 gd2 : FuncData} (F : Fun K "is_part" "is_part" sIsPart f fd) (B : Bt mg) (GS : Gv P w K mg base "is_set" 2 g1 gd1 ["value", "lamps"] spIsSet) (GI : Gv P w K mg base "is_integer" 1 g2 gd2 ["value", "least", "most"] spIsInteger) :
    FnOk P w K mg base CX0 3 f fd ["lamps", "value"] spIsPart := by
  refine F.ok scIsPart (fun vs H Q E h => ?_) (fun cdv A outer s H vs Q E hr h => ?_)
  · obtain ⟨L, v, n, g, k, rfl, _⟩ := h
    rfl
  obtain ⟨L, v, n, g, k, rfl, gl, hS, hq⟩ := h
  obtain ⟨a, wd, rest, rfl, ha, hlen⟩ := hS.head
  have hsq : SqT K H a (.str wd :: rest) := SqT.of ha
  refine b_cons (s_if (t_or (u_or (t_not (t_val (w_isi (t := "tuple") B.isi B.tuple (by decide +kernel) (w_var 1 rfl ⟨"tuple", true, .base (.tup ha), by decide +kernel, true, rfl, ite_no rfl ?_⟩)))))))
  refine u_or (t_eqi (w_len B.len (w_var 1 rfl ⟨a, _, rfl, .inr hsq, _, rfl, ite_no (decide_eq_false (by simp only [List.length_cons]; omega)) ?_⟩)))
  refine u_or1 (t_not (t_val (w_isi (t := "str") B.isi B.str (by decide +kernel) (w_ix0 (w_var 1 rfl ⟨a, _, _, rfl, hsq, "str", true, .base (.str _), by decide +kernel, true, rfl, ite_no rfl (b_nil ?_)⟩)))))
  refine b_cons (s_set 2 scIsPart.nd (w_ix0 (w_var 1 rfl ⟨a, _, _, rfl, hsq, ?_⟩)))
  have hq0 := hq H (Ex.refl H)
  have leaf : SenLeaf L H a g → wB (cxOf CX0 P w K mg base nIsPart "is_part" (defScope sIsPart) f cdv A outer s H E).nox ((defBody sIsPart).drop 2) { nx := fun x H' => Q V.non H', rt := Q }
      [some (VS L), some (.ref a), some (.str wd), none] H := by
    intro hleaf
    rcases hleaf with ⟨c, h1, h2, h3⟩ | ⟨i, st, h1, h2, h3, h4, h5⟩ | ⟨ss, h1, h2, h3, h4⟩
    · rw [ha] at h2
      obtain ⟨rfl, rfl⟩ : wd = "lit" ∧ rest = [VS [c]] := by
        have e := HO.tup.inj (Option.some.inj h2)
        exact ⟨V.str.inj (List.cons.inj e).1, (List.cons.inj e).2⟩
      refine b_cons (s_if (t_eqw (w_var 2 rfl ⟨_, rfl, ite_yes (by decide +kernel) ?_⟩)))
      refine b_one (s_ret (w_and (w_eqi (w_len B.len (w_var 1 rfl ⟨a, _, rfl, .inr hsq, _, rfl, _, rfl, ite_yes rfl ?_⟩)))))
      have hc : [c] ∈ setsOf L := mem_setsOf.mpr (List.singleton_sublist.mpr h1)
      refine w_and (w_call GS hr (by decide) (a_cons (w_ix1 (w_var 1 rfl ⟨a, _, _, _, rfl, hsq, a_cons (w_var 0 rfl (a_nil ⟨[c], L, rfl, by show 1 ≤ 1000; decide, fun H1 ex1 => ⟨_, rfl, ite_yes (gl.sets _ hc) ?_⟩⟩))⟩))))
      exact w_one (w_eqi (w_lenS B.len (w_ix1 (w_var 1 rfl ⟨a, _, _, _, rfl, ex_t ex1 hsq, [c], rfl, by show 1 ≤ 100000; decide, 1, rfl, hq _ ex1⟩))))
    · rw [ha] at h4
      obtain ⟨rfl, rfl⟩ : wd = "least" ∧ rest = [V.int i, VS st] := by
        have e := HO.tup.inj (Option.some.inj h4)
        exact ⟨V.str.inj (List.cons.inj e).1, (List.cons.inj e).2⟩
      refine b_cons (s_if (t_eqw (w_var 2 rfl ⟨_, rfl, ite_no (by decide +kernel) (b_nil ?_)⟩)))
      refine b_cons (s_if (t_eqw (w_var 2 rfl ⟨_, rfl, ite_yes (by decide +kernel) ?_⟩)))
      refine b_one (s_ret (w_and (w_eqi (w_len B.len (w_var 1 rfl ⟨a, _, rfl, .inr hsq, _, rfl, _, rfl, ite_yes rfl ?_⟩)))))
      refine w_and (w_call GI hr (by decide) (a_cons (w_ix1 (w_var 1 rfl ⟨a, _, _, _, rfl, hsq, a_cons (w_int (a_cons (w_int (a_nil ⟨i, 1, 4, rfl, _, rfl, ite_yes (by rw [decide_eq_true h1, decide_eq_true h2]; rfl) ?_⟩))))⟩))))
      have := mem_len4 gl h3
      refine w_one (w_call GS hr (by decide) (a_cons (w_ix2 (w_var 1 rfl ⟨a, _, _, _, _, rfl, hsq, a_cons (w_var 0 rfl (a_nil ⟨st, L, rfl, by omega, fun H1 ex1 => ?_⟩))⟩))))
      rw [gl.sets _ h3]
      exact hq _ ex1
    · rw [ha] at h3
      obtain ⟨rfl, rfl⟩ : wd = "sets" ∧ rest = ss.map VS := by
        have e := HO.tup.inj (Option.some.inj h3)
        exact ⟨V.str.inj (List.cons.inj e).1, (List.cons.inj e).2⟩
      refine b_cons (s_if (t_eqw (w_var 2 rfl ⟨_, rfl, ite_no (by decide +kernel) (b_nil ?_)⟩)))
      refine b_cons (s_if (t_eqw (w_var 2 rfl ⟨_, rfl, ite_no (by decide +kernel) (b_nil ?_)⟩)))
      refine b_cons (s_if (t_eqw (w_var 2 rfl ⟨_, rfl, ite_yes (by decide +kernel) ?_⟩)))
      obtain ⟨t, ht⟩ := B.mostSets
      refine b_one (s_ret (w_and (w_cmp op_le (w_len B.len (w_var 1 rfl ⟨a, _, rfl, .inr hsq, w_op op_add (w_glob (v := .int 16) ht ⟨t, rfl⟩ (w_int ⟨16, 1, rfl, rfl, _, _, rfl, rfl, _, rfl, ite_yes (decide_eq_true (by simp only [List.length_cons]; omega)) ?_⟩))⟩)) (nomark _))))
      refine w_one (w_all rfl B.all (w_lcT 3 scIsPart.nd (blkOk_by (N := nIsPart) (sc := defScope sIsPart) (by decide +kernel)) (w_sliceT1 (w_var 1 rfl ⟨a, _, _, rfl, hsq, fun p hp => ⟨p, ss.map VS, rfl, SqT.of upd_same, ?_⟩⟩))))
      have ex0 : Ex H (upd H p (.tup (ss.map VS))) := Ex.new hp
      refine lcMap ss VS (fun _ => .bl true) (small_lt (by omega)) (fun st hst H' ex R kk => ?_) (fun p2 H' hp2 ex e2 => ?_)
      · intro s0 H0 C cl fp
        have := mem_len4 gl (h2 _ hst)
        refine w_call GS (hr) (by decide) (a_cons (w_var 3 rfl (a_cons (w_var 0 rfl (a_nil ⟨st, L, rfl, by omega, fun H1 ex1 => ?_⟩)))))
        rw [gl.sets _ (h2 _ hst)]
        exact kk _ ex1
      · refine ⟨p2, ss.map fun _ => true, rfl, SqL.of (by rw [e2, List.map_map]; rfl), ?_⟩
        rw [show (ss.map fun _ => true).all id = true by simp]
        exact hq _ (ex0.trans ex)
  cases n with
  | zero =>
    obtain ⟨a', ev, hleaf, hk⟩ := hS
    cases ev
    exact leaf hleaf
  | succ m =>
    obtain ⟨a', ev, hS⟩ := hS
    cases ev
    rcases hS with ⟨hleaf, hk⟩ | ⟨w1, g1, j, h1, h2, h3, h4⟩ | ⟨b, ps, h1, h2, h3, h4, h5, h6⟩
    · exact leaf hleaf
    · rw [ha] at h1
      obtain ⟨rfl, rfl⟩ : wd = "not" ∧ rest = [w1] := by
        have e := HO.tup.inj (Option.some.inj h1)
        exact ⟨V.str.inj (List.cons.inj e).1, (List.cons.inj e).2⟩
      refine b_cons (s_if (t_eqw (w_var 2 rfl ⟨_, rfl, ite_no (by decide +kernel) (b_nil ?_)⟩)))
      refine b_cons (s_if (t_eqw (w_var 2 rfl ⟨_, rfl, ite_no (by decide +kernel) (b_nil ?_)⟩)))
      refine b_cons (s_if (t_eqw (w_var 2 rfl ⟨_, rfl, ite_no (by decide +kernel) (b_nil ?_)⟩)))
      refine b_cons (s_if (t_eqw (w_var 2 rfl ⟨_, rfl, ite_yes (by decide +kernel) ?_⟩)))
      exact b_one (s_ret (w_eqi (w_len B.len (w_var 1 rfl ⟨a, _, rfl, .inr hsq, _, rfl, hq0⟩))))
    · rw [ha] at h1
      obtain ⟨rfl, rfl⟩ : wd = andOr b ∧ rest = ps.map (·.1) := by
        have e := HO.tup.inj (Option.some.inj h1)
        exact ⟨V.str.inj (List.cons.inj e).1, (List.cons.inj e).2⟩
      refine b_cons (s_if (t_eqw (w_var 2 rfl ⟨_, rfl, ite_no (by cases b <;> decide +kernel) (b_nil ?_)⟩)))
      refine b_cons (s_if (t_eqw (w_var 2 rfl ⟨_, rfl, ite_no (by cases b <;> decide +kernel) (b_nil ?_)⟩)))
      refine b_cons (s_if (t_eqw (w_var 2 rfl ⟨_, rfl, ite_no (by cases b <;> decide +kernel) (b_nil ?_)⟩)))
      refine b_cons (s_if (t_eqw (w_var 2 rfl ⟨_, rfl, ite_no (by cases b <;> decide +kernel) (b_nil ?_)⟩)))
      refine b_one (s_ret (w_and (w_cmp op_in_seq (w_var 2 rfl (w_tup (a_cons (w_str (a_cons (w_str (a_nil ⟨by show 2 ≤ sizeLine; decide, fun p hp => ⟨p, _, rfl, .inr (SqT.of upd_same), rfl, rfl, _, rfl, ?_⟩⟩))))))))))
      have ex0 : Ex H (upd H p (.tup [V.str "and", V.str "or"])) := Ex.new hp
      refine ite_yes (by cases b <;> decide +kernel) (w_one (w_chain op_le op_le (w_int (w_len B.len (w_var 1 rfl ⟨a, _, rfl, .inr (ex_t ex0 hsq), 3, _, rfl, rfl, _, rfl, ite_yes (decide_eq_true (by simp only [List.length_cons, List.length_map]; omega)) (w_int ⟨_, 5, rfl, rfl, ?_⟩)⟩)))))
      have z : (((V.str (andOr b) :: List.map (fun x => x.fst) ps).length : Nat) : Int) ≤ 5 := by
        simp only [List.length_cons, List.length_map]
        omega
      show Q (.bl (decide ((((V.str (andOr b) :: List.map (fun x => x.fst) ps).length : Nat) : Int) ≤ 5))) _
      rw [decide_eq_true z]
      exact hq _ ex0
end
end RG

end

section
set_option Elab.async false
set_option linter.all false
set_option maxRecDepth 100000
set_option maxHeartbeats 4000000
namespace RG
open PySem L2 Evl
/-! ## inner, check_sentence -/
abbrev isWord (wd : Str) : Bool := inV (.str wd) [.str "not", .str "and", .str "or"]
theorem SenLeaf.noWord {L : Wd} {H : Hp} {a : Addr} {f : Wd → Bool} (h : SenLeaf L H a f) : ∃ wd rest, H a = some (.tup (.str wd :: rest)) ∧ rest.length ≤ 16 ∧ isWord wd = false := by
  rcases h with ⟨c, h1, h2, h3⟩ | ⟨i, s, h1, h2, h3, h4, h5⟩ | ⟨ss, h1, h2, h3, h4⟩
  · exact ⟨_, _, h2, by show 1 ≤ 16; decide, by decide +kernel⟩
  · exact ⟨_, _, h4, by show 2 ≤ 16; decide, by decide +kernel⟩
  · exact ⟨_, _, h3, by rw [List.length_map]; exact h1, by decide +kernel⟩
abbrev Kid := V × (Wd → Bool) × Nat
theorem SenAt.kids {L : Wd} {H : Hp} : ∀ {n : Nat} {v : V} {f : Wd → Bool} {k : Nat}, SenAt L H n v f k → ∃ a wd rest, ∃ cs : List Kid, v = .ref a ∧ H a = some (.tup (.str wd :: rest)) ∧ rest.length ≤ 16 ∧ (if isWord wd = true then rest else []) = cs.map (·.1) ∧
    (∀ p ∈ cs, SenAt L H n p.1 p.2.1 p.2.2) ∧ k = (cs.map (·.2.2)).sum + 1
  | 0, v, f, k, ⟨a, ev, h, hk⟩ => by
    obtain ⟨wd, rest, h1, h2, h3⟩ := h.noWord
    exact ⟨a, wd, rest, [], ev, h1, h2, by rw [h3]; rfl, (fun p hp => absurd hp List.not_mem_nil), hk⟩
  | n + 1, v, f, k, ⟨a, ev, h⟩ => by
    rcases h with ⟨h, hk⟩ | ⟨w, g, j, h1, h2, h3, h4⟩ | ⟨b, ps, h1, h2, h3, h4, h5, h6⟩
    · obtain ⟨wd, rest, h1, h2, h3⟩ := h.noWord
      exact ⟨a, wd, rest, [], ev, h1, h2, by rw [h3]; rfl, (fun p hp => absurd hp List.not_mem_nil), hk⟩
    · exact ⟨a, _, _, [(w, g, j)], ev, h1, by show 1 ≤ 16; decide, by rw [show isWord "not" = true by decide +kernel]; rfl, fun p hp => by rw [List.mem_singleton.mp hp]; exact h2.up, h4⟩
    · exact ⟨a, _, _, ps, ev, h1, by rw [List.length_map]; omega, by rw [show isWord (andOr b) = true by cases b <;> decide +kernel]; rfl, fun p hp => (h4 p hp).up, h6⟩
section
variable {P : Program} {w : World} {K : PySem.W.Frag} {mg : Str → Option Value} {base : Heap}
def spInner : Sp := fun vs H Q _ => ∃ (a : Addr) (wd : Str) (rest : List V), vs = [.ref a] ∧ H a = some (.tup (.str wd :: rest)) ∧ ∀ p H', H p = none → Ex H H' → H' p = some (.lst (if isWord wd = true then rest else [])) → Q (.ref p) H'
theorem scInner : FnScope ["part"] ["part"] (defScope sInner) := ⟨rfl, rfl, rfl, by decide +kernel, rfl, by decide +kernel, by decide +kernel⟩
theorem ok_inner {f : Addr} {fd : FuncData} (F : Fun K "inner" "inner" sInner f fd) (B : Bt mg) : FnOk P w K mg base CX0 1 f fd ["part"] spInner := by
  refine F.ok scInner (fun vs H Q E h => ?_) (fun cdv A outer s H vs Q E hr h => ?_)
  · obtain ⟨a, wd, rest, rfl, _⟩ := h
    rfl
  obtain ⟨a, wd, rest, rfl, ha, hq⟩ := h
  have hsq : SqT K H a (.str wd :: rest) := SqT.of ha
  refine b_one (s_ret (w_if (t_cmp op_in_seq (w_ix0 (w_var 0 rfl ⟨a, _, _, rfl, hsq, w_tup (a_cons (w_str (a_cons (w_str (a_cons (w_str (a_nil ⟨by show 3 ≤ sizeLine; decide, fun p hp => ⟨p, _, rfl, .inr (SqT.of upd_same), rfl, rfl, _, rfl, ?_⟩⟩)))))))⟩)))))
  have ex0 : Ex H (upd H p (.tup [V.str "not", V.str "and", V.str "or"])) := Ex.new hp
  have hz : (if false = true then !inV (V.str wd) [V.str "not", V.str "and", V.str "or"] else inV (V.str wd) [V.str "not", V.str "and", V.str "or"]) = isWord wd := if_neg Bool.false_ne_true
  cases c : isWord wd with
  | true =>
    refine ite_yes (hz.trans c) (w_callTy call_list_of B.list (by decide +kernel) (a_cons (w_sliceT1 (w_var 0 rfl ⟨a, _, _, rfl, ex_t ex0 hsq, fun p1 hp1 => a_nil ⟨p1, _, rfl, .inr (SqT.of upd_same), fun p2 hp2 => ?_⟩⟩))))
    refine hq p2 _ (fresh_back (ex0.trans (Ex.new hp1)) hp2) ((ex0.trans (Ex.new hp1)).trans (Ex.new hp2)) ?_
    rw [c, upd_same]
    rfl
  | false =>
    refine ite_no (hz.trans c) (w_lst (a_nil ⟨Nat.zero_le _, fun p2 hp2 => ?_⟩))
    refine hq p2 _ (fresh_back ex0 hp2) (ex0.trans (Ex.new hp2)) ?_
    rw [c, upd_same]
    rfl
def spCheck : Sp := fun vs H Q _ => ∃ (L : Wd) (v : V) (n : Nat) (f : Wd → Bool) (k : Nat), vs = [VS L, v] ∧ GoodL L ∧ SenAt L H n v f k ∧ n ≤ 40 ∧ k ≤ 20 ∧ ∀ H', Ex H H' → Q .non H'
abbrev nCheck : List Str := ["lamps", "value", "waiting", "number", "part"]
theorem scCheck : FnScope nCheck ["lamps", "value"] (defScope sCheck) := ⟨rfl, rfl, rfl, by decide +kernel, rfl, by decide +kernel, by decide +kernel⟩
theorem ok_check {f g1 g2 g3 : Addr} {fd gd1 gd2 gd3 : FuncData} (F : Fun K "check_sentence" "check_sentence" sCheck f fd) (B : Bt mg) (GN : Gv P w K mg base "need_lamps" 3 g1 gd1 ["lamps"] spNeedLamps) (GP : Gv P w K mg base "is_part" 3 g2 gd2 ["lamps", "value"] spIsPart)
    (GI : Gv P w K mg base "inner" 1 g3 gd3 ["part"] spInner) : FnOk P w K mg base CX0 4 f fd ["lamps", "value"] spCheck := by
  refine F.ok scCheck (fun vs H Q E h => ?_) (fun cdv A outer s H vs Q E hr h => ?_)
  · obtain ⟨L, v, n, g, k, rfl, _⟩ := h
    rfl
  obtain ⟨L, v, n, g, k, rfl, gl, hS, hn, hk, hq⟩ := h
  refine b_cons (s_expr (w_call GN hr (by decide) (a_cons (w_var 0 rfl (a_nil ⟨L, rfl, gl.lamps, by have := gl.len; omega, fun H1 ex1 => ?_⟩)))))
  refine b_cons (s_set 2 scCheck.nd (w_lst (a_cons (w_var 1 rfl (a_nil ⟨by show 1 ≤ sizeLine; decide, fun p0 hp0 => ?_⟩)))))
  refine b_cons (s_set 3 scCheck.nd (w_int ?_))
  have hS1 : SenAt L H1 n v g k := hS.mono ex1
  refine b_one (s_while (fun m σ' H' => ∃ (cs : List Kid) (num : Int) (pt : Option V), σ' = [some (VS L), some v, some (.ref p0), some (.int num), pt] ∧ Ex H1 H' ∧ H' p0 = some (.lst (cs.map (·.1))) ∧ (∀ p ∈ cs, SenAt L H1 n p.1 p.2.1 p.2.2) ∧ m = (cs.map (·.2.2)).sum ∧ num + m ≤ 20 ∧ 0 ≤ num ∧ cs.length ≤ m) k ?_ ?_)
  · exact ⟨[(v, g, k)], 0, none, rfl, Ex.new hp0, upd_same, (fun p hp => by rw [List.mem_singleton.mp hp]; exact hS1), by simp, by omega, by omega, by
      obtain ⟨_, _, _, _, _, _, _, _, _, e⟩ := hS1.kids
      simp only [List.length_cons, List.length_nil]
      omega⟩
  · rintro m σ' H2 ⟨cs, num, pt, rfl, ex2, hp2, hcs, hm, hnum, hnum0, hlen⟩
    obtain ⟨ds, e1, e2, e3⟩ := dp_exists (K := K) (H := H2) (n + 1) (fun q : Kid => q.1) cs fun q hq' => ((hcs q hq').mono ex2).data gl
    refine t_ne_nil hr (w_var 2 rfl ⟨p0, _, ds, n + 1, rfl, SqL.of hp2, e1, e2, by omega, by rw [e3, List.length_map], fun H3 ex3 => ?_⟩)
    obtain rfl | ⟨ini, last, rfl⟩ : cs = [] ∨ ∃ ini last, cs = ini ++ [last] := (List.eq_nil_or_concat cs).imp id fun ⟨i, l, e⟩ => ⟨i, l, by rw [e, List.concat_eq_append]⟩
    · exact ite_no rfl (hq _ (ex1.trans (ex2.trans ex3)))
    refine ite_yes (by simp) ?_
    have hl := hcs last (by simp)
    obtain ⟨a, wd, rest, kids, ev, ha, hr16, hw, hkids, hkk⟩ := hl.kids
    have ex13 : Ex H1 H3 := ex2.trans ex3
    have hp3 : H3 p0 = some (.lst ((ini ++ [last]).map (·.1))) := ex3 _ _ (by simpa using hp2)
    have hsum : m = (ini.map (·.2.2)).sum + last.2.2 := by
      rw [hm]
      simp
    refine b_cons (s_set 4 scCheck.nd (w_bm0 (T := "list") PySem.F.plainAttrs_list PySem.F.slot_list_pop PySem.F.type_list_pop mt_pop (w_var 2 rfl ⟨Or.inl ⟨rfl, _, sq_of hp3⟩, p0, _, last.1, rfl, rfl, hp3, by simp, ?_⟩)))
    have ex4 : Ex H1 (upd H3 p0 (.lst (((ini ++ [last]).map (·.1)).dropLast))) := ex13.mut hp0
    have hdl : ((ini ++ [last]).map (·.1)).dropLast = ini.map (·.1) := by simp
    rw [hdl] at ex4 ⊢
    obtain ⟨t, ht⟩ := B.mostParts
    refine b_cons (s_if (t_or (u_or (t_cmp op_ge (w_var 3 rfl (w_glob (v := .int 20) ht ⟨t, rfl⟩ ⟨num, 20, rfl, rfl, _, rfl, ite_no (decide_eq_false (by omega)) ?_⟩)) (nomark _)))))
    refine u_or1 (t_not (t_val (w_call GP hr (by decide) (a_cons (w_var 0 rfl (a_cons (w_var 4 rfl (a_nil ⟨L, last.1, n, last.2.1, last.2.2, rfl, gl, hl.mono ex4, fun H5 ex5 => ⟨_, rfl, ite_no rfl (b_nil ?_)⟩⟩))))))))
    have ha5 : H5 a = some (.tup (.str wd :: rest)) := ex5 _ _ (ex4 _ _ ha)
    have hp5 : H5 p0 = some (.lst (ini.map (·.1))) := ex5 _ _ upd_same
    refine b_cons (s_expr (w_bm (T := "list") PySem.F.plainAttrs_list PySem.F.slot_list_extend PySem.F.type_list_extend mt_extend (w_var 2 rfl ⟨Or.inl ⟨rfl, _, sq_of hp5⟩, a_cons (w_revL (w_call GI hr (by decide) (a_cons (w_var 4 rfl (a_nil ⟨a, wd, rest, by rw [ev], ha5, fun p6 H6 hp6 ex6 h6 => ⟨p6, _, rfl, SqL.of h6, fun p7 hp7 => a_nil ?_⟩⟩)))))⟩)))
    have ex7 : Ex H5 (upd H6 p7 (.lst (if isWord wd = true then rest else []).reverse)) := ex6.trans (Ex.new hp7)
    have hsz : (ini ++ [last]).length ≤ 20 := by omega
    have hkl : kids.length ≤ 16 := by
      have z := congrArg List.length hw
      rw [List.length_map] at z
      rw [← z]
      split
      · exact hr16
      · exact Nat.zero_le _
    rw [List.length_append, List.length_singleton] at hsz
    refine ⟨p0, p7, _, _, rfl, rfl, ex7 _ _ hp5, upd_same, ?_, ?_⟩
    · rw [List.length_reverse, hw, List.length_map, List.length_map]
      exact small_line (by omega)
    · refine b_one (s_aug 3 scCheck.nd ip_add ⟨.int num, rfl, w_int ⟨num, 1, rfl, rfl, (ini.map (·.2.2)).sum + (kids.map (·.2.2)).sum, by omega, ini ++ kids.reverse, num + 1, _, rfl, ((ex4.trans ex5).trans ex7).mut hp0, ?_, ?_, ?_, by omega, by omega, ?_⟩⟩)
      · rw [upd_same, hw]
        simp
      · intro p hp
        rcases List.mem_append.mp hp with hp | hp
        · exact hcs p (List.mem_append_left _ hp)
        · exact hkids p (List.mem_reverse.mp hp)
      · simp [List.sum_reverse]
      · have l1 : ∀ zs : List Kid, (∀ p ∈ zs, 1 ≤ p.2.2) → zs.length ≤ (zs.map (·.2.2)).sum := by
          intro zs
          induction zs with
          | nil => intro _; exact Nat.le_refl _
          | cons z r ih =>
            intro h
            have := ih fun p hp => h p (List.mem_cons_of_mem _ hp)
            have := h z List.mem_cons_self
            simp only [List.length_cons, List.map_cons, List.sum_cons]
            omega
        have one : ∀ {v g k}, SenAt L H1 n v g k → 1 ≤ k := fun {v g k} h => by
          obtain ⟨_, _, _, _, _, _, _, _, _, e⟩ := h.kids
          omega
        have a1 := l1 ini fun p hp => one (hcs p (List.mem_append_left _ hp))
        have a2 := l1 kids fun p hp => one (hkids p hp)
        rw [List.length_append, List.length_reverse]
        omega
end
end RG

end

section
set_option Elab.async false
set_option linter.all false
set_option maxRecDepth 100000
set_option maxHeartbeats 4000000
namespace RG
open PySem L2 Evl
/-! ## classes: rules -/
theorem raw0 {P : Program} {w : World} {K : PySem.W.Frag} {mg : Str → Option Value} {base : Heap} {CX : CXT} {k : Nat} {f : Addr} {fd : FuncData} {ps : List Str} {sp : Sp} (F : FnOk P w K mg base CX k f fd ps sp) (hb : Binds K fd ps []) : FnR P w K mg base CX k f sp := by
  have z := F.raw (dvs := []) hb .nil
  have e : (fun (vs : List V) (H : Hp) (Q : VK) (E : XK) => sp (vs ++ []) H Q E) = sp := by
    funext vs H Q E
    rw [List.append_nil]
  rwa [e] at z
/-- a method | a property | __call__ | a class that is made -/
structure Gm (P : Program) (w : World) (K : PySem.W.Frag) (mg : Str → Option Value) (base : Heap) (C : Addr) (m : Str) (k : Nat) (f : Addr) (fd : FuncData) (ps : List Str) (sp : Sp) : Prop where
  ok : FnOk P w K mg base CX0 k f fd ps sp
  mt : Meth K C m f
  bd : Binds K fd ps []
structure Gp (P : Program) (w : World) (K : PySem.W.Frag) (mg : Str → Option Value) (base : Heap) (C : Addr) (m : Str) (k : Nat) (p f : Addr) (fd : FuncData) (ps : List Str) (sp : Sp) : Prop where
  ok : FnOk P w K mg base CX0 k f fd ps sp
  pr : PropOf K C m p f
  bd : Binds K fd ps []
structure Gc (P : Program) (w : World) (K : PySem.W.Frag) (mg : Str → Option Value) (base : Heap) (C : Addr) (k : Nat) (f : Addr) (fd : FuncData) (ps : List Str) (sp : Sp) : Prop where
  ok : FnOk P w K mg base CX0 k f fd ps sp
  co : StX.CallO K C f
  bd : Binds K fd ps []
structure Gk (P : Program) (w : World) (K : PySem.W.Frag) (mg : Str → Option Value) (base : Heap) (x : Str) (C : Addr) (k : Nat) (f : Addr) (fd : FuncData) (ps : List Str) (sp : Sp) : Prop where
  ok : FnOk P w K mg base CX0 k f fd ps sp
  mk_ : Mk K C f
  gm : mg x = some (.ref C)
  bd : Binds K fd ps []
theorem wA_mono {X : Cx} {es : List Expr} {σ : L2.St} {H : Hp} {Q Q' : List V → Hp → Prop} (h : wA X es σ H Q) (k : ∀ v H', Q v H' → Q' v H') : wA X es σ H Q' := by
  obtain ⟨t, ht, q⟩ := h
  refine ⟨fun σ' H' R => ∃ Q1 : List V → Hp → Prop, t σ' H' Q1 ∧ ∀ v H', Q1 v H' → R v H', ⟨fun pos pins s σ' H' R I ⟨Q1, q1, k1⟩ => ?_⟩, Q, q, k⟩
  refine thn (ht.run pos pins s σ' H' Q1 I q1) fun u s' ⟨v, H2, I2, r, z⟩ => ⟨v, H2, I2, r, k1 _ _ z⟩
section
variable {X : Cx} {σ : L2.St} {H : Hp} {Q : VK} {o e fe : Expr} {es : List Expr} {pos p apos : Pos} {j k : Nat} {C f pr : Addr} {fd : FuncData} {ps : List Str} {sp : Sp} {m x : Str}
theorem w_meth {pl : Sem Bool} (G : Gm X.prog X.w X.K X.mg X.base C m j f fd ps sp) (c : Cls X.K C) (hr : Room k X.A) (hj : j ≤ k)
    (q : wE X o σ H fun x H1 => ∃ a dx fs, x = .ref a ∧ H1 a = some (.ins C dx fs) ∧ fs.lookup m = none ∧ wA X (e :: es) σ H1 fun vs H2 => sp (x :: vs) H2 Q E0)
    (hst : starEach (e :: es) X.env = (false, eval e X.env) :: starEach es X.env := by rfl) (hpl : (backTo pos (starEach es X.env)).any (·.1) = false := by rfl)
    (ht : eval (.Call (.Attribute o m apos) (e :: es) [] pos) X.env = (do
      let ov ← eval o X.env
      standAt apos.atName
      let (f, first) ← holding [ov] (getMethod ov m pl)
      callWith pos f first (backTo pos (starEach (e :: es) X.env)) (backToKw pos (keywordEach [] X.env))) := by rfl) :
    wE X (.Call (.Attribute o m apos) (e :: es) [] pos) σ H Q :=
  ⟨_, pe_meth pe_w c G.mt G.ok (hr.mono hj) G.bd .nil pass0 pa_w hst hpl ht, wE_mono q fun x H1 ⟨a, dx, fs, e1, e2, e3, q1⟩ => ⟨a, dx, fs, e1, e2, e3, by
    obtain ⟨t, ht, h⟩ := q1
    refine ⟨t, ht, ?_⟩
    have z : (fun (vs : List V) (H1 : Hp) => sp (x :: (vs ++ [])) H1 Q E0) = fun vs H1 => sp (x :: vs) H1 Q E0 := by
      funext vs H1
      rw [List.append_nil]
    rw [z]
    exact h⟩⟩
theorem w_meth0 {pl : Sem Bool} (G : Gm X.prog X.w X.K X.mg X.base C m j f fd ps sp) (c : Cls X.K C) (hr : Room k X.A) (hj : j ≤ k)
    (q : wE X o σ H fun x H1 => ∃ a dx fs, x = .ref a ∧ H1 a = some (.ins C dx fs) ∧ fs.lookup m = none ∧ sp [x] H1 Q E0)
    (ht : eval (.Call (.Attribute o m apos) [] [] pos) X.env = (do
      let ov ← eval o X.env
      standAt apos.atName
      let (f, first) ← holding [ov] (getMethod ov m pl)
      callWith pos f first (backTo pos (starEach [] X.env)) (backToKw pos (keywordEach [] X.env))) := by rfl) :
    wE X (.Call (.Attribute o m apos) [] [] pos) σ H Q :=
  ⟨_, pe_meth0 pe_w c G.mt G.ok (hr.mono hj) G.bd .nil pass0 ht, wE_mono q fun x H1 ⟨a, dx, fs, e1, e2, e3, q1⟩ => ⟨a, dx, fs, e1, e2, e3, q1⟩⟩
theorem w_prop (G : Gp X.prog X.w X.K X.mg X.base C m j pr f fd ps sp) (c : Cls X.K C) (hr : Room k X.A) (hj : j + 1 ≤ k)
    (q : wE X e σ H fun x H1 => ∃ a dx fs, x = .ref a ∧ H1 a = some (.ins C dx fs) ∧ sp [.ref a] H1 Q E0)
    (hab : attributeBase e m X.env (eval e X.env) = eval e X.env := by rfl) : wE X (.Attribute e m pos) σ H Q :=
  ⟨_, pe_prop pe_w c G.pr G.ok (hr.mono hj) G.bd .nil pass0 hab, q⟩
theorem w_callO (G : Gc X.prog X.w X.K X.mg X.base C j f fd ps sp) (hr : Room k X.A) (hj : j ≤ k)
    (q : wE X fe σ H fun y H1 => ∃ a, y = .ref a ∧ wA X (e :: es) σ H1 fun vs H2 => (∃ dx fs, H2 a = some (.ins C dx fs)) ∧ sp (.ref a :: vs) H2 Q E0)
    (ht : eval (.Call fe (e :: es) [] pos) X.env = (do callWith pos (← eval fe X.env) [] (backTo pos (starEach (e :: es) X.env)) (backToKw pos (keywordEach [] X.env))) := by rfl)
    (he : starEach (e :: es) X.env = (false, eval e X.env) :: starEach es X.env := by rfl) (hpl : (backTo pos (starEach es X.env)).any (·.1) = false := by rfl) : wE X (.Call fe (e :: es) [] pos) σ H Q :=
  ⟨_, StX.pe_callO pe_w G.co (raw0 G.ok G.bd) (hr.mono hj) pass0 pa_w ht he hpl, wE_mono q fun y H1 ⟨a, ey, h⟩ => ⟨a, ey, wA_mono h fun vs H2 ⟨i, z⟩ => ⟨.inr i, z⟩⟩⟩
/-- o.m(e, ..), m a field that holds an instance of C, C with __call__ -/
theorem w_fldCallO {pl : Sem Bool} (G : Gc X.prog X.w X.K X.mg X.base C j f fd ps sp) (hr : Room k X.A) (hj : j ≤ k)
    (q : wE X o σ H fun x H1 => ∃ a D dx fs b, x = .ref a ∧ H1 a = some (.ins D dx fs) ∧ Cls X.K D ∧ NoAttr X.K D m ∧ fs.lookup m = some (V.ref b) ∧ wA X (e :: es) σ H1 fun vs H2 => (∃ dx fs, H2 b = some (.ins C dx fs)) ∧ sp (.ref b :: vs) H2 Q E0)
    (hst : starEach (e :: es) X.env = (false, eval e X.env) :: starEach es X.env := by rfl) (hpl : (backTo pos (starEach es X.env)).any (·.1) = false := by rfl)
    (ht : eval (.Call (.Attribute o m apos) (e :: es) [] pos) X.env = (do
      let ov ← eval o X.env
      standAt apos.atName
      let (f, first) ← holding [ov] (getMethod ov m pl)
      callWith pos f first (backTo pos (starEach (e :: es) X.env)) (backToKw pos (keywordEach [] X.env))) := by rfl) :
    wE X (.Call (.Attribute o m apos) (e :: es) [] pos) σ H Q := by
  refine ⟨fun σ H Q => wE X o σ H fun x H1 => ∃ a D dx fs b, x = .ref a ∧ H1 a = some (.ins D dx fs) ∧ Cls X.K D ∧ NoAttr X.K D m ∧ fs.lookup m = some (V.ref b) ∧ wA X (e :: es) σ H1 fun vs H2 => (∃ dx fs, H2 b = some (.ins C dx fs)) ∧ sp (.ref b :: vs) H2 Q E0, ⟨fun pins s σ H Q I h => ?_⟩, q⟩
  refine PySem.W.methodCall_KW (pl := pl) (thn (pe_w.run pins s σ H _ I h) fun u s1 ⟨x, H1, I1, rx, a, D, dx, fs, b, ex, ea, c, n, l, q⟩ => ?_) ht
  subst ex
  obtain rfl : u = Value.ref a := rx
  obtain ⟨mA, O, _⟩ := ins_get I1.hok ea
  obtain ⟨od, J, hl⟩ := O.look
  refine PySem.W.method_usual (r := none) I1.kIn J (PySem.W.plainGet_of (c.get m)).1 (PySem.W.plainGet_of (c.get m)).2 n rfl ?_
  refine getattr_ok I1 ea c n l fun u s2 I2 ru => ?_
  obtain rfl : u = Value.ref b := ru
  refine StX.callO_with (thn (pa_w.run pos pins s2 σ H1 _ I2 q) fun us s3 ⟨vs, H3, I3, r, hi, q3⟩ => ?_) hst hpl
  obtain ⟨ox, od, J, hd⟩ := StX.insC_at I3 (.inr hi)
  exact ⟨⟨C, ox, od, J, hd⟩, StX.run_callO G.co (raw0 G.ok G.bd) (hr.mono hj) pass0 I3 (.inr hi) r q3⟩
/-- C(e, ..) -/
theorem w_make (G : Gk X.prog X.w X.K X.mg X.base x C j f fd ps sp) (hr : Room k X.A) (hj : j + 1 ≤ k)
    (q : wA X (e :: es) σ H fun vs H1 => ∀ y dy, H1 y = none → H1 dy = none → dy ≠ y → sp (.ref y :: vs) (upd (upd H1 dy (.own y)) y (.ins C dy [])) (fun v H2 => v = .non ∧ Q (.ref y) H2) E0)
    (hg : Gl X x := by rfl) (hdb : (x == ("__debug__" : Str)) = false := by decide) (he : starEach (e :: es) X.env = (false, eval e X.env) :: starEach es X.env := by rfl) (hpl : (backTo pos (starEach es X.env)).any (·.1) = false := by rfl) :
    wE X (.Call (.Name x p) (e :: es) [] pos) σ H Q :=
  ⟨_, pe_make G.mk_ G.ok (hr.mono hj) hg G.gm G.bd .nil pass0 pa_w hdb he hpl, wA_mono q fun vs H1 h y dy h1 h2 h3 => by
    rw [List.append_nil]
    exact h y dy h1 h2 h3⟩
end
/-! ## what stays but for one object -/
def ExB (x : Addr) (H H' : Hp) : Prop := ∀ a o, a ≠ x → H a = some o → H' a = some o
theorem ExB.of {x : Addr} {H H' : Hp} (e : Ex H H') : ExB x H H' := fun a o _ h => e a o h
theorem ExB.trans {x : Addr} {H H1 H2 : Hp} (a : ExB x H H1) (b : ExB x H1 H2) : ExB x H H2 := fun y o n h => b y o n (a y o n h)
theorem ExB.put {x : Addr} {H : Hp} {o : HO} : ExB x H (upd H x o) := fun a u n h => by rw [upd_ne n]; exact h
theorem ExB.ex {x : Addr} {H H' : Hp} (e : ExB x H H') {H0 : Hp} (h : Ex H0 H) (n : H0 x = none) : Ex H0 H' := fun a o z => e a o (fun q => by rw [q, n] at z; cases z) (h a o z)
theorem SenLeaf.bmono {L : Wd} {H H' : Hp} {x a C dx : Addr} {fs} {f : Wd → Bool} (e : ExB x H H') (hx : H x = some (.ins C dx fs)) (h : SenLeaf L H a f) : SenLeaf L H' a f := by
  have t : ∀ {b xs}, H b = some (.tup xs) → H' b = some (.tup xs) := fun {b xs} hb => e b _ (fun q => by rw [q, hx] at hb; cases hb) hb
  rcases h with ⟨c, h1, h2, h3⟩ | ⟨i, s, h1, h2, h3, h4, h5⟩ | ⟨ss, h1, h2, h3, h4⟩
  · exact .inl ⟨c, h1, t h2, h3⟩
  · exact .inr (.inl ⟨i, s, h1, h2, h3, t h4, h5⟩)
  · exact .inr (.inr ⟨ss, h1, h2, t h3, h4⟩)
theorem SenAt.bmono {L : Wd} {H H' : Hp} {x C dx : Addr} {fs} (e : ExB x H H') (hx : H x = some (.ins C dx fs)) : ∀ {n : Nat} {v : V} {f : Wd → Bool} {k : Nat}, SenAt L H n v f k → SenAt L H' n v f k
  | 0, v, f, k, ⟨a, ev, h, hk⟩ => ⟨a, ev, h.bmono e hx, hk⟩
  | n + 1, v, f, k, ⟨a, ev, h⟩ => by
    have t : ∀ {b xs}, H b = some (.tup xs) → H' b = some (.tup xs) := fun {b xs} hb => e b _ (fun q => by rw [q, hx] at hb; cases hb) hb
    refine ⟨a, ev, ?_⟩
    rcases h with ⟨h, hk⟩ | ⟨w, g, j, h1, h2, h3, h4⟩ | ⟨b, ps, h1, h2, h3, h4, h5, h6⟩
    · exact .inl ⟨h.bmono e hx, hk⟩
    · exact .inr (.inl ⟨w, g, j, t h1, h2.bmono e hx, h3, h4⟩)
    · exact .inr (.inr ⟨b, ps, t h1, h2, h3, fun p hp => (h4 p hp).bmono e hx, h5, h6⟩)
/-! ## Goal -/
structure GoalC (K : PySem.W.Frag) (CG : Addr) : Prop where
  cls : Cls K CG
  na1 : NoAttr K CG "own_lamps"
  na2 : NoAttr K CG "own_sentence"
  na3 : NoAttr K CG "own_sets"
def GoalAt (CG : Addr) (L : Wd) (O : List Wd) (H : Hp) (g : Addr) : Prop := ∃ dx fs st, H g = some (.ins CG dx fs) ∧ fs.lookup ("own_lamps" : Str) = some (VS L) ∧ fs.lookup ("own_sets" : Str) = some (V.ref st) ∧ H st = some (.tup (O.map VS))
theorem GoalAt.ex {CG : Addr} {L : Wd} {O : List Wd} {H H' : Hp} {g : Addr} (e : Ex H H') (h : GoalAt CG L O H g) : GoalAt CG L O H' g := by
  obtain ⟨dx, fs, st, h1, h2, h3, h4⟩ := h
  exact ⟨dx, fs, st, e _ _ h1, h2, h3, e _ _ h4⟩
theorem GoalAt.ins {CG : Addr} {L : Wd} {O : List Wd} {H : Hp} {g : Addr} (h : GoalAt CG L O H g) : ∃ dx fs, H g = some (.ins CG dx fs) := by
  obtain ⟨dx, fs, st, h1, h2, h3, h4⟩ := h
  exact ⟨dx, fs, h1⟩
section
variable {P : Program} {w : World} {K : PySem.W.Frag} {mg : Str → Option Value} {base : Heap} {CG : Addr}
abbrev sGoalInit : Stmt := inClass (top 32) 0
abbrev sGoalLamps : Stmt := inClass (top 32) 2
abbrev sGoalCall : Stmt := inClass (top 32) 5
abbrev sGoalInv : Stmt := inClass (top 32) 9
abbrev sHoldsG : Stmt := top 33
def spGoalInit (CG : Addr) : Sp := fun vs H Q _ => ∃ (x dx : Addr) (L : Wd) (v : V) (f : Wd → Bool) (k : Nat), vs = [.ref x, VS L, v] ∧ GoodL L ∧ SenAt L H 2 v f k ∧ k ≤ 20 ∧ H x = some (.ins CG dx []) ∧ ∀ H', ExB x H H' → GoalAt CG L ((setsOf L).filter f) H' x → Q .non H'
abbrev nGoalInit : List Str := ["self", "lamps", "sentence", "lit"]
theorem scGoalInit : FnScope nGoalInit ["self", "lamps", "sentence"] (defScope sGoalInit) := ⟨rfl, rfl, rfl, by decide +kernel, rfl, by decide +kernel, by decide +kernel⟩
theorem ok_goal_init {f g1 g2 g3 : Addr} {fd gd1 gd2 gd3 : FuncData} (F : Fun K "__init__" "Goal.__init__" sGoalInit f fd) (B : Bt mg) (C : GoalC K CG) (GC : Gv P w K mg base "check_sentence" 4 g1 gd1 ["lamps", "value"] spCheck)
    (GS : Gv P w K mg base "sets_of" 3 g2 gd2 ["lamps"] spSetsOf) (GH : Gv P w K mg base "holds_for" 3 g3 gd3 ["sentence", "lit"] (spHolds 2)) : FnOk P w K mg base CX0 5 f fd ["self", "lamps", "sentence"] (spGoalInit CG) := by
  refine F.ok scGoalInit (fun vs H Q E h => ?_) (fun cdv A outer s H vs Q E hr h => ?_)
  · obtain ⟨x, dx, L, v, g, k, rfl, _⟩ := h
    rfl
  obtain ⟨x, dx, L, v, g, k, rfl, gl, hS, hk, hx, hq⟩ := h
  refine b_cons (s_expr (w_call GC hr (by decide) (a_cons (w_var 1 rfl (a_cons (w_var 2 rfl (a_nil ⟨L, v, 2, g, k, rfl, gl, hS, by decide, hk, fun H1 ex1 => ?_⟩)))))))
  refine b_cons (s_fld (w_var 1 rfl (w_var 0 rfl ⟨x, CG, dx, [], rfl, ex1 _ _ hx, C.cls, C.na1, by decide, ?_⟩)))
  refine b_cons (s_fld (w_var 2 rfl (w_var 0 rfl ⟨x, CG, dx, _, rfl, upd_same, C.cls, C.na2, by show 1 < 1000; decide, ?_⟩)))
  have eb : ExB x H (upd (upd H1 x (.ins CG dx (putF "own_lamps" (VS L) []))) x (.ins CG dx (putF "own_sentence" v (putF "own_lamps" (VS L) [])))) := (ExB.of ex1).trans (ExB.put.trans ExB.put)
  generalize hH2 : upd (upd H1 x (.ins CG dx (putF "own_lamps" (VS L) []))) x (.ins CG dx (putF "own_sentence" v (putF "own_lamps" (VS L) []))) = H2 at eb
  have hx2 : H2 x = some (.ins CG dx (putF "own_sentence" v (putF "own_lamps" (VS L) []))) := by rw [← hH2, upd_same]
  have hS2 : SenAt L H2 2 v g k := hS.bmono eb hx
  refine b_one (s_fld (w_callTy call_tuple_of B.tuple (by decide +kernel) (a_cons (w_lcL 3 scGoalInit.nd (blkOk_by (N := nGoalInit) (sc := defScope sGoalInit) (by decide +kernel)) (w_call GS hr (by decide) (a_cons (w_var 1 rfl (a_nil ⟨L, rfl, gl.len.2, fun p3 H3 hp3 ex3 h3 => ⟨p3, _, rfl, SqL.of h3, ?_⟩⟩))))))))
  refine lcFil (setsOf L) VS g (small_lt (by have := len_setsOf4 gl.len.2; omega)) (fun z hz H' ex R kk => ?_) (fun z H' R q s0 H0 C cl fp => w_var 3 rfl q) (fun p4 H4 hp4 ex4 h4 => ?_)
  · intro s0 H0 C0 cl fp
    have := mem_len4 gl hz
    exact t_val (w_call GH hr (by decide) (a_cons (w_var 2 rfl (a_cons (w_var 3 rfl (a_nil ⟨L, v, g, k, z, rfl, (hS2.mono ex3).mono ex, gl.len.2, by omega, fun H5 ex5 => ⟨_, rfl, kk _ ex5⟩⟩))))))
  · refine a_nil ⟨p4, _, rfl, .inl ⟨SqL.of h4, fun p5 hp5 => ?_⟩⟩
    have ex25 : Ex H2 (upd H4 p5 (.tup (((setsOf L).filter g).map VS))) := (ex3.trans ex4).trans (Ex.new hp5)
    refine w_var 0 rfl ⟨x, CG, dx, _, rfl, ex25 _ _ hx2, C.cls, C.na3, by show 2 < 1000; decide, ?_⟩
    have np : p5 ≠ x := fun e => by
      have := (ex3.trans ex4) _ _ hx2
      rw [← e, hp5] at this
      cases this
    refine hq _ (eb.trans ((ExB.of ex25).trans ExB.put)) ⟨dx, _, p5, upd_same, rfl, rfl, ?_⟩
    rw [upd_ne np, upd_same]
/-! ### lamps, holds, __call__ -/
def spGoalLamps (CG : Addr) : Sp := fun vs H Q _ => ∃ (a : Addr) (L : Wd) (O : List Wd), vs = [.ref a] ∧ GoalAt CG L O H a ∧ Q (VS L) H
theorem scGoalLamps : FnScope ["self"] ["self"] (defScope sGoalLamps) := ⟨rfl, rfl, rfl, by decide +kernel, rfl, by decide +kernel, by decide +kernel⟩
theorem ok_goal_lamps {f : Addr} {fd : FuncData} (F : Fun K "lamps" "Goal.lamps" sGoalLamps f fd) (C : GoalC K CG) : FnOk P w K mg base CX0 1 f fd ["self"] (spGoalLamps CG) := by
  refine F.ok scGoalLamps (fun vs H Q E h => ?_) (fun cdv A outer s H vs Q E hr h => ?_)
  · obtain ⟨a, L, O, rfl, _⟩ := h
    rfl
  obtain ⟨a, L, O, rfl, ⟨dx, fs, st, h1, h2, h3, h4⟩, k⟩ := h
  exact b_one (s_ret (w_fld (w_var 0 rfl ⟨a, CG, dx, fs, _, rfl, h1, C.cls, C.na1, h2, k⟩)))
def spHoldsG (CG : Addr) : Sp := fun vs H Q _ => ∃ (a : Addr) (L : Wd) (O : List Wd) (z : Wd), vs = [.ref a, VS z] ∧ GoalAt CG L O H a ∧ GoodL L ∧ z ∈ setsOf L ∧ ∀ H', Ex H H' → Q (.bl (O.contains z)) H'
theorem scHoldsG : FnScope ["goal", "kept"] ["goal", "kept"] (defScope sHoldsG) := ⟨rfl, rfl, rfl, by decide +kernel, rfl, by decide +kernel, by decide +kernel⟩
theorem ok_holds {f g1 g2 p2 : Addr} {fd gd1 gd2 : FuncData} (F : Fun K "holds" "holds" sHoldsG f fd) (C : GoalC K CG) (GS : Gv P w K mg base "is_set" 2 g1 gd1 ["value", "lamps"] spIsSet) (GL : Gp P w K mg base CG "lamps" 1 p2 g2 gd2 ["self"] (spGoalLamps CG)) :
    FnOk P w K mg base CX0 3 f fd ["goal", "kept"] (spHoldsG CG) := by
  refine F.ok scHoldsG (fun vs H Q E h => ?_) (fun cdv A outer s H vs Q E hr h => ?_)
  · obtain ⟨a, L, O, z, rfl, _⟩ := h
    rfl
  obtain ⟨a, L, O, z, rfl, hG, gl, hz, k⟩ := h
  obtain ⟨dx, fs, h1⟩ := hG.ins
  have := mem_len4 gl hz
  refine b_cons (s_if (t_not (t_val (w_call GS hr (by decide) (a_cons (w_var 1 rfl (a_cons (w_prop GL C.cls hr (by decide) (w_var 0 rfl ⟨a, dx, fs, rfl, h1, a, L, O, rfl, hG, a_nil ⟨z, L, rfl, by omega, fun H1 ex1 => ⟨_, rfl, ite_no (by rw [gl.sets _ hz]; rfl) (b_nil ?_)⟩⟩⟩)))))))))
  obtain ⟨dx', fs', st, e1, e2, e3, e4⟩ := hG.ex ex1
  refine b_one (s_ret (w_cmp op_in_seq (w_var 1 rfl (w_fld (w_var 0 rfl ⟨a, CG, dx', fs', _, rfl, e1, C.cls, C.na3, e3, st, _, rfl, .inr (SqT.of e4), rfl, flat_words O, ?_⟩)))))
  rw [if_neg Bool.false_ne_true, inV_words]
  exact k _ ex1
theorem scGoalCall : FnScope ["self", "kept"] ["self", "kept"] (defScope sGoalCall) := ⟨rfl, rfl, rfl, by decide +kernel, rfl, by decide +kernel, by decide +kernel⟩
theorem ok_goal_call {f g1 : Addr} {fd gd1 : FuncData} (F : Fun K "__call__" "Goal.__call__" sGoalCall f fd) (GH : Gv P w K mg base "holds" 3 g1 gd1 ["goal", "kept"] (spHoldsG CG)) : FnOk P w K mg base CX0 4 f fd ["self", "kept"] (spHoldsG CG) := by
  refine F.ok scGoalCall (fun vs H Q E h => ?_) (fun cdv A outer s H vs Q E hr h => ?_)
  · obtain ⟨a, L, O, z, rfl, _⟩ := h
    rfl
  obtain ⟨a, L, O, z, rfl, hG, gl, hz, k⟩ := h
  exact b_one (s_ret (w_call GH hr (by decide) (a_cons (w_var 0 rfl (a_cons (w_var 1 rfl (a_nil ⟨a, L, O, z, rfl, hG, gl, hz, k⟩)))))))
end
end RG

end

section
set_option Elab.async false
set_option linter.all false
set_option maxRecDepth 100000
set_option maxHeartbeats 4000000
namespace RG
open PySem L2 Evl PySem.Spec PyProof.Rows
/-! ## a staticmethod with *sets, called C.m(e, *xs); ~goal -/
structure SmIn (K : PySem.W.Frag) (C : Addr) (m : Str) (p g : Addr) : Prop where
  rd : PySem.W.readsIn K C (.type "type") = true
  at_ : PySem.W.findCls K (.ref C) (.type "type") m = some (.get (.builtin "staticmethod.__get__") (.ref p) .none (.ref C))
  rc : ∃ rest, PySem.W.recIn K p "staticmethod" = some (.ref g :: rest)
  kp : PySem.W.keepIn K (.ref g) = true
structure Gs (P : Program) (w : World) (K : PySem.W.Frag) (mg : Str → Option Value) (base : Heap) (x : Str) (C : Addr) (m : Str) (k : Nat) (p f : Addr) (sp : Sp) : Prop where
  ok : FnR P w K mg base CX0 k f sp
  sm : SmIn K C m p f
  gm : mg x = some (.ref C)
theorem w_smStar {X : Cx} {σ : L2.St} {H : Hp} {Q : VK} {e1 e2 : Expr} {pos p apos ps : Pos} {j k : Nat} {C f pr : Addr} {sp : Sp} {m x : Str} (G : Gs X.prog X.w X.K X.mg X.base x C m j pr f sp) (hr : Room k X.A) (hj : j ≤ k)
    (q : wE X e1 σ H fun y1 H2 => wE X e2 σ H2 fun y2 H3 => ∃ b vs, y2 = .ref b ∧ (SqT X.K H3 b vs ∨ SqL X.K H3 b vs) ∧ sp (y1 :: vs) H3 Q E0)
    (hg : Gl X x := by rfl) (hdb : (x == ("__debug__" : Str)) = false := by decide)
    (hbase : attributeBase (.Name x p) m X.env (eval (.Name x p) X.env) = eval (.Name x p) X.env := by rfl)
    (hst : starEach [e1, .Starred e2 ps] X.env = [(false, eval e1 X.env), (true, eval e2 X.env)] := by rfl) : wE X (.Call (.Attribute (.Name x p) m apos) [e1, .Starred e2 ps] [] pos) σ H Q := by
  refine ⟨fun σ H Q => wE X e1 σ H fun y1 H2 => wE X e2 σ H2 fun y2 H3 => ∃ b vs, y2 = .ref b ∧ (SqT X.K H3 b vs ∨ SqL X.K H3 b vs) ∧ sp (y1 :: vs) H3 Q E0, ⟨fun pins s σ H Q I h => ?_⟩, q⟩
  obtain ⟨rest, hp⟩ := G.sm.rc
  have hC : PE X (.Name x p) (tC (V.ref C)) := pe_glob hg G.gm rfl hdb
  refine starcall2_of hbase hst (thn (hC.run pins s σ H (fun v H1 => v = .ref C ∧ H1 = H) I ⟨rfl, rfl⟩) fun u s1 ⟨xv, H1, I1, rx, ex, eH⟩ => ?_)
  subst ex eH
  obtain rfl : u = Value.ref C := rx
  refine PySem.W.cls_bind I1.kIn G.sm.rd G.sm.at_ ?_
  refine wpAny_call (PySem.W.sm_get (s := { s1 with toks := s1.toks + 1 }) I1.kIn hp (PySem.W.handed_on rfl ?_))
  have I2 : Inv X pins σ H1 { s1 with toks := s1.toks + 1 } := I1.tok _
  refine PySem.W.ks_call (P := fun h => X.K.In h) rfl (fun h hK => ?_) (Calls.evalArgs_plain (Calls.spliced_cons (thn (pe_w.run pins _ σ _ _ I2 h) fun v1 s3 ⟨y1, H2, I3, ry1, q2⟩ =>
    PySem.W.ks_spliced (thn (pe_w.run pins s3 σ H2 _ I3 q2) fun v2 s4 ⟨y2, H3, I4, ry2, t, vs, ey, ht, hsp⟩ => ?_))))
  · obtain ⟨kk, h1, h2⟩ := PySem.W.looks_keep (M := model X.prog X.w) G.sm.kp hK
    exact ⟨kk, h1.imp id .inl, h2⟩
  · subst ey
    obtain rfl : v2 = Value.ref t := ry2
    refine StX.star_any I4 ht fun us s5 I5 rv => Calls.spliced_nil ?_
    show X.K.In s5.heap ∧ wpAny (model X.prog X.w) X.A (call (.ref f) (v1 :: (us ++ [])) []) (EP X pins σ Q) X.xe s5
    rw [List.append_nil]
    exact ⟨I5.kIn, wpAny_call (run_fnR (us := v1 :: us) (vs := y1 :: vs) G.ok (hr.mono hj) pass0 I5 (.cons ry1 rv) hsp)⟩
/-- ~x -/
structure Gi (P : Program) (w : World) (K : PySem.W.Frag) (mg : Str → Option Value) (base : Heap) (C : Addr) (k : Nat) (f : Addr) (fd : FuncData) (ps : List Str) (sp : Sp) : Prop where
  ok : FnOk P w K mg base CX0 k f fd ps sp
  at_ : PySem.W.findIn K (.ref C) "__invert__" = some (some (.ref f))
  fn : PySem.W.isFn K (.ref f) = true
  bd : Binds K fd ps []
theorem un_inv {X : Cx} {j k : Nat} {C f : Addr} {fd : FuncData} {ps : List Str} {sp : Sp} (G : Gi X.prog X.w X.K X.mg X.base C j f fd ps sp) (hr : Room k X.A) (hj : j ≤ k) :
    UnR X (unaryOp .Invert) (fun x H Q => ∃ a dx fs, x = .ref a ∧ H a = some (.ins C dx fs) ∧ sp [.ref a] H Q E0) := by
  intro pins s σ H x v Q I rx h
  obtain ⟨a, dx, fs, ex, ea, hsp⟩ := h
  subst ex
  obtain rfl : v = Value.ref a := rx
  obtain ⟨mA, O, _⟩ := ins_get I.hok ea
  obtain ⟨od, J, hl⟩ := O.look
  unfold unaryOp
  refine wpAny_holding ?_
  refine wpAny_bind (PySem.W.special_fn I.kIn J G.at_ (beq_iff_eq.mp G.fn) (wpAny_mono ?_ (fun _ _ z => wpAny_pure z) fun _ _ z => z))
  exact run_fn (us := [.ref a]) (vs := [.ref a]) G.ok (hr.mono hj) G.bd .nil pass0 I (.cons rfl .nil) hsp
/-- a def with *v -/
theorem okStar {P : Program} {w : World} {K : PySem.W.Frag} {mg : Str → Option Value} {base : Heap} {x qual : Str} {st : Stmt} {f : Addr} {fd : FuncData} {N ps : List Str} {pv : Str} {k : Nat} {sp : Sp} (F : Fun K x qual st f fd) (S : FnScope N (ps ++ [pv]) (defScope st))
    (hb : ∀ (kV doc pm : Value) (an : Option Addr) (cdv ct : Value) (us rest : List Value), us.length = ps.length → bindArgs (PySem.W.fnOf x qual (defArgs st) (defBody st) (defScope st) .none kV doc pm an cdv ct) ⟨us ++ rest, []⟩ = (newTuple rest >>= fun t => pure (ps.zip us ++ [(pv, t)])))
    (hbody : ∀ (cdv : Value) (A : Around) (outer : List Env) (s : Shared) (H : Hp) (vs : List V) (Q : VK) (E : XK), Room k (A.deeper (envOfC qual (defScope st) s.heap.objs.size f cdv)) → sp vs H Q E →
      ∃ t, PSs (cxOf CX0 P w K mg base N qual (defScope st) f cdv A outer s H E).nox (defBody st) t ∧ t { nx := fun _ H' => Q .non H', rt := Q } (start N vs) H) :
    FnR P w K mg base CX0 (k + 1) f (fun vs H Q E => ∃ ws rest, vs = ws ++ rest ∧ ws.length = ps.length ∧ rest.length ≤ sizeLine ∧ ∀ p, H p = Option.none → sp (ws ++ [V.ref p]) (upd H p (.tup rest)) Q E) := by
  obtain ⟨oc, od, kV, doc, pm, an, cdv, ct, osl, rfl, lk, hcd⟩ := F.ex
  refine StX.fn_star lk hcd S StX.cxUp_none (hb kV doc pm an cdv ct) fun A outer s H vs Q E hr hsp => ?_
  obtain ⟨t, h, q⟩ := hbody cdv A outer s H vs Q E hr hsp
  exact ⟨t, h.nox, q⟩
/-- for over a tuple of texts -/
theorem s_forTW {X : Cx} {σ : L2.St} {H : Hp} {D : Ends} {iter : Expr} {body : List Stmt} {pos px : Pos} {x : Str} (j : Nat) (hN : X.N.Nodup)
    (q : wE X iter σ H fun v H1 => ∃ a, ∃ l : List Wd, v = .ref a ∧ SqT X.K H1 a (l.map VS) ∧ ∃ Pv : Nat → L2.St → Hp → Prop, Pv 0 σ H1 ∧ (∀ i σ' H', Pv i σ' H' → Ex H1 H') ∧ (∀ i c σ' H', l[i]? = some c → Pv i σ' H' → wB X body { D with nx := Pv (i + 1), ct := Pv (i + 1), bk := D.nx } (σ'.set j (some (VS c))) H') ∧ ∀ σ' H', Pv l.length σ' H' → D.nx σ' H')
    (hi : X.N[j]? = some x := by rfl) (hx : Loc X.env.scope x := by first | exact Or.inl rfl | exact Or.inr rfl)
    (hf : X.fn x = true ∨ X.env.scope.names.lookup x = some .local := by first | exact .inl rfl | exact .inr rfl | assumption)
    (hp : PassesOwn (model X.prog X.w) X.A X.env X.xe := by exact PassesOwn.never) (hc : X.calm = true := by rfl) (hs : ∀ x, foldedSetIterable iter X.env x = pure x := by intro _; rfl) : wS X (.For (.Name x px) iter body [] pos) D σ H := by
  refine s_for (g := gName j) (pg_name hN hi hx hf) (i_tup (wE_mono q fun v H1 ⟨a, l, ev, hq, Pv, h0, hex, hs', hd⟩ => ⟨a, l.map VS, ev, hq, (l.map VS).length, _, _, walk_tup, Pv, h0, fun i σ' H' _ p => ex_t (hex i σ' H' p) hq, ?_, ?_⟩)) hp hc hs
  · rintro i v' σ' H' H2 hi' p ⟨rfl, hv⟩
    obtain ⟨c, hcc, rfl⟩ : ∃ c, l[i]? = some c ∧ v' = VS c := by
      rw [List.getElem?_map] at hv
      cases q : l[i]? with
      | none => rw [q] at hv; cases hv
      | some c => rw [q] at hv; exact ⟨c, rfl, (Option.some.inj hv).symm⟩
    exact hs' i c σ' _ hcc p
  · intro σ' H' p
    rw [List.length_map] at p
    exact hd σ' H' p
section
variable {P : Program} {w : World} {K : PySem.W.Frag} {mg : Str → Option Value} {base : Heap} {CG : Addr}
abbrev sOfSets : Stmt := inClass (top 32) 1
def spOfSets0 (CG : Addr) : Sp := fun vs H Q _ => ∃ (L : Wd) (p : Addr) (ss : List Wd), vs = [VS L, .ref p] ∧ GoodL L ∧ ss.length ≤ 16 ∧ (∀ s ∈ ss, s ∈ setsOf L) ∧ H p = some (.tup (ss.map VS)) ∧
  ∀ y H', H y = none → Ex H H' → GoalAt CG L ((setsOf L).filter ss.contains) H' y → Q (.ref y) H'
def spOfSets (CG : Addr) : Sp := fun vs H Q _ => ∃ (L : Wd) (ss : List Wd), vs = VS L :: ss.map VS ∧ GoodL L ∧ ss.length ≤ 16 ∧ (∀ s ∈ ss, s ∈ setsOf L) ∧
  ∀ y H', H y = none → Ex H H' → GoalAt CG L ((setsOf L).filter ss.contains) H' y → Q (.ref y) H'
abbrev nOfSets : List Str := ["lamps", "sets", "lit"]
theorem scOfSets : FnScope nOfSets ["lamps", "sets"] (defScope sOfSets) := ⟨rfl, rfl, rfl, by decide +kernel, rfl, by decide +kernel, by decide +kernel⟩
theorem contains_filter {L : Wd} {ss : List Wd} : (setsOf L).filter ((setsOf L).filter ss.contains).contains = (setsOf L).filter ss.contains := by
  refine List.filter_congr fun z hz => ?_
  rw [Bool.eq_iff_iff, List.contains_iff_mem, List.mem_filter]
  simp [hz]
theorem ok_of_sets {f g1 g2 g3 g4 : Addr} {fd gd1 gd2 gd3 gd4 : FuncData} (F : Fun K "of_sets" "Goal.of_sets" sOfSets f fd) (C : GoalC K CG) (GN : Gv P w K mg base "need_lamps" 3 g1 gd1 ["lamps"] spNeedLamps) (GI : Gv P w K mg base "is_set" 2 g2 gd2 ["value", "lamps"] spIsSet)
    (GS : Gv P w K mg base "sets_of" 3 g3 gd3 ["lamps"] spSetsOf) (GG : Gk P w K mg base "Goal" CG 5 g4 gd4 ["self", "lamps", "sentence"] (spGoalInit CG)) : FnR P w K mg base CX0 7 f (spOfSets CG) := by
  have main := okStar (P := P) (w := w) (mg := mg) (base := base) (ps := ["lamps"]) (pv := "sets") (k := 6) (sp := spOfSets0 CG) F scOfSets (fun _ _ _ _ _ _ us rest hl => match us, rest, hl with | [_], [], _ => rfl | [_], _ :: _, _ => rfl) (fun cdv A outer s H vs Q E hr h => ?_)
  · refine main.imp fun vs H Q E ⟨L, ss, ev, gl, hl, hm, hq⟩ => ⟨[VS L], ss.map VS, by rw [ev]; rfl, rfl, by rw [List.length_map]; exact small_line (by omega), fun p hp => ⟨L, p, ss, rfl, gl, hl, hm, upd_same, fun y H' hy ex => hq y H' (fresh_back (Ex.new hp) hy) ((Ex.new hp).trans ex)⟩⟩
  obtain ⟨L, p, ss, rfl, gl, hl, hm, hp, hq⟩ := h
  have hlen := gl.len
  refine b_cons (s_expr (w_call GN hr (by decide) (a_cons (w_var 0 rfl (a_nil ⟨L, rfl, gl.lamps, by omega, fun H1 ex1 => ?_⟩)))))
  refine b_cons (s_forTW 2 scOfSets.nd (w_var 1 rfl ⟨p, ss, rfl, SqT.of (ex1 _ _ hp), fun i σ' H' => (∃ z, σ' = [some (VS L), some (.ref p), z]) ∧ Ex H1 H', ⟨⟨none, rfl⟩, Ex.refl _⟩, fun _ _ _ h => h.2, ?_, ?_⟩))
  · rintro i c σ' H' hc ⟨⟨z, rfl⟩, ex⟩
    have hc' := hm c (List.mem_of_getElem? hc)
    have := mem_len4 gl hc'
    refine b_one (s_if (t_not (t_val (w_call GI hr (by decide) (a_cons (w_var 2 rfl (a_cons (w_var 0 rfl (a_nil ⟨c, L, rfl, by omega, fun H2 ex2 => ⟨_, rfl, ite_no (by rw [gl.sets _ hc']; rfl) (b_nil ⟨⟨_, rfl⟩, ex.trans ex2⟩)⟩⟩)))))))))
  · rintro σ' H2 ⟨⟨z, rfl⟩, ex2⟩
    have ex02 : Ex H H2 := ex1.trans ex2
    refine b_one (s_ret (w_make GG hr (by decide) (a_cons (w_var 0 rfl (a_cons (w_tup (a_cons (w_str (a_star (w_lcL 2 scOfSets.nd (blkOk_by (N := nOfSets) (sc := defScope sOfSets) (by decide +kernel)) (w_call GS hr (by decide) (a_cons (w_var 0 rfl (a_nil ⟨L, rfl, hlen.2, fun p3 H3 hp3 ex3 h3 => ⟨p3, _, rfl, SqL.of h3, ?_⟩⟩))))))))))))))
    refine lcFil (setsOf L) VS ss.contains (small_lt (by have := len_setsOf4 hlen.2; omega)) (fun z1 hz H' ex R kk => ?_) (fun z1 H' R q s0 H0 C cl fp => w_var 2 rfl q) (fun p4 H4 hp4 ex4 h4 => ?_)
    · intro s0 H0 C0 cl fp
      refine t_cmp op_in_seq (w_var 2 rfl (w_var 1 rfl ⟨p, _, rfl, .inr (SqT.of (ex _ _ (ex3 _ _ (ex02 _ _ hp)))), rfl, flat_words ss, _, rfl, ?_⟩))
      rw [if_neg Bool.false_ne_true, inV_words]
      exact kk _ (Ex.refl _)
    · refine ⟨p4, _, rfl, .inr (SqL.of h4), a_nil ⟨?_, fun p5 hp5 => a_nil fun y dy hy hdy hne => ?_⟩⟩
      · rw [List.append_nil, List.length_cons, List.length_map]
        have := len_setsOf4 hlen.2
        have := List.length_filter_le ss.contains (setsOf L)
        exact small_line (by omega)
      · rw [List.append_nil] at *
        have ex5 : Ex H (upd H4 p5 (.tup (.str "sets" :: ((setsOf L).filter ss.contains).map VS))) := ((ex02.trans ex3).trans ex4).trans (Ex.new hp5)
        have ex6 : Ex (upd H4 p5 (.tup (.str "sets" :: ((setsOf L).filter ss.contains).map VS))) (upd (upd (upd H4 p5 (.tup (.str "sets" :: ((setsOf L).filter ss.contains).map VS))) dy (.own y)) y (.ins CG dy [])) :=
          (Ex.new hdy).trans (Ex.new (by rw [upd_ne (Ne.symm hne)]; exact hy))
        refine ⟨y, dy, L, .ref p5, ((setsOf L).filter ss.contains).contains, 1, rfl, gl, ?_, by decide, upd_same, fun H' eb hG => ⟨rfl, hq y H' (fresh_back ex5 hy) ?_ ?_⟩⟩
        · have leaf : SenAt L (upd (upd (upd H4 p5 (.tup (.str "sets" :: ((setsOf L).filter ss.contains).map VS))) dy (.own y)) y (.ins CG dy [])) 0 (.ref p5) ((setsOf L).filter ss.contains).contains 1 :=
            ⟨p5, rfl, .inr (.inr ⟨(setsOf L).filter ss.contains, Nat.le_trans (List.length_filter_le _ _) (len_setsOf4 hlen.2), fun s hs => (List.mem_filter.mp hs).1, ex6 _ _ upd_same, fun l => rfl⟩), rfl⟩
          exact leaf.up.up
        · exact eb.ex (ex5.trans ex6) (fresh_back ex5 hy)
        · rw [contains_filter] at hG
          exact hG
/-! ### ~goal -/
def spInv (CG : Addr) : Sp := fun vs H Q _ => ∃ (a : Addr) (L : Wd) (O : List Wd), vs = [.ref a] ∧ GoalAt CG L O H a ∧ GoodL L ∧ ∀ y H', H y = none → Ex H H' → GoalAt CG L ((setsOf L).filter fun z => !O.contains z) H' y → Q (.ref y) H'
abbrev nInv : List Str := ["self", "some", "lit"]
theorem scInv : FnScope nInv ["self"] (defScope sGoalInv) := ⟨rfl, rfl, rfl, by decide +kernel, rfl, by decide +kernel, by decide +kernel⟩
theorem ok_inv {f g1 g2 p2 : Addr} {fd gd1 : FuncData} (F : Fun K "__invert__" "Goal.__invert__" sGoalInv f fd) (C : GoalC K CG) (GS : Gv P w K mg base "sets_of" 3 g1 gd1 ["lamps"] spSetsOf) (GO : Gs P w K mg base "Goal" CG "of_sets" 7 p2 g2 (spOfSets CG)) :
    FnOk P w K mg base CX0 8 f fd ["self"] (spInv CG) := by
  refine F.ok scInv (fun vs H Q E h => ?_) (fun cdv A outer s H vs Q E hr h => ?_)
  · obtain ⟨a, L, O, rfl, _⟩ := h
    rfl
  obtain ⟨a, L, O, rfl, hG, gl, hq⟩ := h
  have hlen := gl.len
  obtain ⟨dx, fs, st, e1, e2, e3, e4⟩ := hG
  refine b_cons (s_setLc 1 2 scInv.nd rfl rfl (sw_true rfl rfl rfl (by decide +kernel)) (blkOk_by (N := nInv) (sc := defScope sGoalInv) (by decide +kernel)) (w_call GS hr (by decide) (a_cons (w_fld (w_var 0 rfl ⟨a, CG, dx, fs, _, rfl, e1, C.cls, C.na1, e2, a_nil ⟨L, rfl, hlen.2, fun p3 H3 hp3 ex3 h3 => ⟨p3, _, rfl, SqL.of h3, ?_⟩⟩⟩)))))
  refine lcFil (setsOf L) VS (fun z => !O.contains z) (small_lt (by have := len_setsOf4 hlen.2; omega)) (fun z1 hz H' ex R kk => ?_) (fun z1 H' R q s0 H0 C cl fp => w_var 2 rfl q) (fun p4 H4 hp4 ex4 h4 => ?_)
  · intro s0 H0 C0 cl fp
    refine t_cmp op_notIn_seq (w_var 2 rfl (w_fld (w_var 0 rfl ⟨a, CG, dx, fs, _, rfl, ex _ _ (ex3 _ _ e1), C.cls, C.na3, e3, st, _, rfl, .inr (SqT.of (ex _ _ (ex3 _ _ e4))), rfl, flat_words O, _, rfl, ?_⟩)))
    rw [if_pos rfl, inV_words]
    exact kk _ (Ex.refl _)
  · have ex34 := ex3.trans ex4
    refine b_one (s_ret (w_smStar GO hr (by decide) (w_fld (w_var 0 rfl ⟨a, CG, dx, fs, _, rfl, ex34 _ _ e1, C.cls, C.na1, e2, w_var 1 rfl ⟨p4, _, rfl, .inr (SqL.of h4), L, _, rfl, gl, ?_, fun z hz => (List.mem_filter.mp hz).1, fun y H' hy ex hG => hq y H' (fresh_back ex34 hy) (ex34.trans ex) ?_⟩⟩))))
    · exact Nat.le_trans (List.length_filter_le _ _) (len_setsOf4 hlen.2)
    · have z : (setsOf L).filter ((setsOf L).filter fun z => !O.contains z).contains = (setsOf L).filter fun z => !O.contains z := by
        refine List.filter_congr fun z hz => ?_
        rw [Bool.eq_iff_iff, List.contains_iff_mem, List.mem_filter]
        simp [hz]
      rw [z] at hG
      exact hG
end
end RG

end

section
set_option Elab.async false
set_option linter.all false
set_option maxRecDepth 100000
set_option maxHeartbeats 4000000
namespace RG
open PySem L2 Evl PySem.Spec PyProof.Rows
/-! ## parts_of_set -/
theorem lt_lex : ∀ a b : Wd, (!ltCps b a) = leLex a b
  | [], [] => rfl
  | [], _ :: _ => rfl
  | _ :: _, [] => rfl
  | a :: r, b :: t => by
    have ih := lt_lex r t
    by_cases h : a = b
    · subst h
      simp only [ltCps, leLex, if_pos]
      rw [← ih]
      simp
    · have h' : ¬ b = a := fun e => h e.symm
      simp only [ltCps, leLex, if_neg h]
      have : (b == a) = false := beq_eq_false_iff_ne.mpr h'
      rw [this]
      by_cases c : b < a
      · rw [decide_eq_true c, decide_eq_false (by omega)]
        rfl
      · rw [decide_eq_false c, decide_eq_true (by omega)]
        rfl
theorem rising_pw : ∀ (r : List Str) (p : Str), risingS p r = true → (∀ x ∈ r, leLex p.cps.toList x.cps.toList = true) ∧ (r.map fun x => x.cps.toList).Pairwise fun a b => leLex a b = true
  | [], p, _ => ⟨fun _ h => absurd h List.not_mem_nil, .nil⟩
  | x :: r, p, h => by
    have h' : (!ltCps x.cps.toList p.cps.toList && risingS x r) = true := h
    rw [lt_lex, Bool.and_eq_true] at h'
    obtain ⟨h1, h2⟩ := rising_pw r x h'.2
    refine ⟨fun y hy => ?_, List.pairwise_cons.mpr ⟨fun y hy => ?_, h2⟩⟩
    · rcases List.mem_cons.mp hy with e | e
      · rw [e]; exact h'.1
      · exact leLex_trans _ _ _ h'.1 (h1 y e)
    · obtain ⟨z, hz, rfl⟩ := List.mem_map.mp hy
      exact h1 z hz
theorem sorted_is (l : List Wd) (ys : List Str) (hp : ys.Perm (l.map S)) (hs : sortedS ys = true) : ys.map V.str = (isort leLex l).map VS := by
  have e1 : ys.map V.str = (ys.map fun x => x.cps.toList).map VS := by
    rw [List.map_map]
    refine List.map_congr_left fun x _ => ?_
    simp [VS, S]
  have p1 : (ys.map fun x => x.cps.toList).Perm l := by
    have := hp.map fun x : Str => x.cps.toList
    rw [List.map_map] at this
    have e : l.map ((fun x : Str => x.cps.toList) ∘ S) = l := by
      conv => rhs; rw [← List.map_id l]
      refine List.map_congr_left fun x _ => ?_
      simp [S]
    rw [e] at this
    exact this
  rw [e1, isort_is ord_lex p1]
  cases ys with
  | nil => exact .nil
  | cons x r =>
    obtain ⟨h1, h2⟩ := rising_pw r x hs
    refine List.pairwise_cons.mpr ⟨fun y hy => ?_, h2⟩
    obtain ⟨z, hz, rfl⟩ := List.mem_map.mp hy
    exact h1 z hz
section
variable {X : Cx} {σ : L2.St} {H : Hp} {Q : VK} {e : Expr} {pos p1 : Pos}
/-- sorted(texts) -/
theorem w_sortedS (hm : X.mg "sorted" = none) (q : wE X e σ H fun v H1 => ∃ a, ∃ l : List Wd, v = .ref a ∧ SqL X.K H1 a (l.map VS) ∧ l.length < 64 ∧ ∀ p, H1 p = none → Q (.ref p) (upd H1 p (.lst ((isort leLex l).map VS)))) (hg : Gl X "sorted" := by rfl)
    (hs1 : starEach [e] X.env = (false, eval e X.env) :: starEach [] X.env := by rfl) : wE X (.Call (.Name "sorted" p1) [e] [] pos) σ H Q := by
  refine w_callB cr_sortedS hm (by decide +kernel) (a_cons (wE_mono q fun v H1 ⟨a, l, ev, h, hl, k⟩ => a_nil ⟨a, l.map S, by rw [ev], by rw [List.map_map]; exact h, by rw [List.length_map]; exact hl, fun ys p hp hs hn => by rw [sorted_is l ys hp hs]; exact k p hn⟩) hs1) hg (by decide) (by decide) hs1 (by rfl)
end
section
variable {P : Program} {w : World} {K : PySem.W.Frag} {mg : Str → Option Value} {base : Heap} {CG : Addr}
abbrev sParts : Stmt := top 23
abbrev scOne : Scope := { kind := .function, names := [(".0", .local), ("one", .cell), ("any", .globalImplicit), ("unlike", .free)], isGenerator := false, isCoroutine := false }
def spParts (CG : Addr) : Sp := fun vs H Q _ => ∃ (g : Addr) (L : Wd) (O : List Wd) (z : Wd), vs = [.ref g, VS z] ∧ GoalAt CG L O H g ∧ GoodL L ∧ z ∈ setsOf L ∧ ∀ p H', H p = none → Ex H H' → H' p = some (.lst ((partsM O z).map VS)) → Q (.ref p) H'
abbrev nParts : List Str := ["goal", "lit", "unlike", "one", "two"]
theorem scParts : FnScope nParts ["goal", "lit"] (defScope sParts) := ⟨rfl, rfl, rfl, by decide +kernel, rfl, by decide +kernel, by decide +kernel⟩
theorem ok_parts {f g1 g2 g3 : Addr} {fd gd1 gd2 gd3 : FuncData} (F : Fun K "parts_of_set" "parts_of_set" sParts f fd) (B : Bt mg) (GS : Gv P w K mg base "sets_of" 3 g1 gd1 ["lamps"] spSetsOf) (GW : Gv P w K mg base "is_within" 1 g2 gd2 ["one", "other"] spWithin) (GC : Gc P w K mg base CG 4 g3 gd3 ["self", "kept"] (spHoldsG CG)) :
    FnOk P w K mg base CX0 5 f fd ["goal", "lit"] (spParts CG) := by
  refine F.ok scParts (fun vs H Q E h => ?_) (fun cdv A outer s H vs Q E hr h => ?_)
  · obtain ⟨g, L, O, z, rfl, _⟩ := h
    rfl
  obtain ⟨g, L, O, z, rfl, hG, gl, hz, hq⟩ := h
  have hz4 := mem_len4 gl hz
  have hsz := len_setsOf4 hz4
  refine b_cons (s_set 2 scParts.nd (w_lcL 3 scParts.nd (blkOk_by (N := nParts) (sc := defScope sParts) (by decide +kernel)) (w_call GS hr (by decide) (a_cons (w_var 1 rfl (a_nil ⟨z, rfl, hz4, fun p3 H3 hp3 ex3 h3 => ⟨p3, _, rfl, SqL.of h3, ?_⟩⟩))))))
  refine lcFil (setsOf z) VS (fun one => O.contains one != O.contains z) (small_lt (by omega)) (fun z1 hz1 H' ex R kk => ?_) (fun z1 H' R q s0 H0 C cl fp => w_var 3 rfl q) (fun p4 H4 hp4 ex4 h4 => ?_)
  · intro s0 H0 C0 cl fp
    have hG1 : GoalAt CG L O H' g := (hG.ex ex3).ex ex
    refine t_cmp op_ne (w_callO GC hr (by decide) (w_var 0 rfl ⟨g, rfl, a_cons (w_var 3 rfl (a_nil ⟨hG1.ins, g, L, O, z1, rfl, hG1, gl, setsOf_trans hz1 hz, fun H5 ex5 => ?_⟩))⟩)) (nomark _)
    have hG5 := hG1.ex ex5
    refine w_callO GC hr (by decide) (w_var 0 rfl ⟨g, rfl, a_cons (w_var 1 rfl (a_nil ⟨hG5.ins, g, L, O, z, rfl, hG5, gl, hz, fun H6 ex6 => ⟨rfl, _, rfl, ?_⟩⟩))⟩)
    have e : (!decide (V.bl (O.contains z1) = V.bl (O.contains z))) = (O.contains z1 != O.contains z) := by
      cases O.contains z1 <;> cases O.contains z <;> decide
    rw [e]
    exact kk _ (ex5.trans ex6)
  · have ex34 := ex3.trans ex4
    have hul := len_unlike O z
    refine b_one (s_ret (w_sortedS B.sorted (w_lcL 3 scParts.nd (blkOk_by (N := nParts) (sc := defScope sParts) (by decide +kernel)) (w_var 2 rfl ⟨p4, _, rfl, SqL.of h4, ?_⟩))))
    refine lcFil (unlikeM O z) VS (fun one => !(unlikeM O z).any fun two => (one != two) && withinM one two) (small_lt (by omega)) (fun z1 hz1 H' ex R kk => ?_) (fun z1 H' R q s0 H0 C cl fp => w_var 3 rfl q) (fun p5 H5 hp5 ex5 h5 => ?_)
    · intro s0 H0 C0 cl fp
      refine t_not (t_val (w_any rfl B.any (w_lcL 4 scParts.nd (blkOk_by (N := nParts) (sc := relS scOne (defScope sParts)) (by decide +kernel)) (w_var 2 rfl ⟨p4, _, rfl, SqL.of (ex _ _ h4), ?_⟩))))
      refine lcMap (unlikeM O z) VS (fun two => .bl ((z1 != two) && withinM z1 two)) (small_lt (by omega)) (fun z2 hz2 H6 ex6 R6 kk6 => ?_) (fun p5 H5 hp5 ex5 h5 => ⟨p5, (unlikeM O z).map fun two => (z1 != two) && withinM z1 two, rfl, SqL.of (by rw [h5, List.map_map]; rfl), ?_⟩)
      · intro s1 H1 C1 cl1 fp1
        refine w_and (w_cmp op_ne (w_var 3 rfl (w_var 4 rfl ⟨rfl, _, rfl, ?_⟩)) (nomark _))
        have e : (!decide (VS z1 = VS z2)) = (z1 != z2) := by
          by_cases c : z1 = z2
          · subst c; simp
          · rw [decide_eq_false (fun q => c (VS_inj q))]
            simp [c]
        rw [e]
        cases c : (z1 != z2) with
        | false =>
          refine ite_no rfl ?_
          have := kk6 _ (Ex.refl _)
          rw [c, Bool.false_and] at this
          exact this
        | true =>
          refine ite_yes rfl (w_one (w_call GW hr (by decide) (a_cons (w_var 3 rfl (a_cons (w_var 4 rfl (a_nil ⟨z1, z2, rfl, ?_, fun H7 ex7 => ?_⟩)))))))
          · have := mem_len4 gl (setsOf_trans (List.mem_filter.mp hz1).1 hz)
            omega
          · have := kk6 _ ex7
            rw [c, Bool.true_and] at this
            exact this
      · have := kk _ ex5
        simpa [List.any_map] using this
    · have hlen : ((unlikeM O z).filter fun one => !(unlikeM O z).any fun two => (one != two) && withinM one two).length ≤ 16 := Nat.le_trans (List.length_filter_le _ _) (by omega)
      refine ⟨p5, _, rfl, SqL.of h5, by omega, fun p6 hp6 => hq p6 _ (fresh_back (ex34.trans ex5) hp6) ((ex34.trans ex5).trans (Ex.new hp6)) upd_same⟩
end
end RG

end

section
set_option Elab.async false
set_option linter.all false
set_option maxRecDepth 100000
set_option maxHeartbeats 4000000
namespace RG
open PySem L2 Evl PySem.Spec PyProof.Rows
/-! ## {x: a new list for x in a list of texts} -/
abbrev kS (l : Wd) : Key := .inr (S l)
section
variable {X : Cx} {σ : L2.St} {H : Hp} {Q : VK} {kx vx iter o i : Expr} {scope : Scope} {pos px : Pos} {x : Str}
def DcAsk (X : Cx) (scope : Scope) (kx vx : Expr) (j : Nat) (σ : L2.St) (H1 : Hp) (Q : VK) (l : List Wd) : Prop :=
  ∃ f : Wd → List Wd, l.length < 1000 ∧ (∀ x ∈ l, ∀ H', Ex H1 H' → ∀ R : VK, (∀ p H'', H' p = none → Ex H' H'' → H'' p = some (.lst ((f x).map VS)) → R (.ref p) H'') → bE X scope vx (σ.set j (some (VS x))) H' R) ∧
    (∀ x H' (R : VK), R (VS x) H' → bE X scope kx (σ.set j (some (VS x))) H' R) ∧
    ∀ p H' kvs, H1 p = none → Ex H1 H' → H' p = some (.dK kvs) → (∀ x ∈ l, ∃ q, valV kvs (kS x) = some (.ref q) ∧ H' q = some (.lst ((f x).map VS))) → Q (.ref p) H'
theorem w_dcL (j : Nat) (hN : X.N.Nodup) (ok : BlkOk X.N X.env.scope scope [(x, j)]) (q : wE X iter σ H fun v H1 => ∃ a, ∃ l : List Wd, v = .ref a ∧ SqL X.K H1 a (l.map VS) ∧ DcAsk X scope kx vx j σ H1 Q l)
    (hx : scope.names.lookup x = some .local ∨ scope.names.lookup x = some .cell := by first | exact Or.inl rfl | exact Or.inr rfl) (hc : X.calm = true := by rfl) (hs : ∀ x, foldedSetIterable iter X.env x = pure x := by intro _; rfl) :
    wE X (.DictComp kx vx [⟨.Name x px, iter, [], 0⟩] scope pos) σ H Q := by
  refine ⟨_, pe_dc hc hN (pi_list pe_w) ok (pg_own hN ok hx) (fun _ _ _ _ _ => pts_nil) (fun s H C cl fp => pe_b s H C cl fp) (fun s H C cl fp => pe_b s H C cl fp) hs, wE_mono q ?_⟩
  rintro v H1 ⟨a, l, ev, hq, f, hl, hb, hk, hd⟩
  refine ⟨a, ev, ⟨_, hq⟩, fun D hD => ?_⟩
  have hw := walk_list (K := X.K) (a := a) (xs := l.map VS)
  have hn : (l.map VS).length = l.length := List.length_map _
  rw [hn] at hw
  refine ⟨fun i m H => m = l.length - i ∧ i ≤ l.length ∧ Ex H1 H ∧ ∃ kvs, H D = some (.dK kvs) ∧ kvs.length ≤ i ∧ ∀ z ∈ l.take i, ∃ q, valV kvs (kS z) = some (.ref q) ∧ q ≠ D ∧ H q = some (.lst ((f z).map VS)), ⟨l.length, by simp, Nat.zero_le _, Ex.new hD, [], upd_same, Nat.le_refl _, by simp⟩, ?_⟩
  rintro i m H2 ⟨rfl, hi, ex, kvs, hkv, hlen, hz⟩
  have hG := ex_l ex hq
  by_cases hlt : i < l.length
  · refine .inr ⟨hw.goes i H2 hlt hG, fun H' => Ex H1 H' ∧ ∃ kvs, H' D = some (.dK kvs) ∧ kvs.length ≤ i + 1 ∧ ∀ z ∈ l.take (i + 1), ∃ q, valV kvs (kS z) = some (.ref q) ∧ q ≠ D ∧ H' q = some (.lst ((f z).map VS)), fun H' ⟨p1, p2⟩ => ⟨l.length - (i + 1), by omega, rfl, hlt, p1, p2⟩, fun y H' hy => ?_⟩
    obtain ⟨rfl, hv⟩ := hw.yields i H2 y H' hlt hG hy
    obtain ⟨c, hcc, rfl⟩ : ∃ c, l[i]? = some c ∧ y = VS c := by
      rw [List.getElem?_map] at hv
      cases q : l[i]? with
      | none => rw [q] at hv; cases hv
      | some c => rw [q] at hv; exact ⟨c, rfl, (Option.some.inj hv).symm⟩
    have w0 : wipe ((wipe σ [j]).set j (some (VS c))) [j] = wipe σ [j] := by
      show (((σ.set j none).set j (some (VS c))).set j none) = σ.set j none
      rw [List.set_set, List.set_set]
    refine ⟨w0, ?_⟩
    have e2 : (wipe σ [j]).set j (some (VS c)) = σ.set j (some (VS c)) := by
      show (σ.set j none).set j (some (VS c)) = _
      rw [List.set_set]
    rw [show List.set (wipe σ (List.map (fun x => x.snd) [(x, j)])) j (some (VS c)) = σ.set j (some (VS c)) from e2]
    unfold tYes
    dsimp only
    rw [if_pos rfl]
    refine hk c H' _ (hb c (List.mem_of_getElem? hcc) H' ex _ fun p H3 hp ex3 h3 => ?_)
    have hkv3 := ex3 _ _ hkv
    have pD : p ≠ D := fun e => by rw [e, hkv] at hp; cases hp
    refine ⟨kvs, kS c, rfl, hkv3, small_lt (by omega), (ex.trans ex3).mut hD, _, upd_same, Nat.le_trans (length_putK _ _ _) (by omega), fun z hz' => ?_⟩
    rw [valV_put]
    by_cases e : z = c
    · subst e
      exact ⟨p, if_pos rfl, pD, by rw [upd_ne pD]; exact h3⟩
    · rw [List.take_add_one, hcc] at hz'
      have hz2 : z ∈ l.take i := by
        rcases List.mem_append.mp hz' with h | h
        · exact h
        · exact absurd (List.mem_singleton.mp h) e
      obtain ⟨q, q1, q2, q3⟩ := hz z hz2
      refine ⟨q, ?_, q2, by rw [upd_ne q2]; exact ex3 _ _ q3⟩
      rw [if_neg (fun h => e (S_inj (Sum.inr.inj h)))]
      exact q1
  · have e : i = l.length := by omega
    subst e
    refine .inl ⟨hw.stops H2 hG, hd D H2 kvs hD ex hkv fun z hz' => ?_⟩
    rw [List.take_length] at hz
    obtain ⟨q, q1, q2, q3⟩ := hz z hz'
    exact ⟨q, q1, q3⟩
theorem w_dget {k : Nat} (hr : Room k X.A) (q : wE X o σ H fun v H1 => wE X i σ H1 fun y H2 => ∃ a kvs, ∃ z : Wd, ∃ u, v = .ref a ∧ y = VS z ∧ H2 a = some (.dK kvs) ∧ valV kvs (kS z) = some u ∧ Q u H2) (hs : NoSl i := by exact fun _ _ => rfl) : wE X (.Subscript o i pos) σ H Q :=
  ⟨_, pe_dget (hu_of hr) pe_w pe_w hs, wE_mono q fun v H1 h => wE_mono h fun y H2 ⟨a, kvs, z, u, e1, e2, e3, e4, q⟩ => ⟨a, u, e1, .inl ⟨kvs, kS z, .inl e3, e2, e4.symm⟩, q⟩⟩
end
/-! ## Tree -/
structure TreeC (K : PySem.W.Frag) (CT : Addr) : Prop where
  cls : Cls K CT
  na1 : NoAttr K CT "own_goal"
  na2 : NoAttr K CT "own_parts"
def PartsAt (L : Wd) (O : List Wd) (H : Hp) (d : Addr) : Prop := ∃ kvs, H d = some (.dK kvs) ∧ ∀ z ∈ setsOf L, ∃ q, valV kvs (kS z) = some (.ref q) ∧ H q = some (.lst ((partsM O z).map VS))
def TreeAt (CT CG : Addr) (L : Wd) (O : List Wd) (H : Hp) (t : Addr) : Prop := ∃ dx g d, H t = some (.ins CT dx [("own_goal", .ref g), ("own_parts", .ref d)]) ∧ GoalAt CG L O H g ∧ PartsAt L O H d
theorem PartsAt.ex {L : Wd} {O : List Wd} {H H' : Hp} {d : Addr} (e : Ex H H') (h : PartsAt L O H d) : PartsAt L O H' d := by
  obtain ⟨kvs, h1, h2⟩ := h
  exact ⟨kvs, e _ _ h1, fun z hz => by obtain ⟨q, q1, q2⟩ := h2 z hz; exact ⟨q, q1, e _ _ q2⟩⟩
theorem TreeAt.ex {CT CG : Addr} {L : Wd} {O : List Wd} {H H' : Hp} {t : Addr} (e : Ex H H') (h : TreeAt CT CG L O H t) : TreeAt CT CG L O H' t := by
  obtain ⟨dx, g, d, h1, h2, h3⟩ := h
  exact ⟨dx, g, d, e _ _ h1, h2.ex e, h3.ex e⟩
theorem GoalAt.bmono {CG : Addr} {L : Wd} {O : List Wd} {H H' : Hp} {g x C dx : Addr} (e : ExB x H H') (hx : H x = some (.ins C dx [])) (h : GoalAt CG L O H g) : GoalAt CG L O H' g := by
  obtain ⟨dx, fs, st, h1, h2, h3, h4⟩ := h
  refine ⟨dx, fs, st, e _ _ (fun q => ?_) h1, h2, h3, e _ _ (fun q => ?_) h4⟩
  · rw [q, hx] at h1
    cases h1
    cases h2
  · rw [q, hx] at h4
    cases h4
section
variable {P : Program} {w : World} {K : PySem.W.Frag} {mg : Str → Option Value} {base : Heap} {CG CT : Addr}
abbrev sTreeInit : Stmt := inClass (top 24) 0
def spTreeInit (CT CG : Addr) : Sp := fun vs H Q _ => ∃ (x dx g : Addr) (L : Wd) (O : List Wd), vs = [.ref x, .ref g] ∧ GoodL L ∧ GoalAt CG L O H g ∧ H x = some (.ins CT dx []) ∧ ∀ H', ExB x H H' → TreeAt CT CG L O H' x → Q .non H'
abbrev nTreeInit : List Str := ["self", "goal", "lit"]
theorem scTreeInit : FnScope nTreeInit ["self", "goal"] (defScope sTreeInit) := ⟨rfl, rfl, rfl, by decide +kernel, rfl, by decide +kernel, by decide +kernel⟩
theorem ok_tree_init {f g1 g2 g3 p3 : Addr} {fd gd1 gd2 gd3 : FuncData} (F : Fun K "__init__" "Tree.__init__" sTreeInit f fd) (B : Bt mg) (C : GoalC K CG) (CTc : TreeC K CT) (GP : Gv P w K mg base "parts_of_set" 5 g1 gd1 ["goal", "lit"] (spParts CG))
    (GS : Gv P w K mg base "sets_of" 3 g2 gd2 ["lamps"] spSetsOf) (GL : Gp P w K mg base CG "lamps" 1 p3 g3 gd3 ["self"] (spGoalLamps CG)) : FnOk P w K mg base CX0 6 f fd ["self", "goal"] (spTreeInit CT CG) := by
  refine F.ok scTreeInit (fun vs H Q E h => ?_) (fun cdv A outer s H vs Q E hr h => ?_)
  · obtain ⟨x, dx, g, L, O, rfl, _⟩ := h
    rfl
  obtain ⟨x, dx, g, L, O, rfl, gl, hG, hx, hq⟩ := h
  have hlen := gl.len
  refine b_cons (s_fld (w_var 1 rfl (w_var 0 rfl ⟨x, CT, dx, [], rfl, hx, CTc.cls, CTc.na1, by decide, ?_⟩)))
  have eb : ExB x H (upd H x (.ins CT dx (putF "own_goal" (.ref g) []))) := ExB.put
  generalize hH2 : upd H x (.ins CT dx (putF "own_goal" (.ref g) [])) = H2 at eb
  have hx2 : H2 x = some (.ins CT dx (putF "own_goal" (.ref g) [])) := by rw [← hH2, upd_same]
  have hG2 : GoalAt CG L O H2 g := hG.bmono eb hx
  obtain ⟨dg, fg, hg1⟩ := hG2.ins
  refine b_one (s_fld (w_dcL 2 scTreeInit.nd (blkOk_by (N := nTreeInit) (sc := defScope sTreeInit) (by decide +kernel)) (w_call GS hr (by decide) (a_cons (w_prop GL C.cls hr (by decide) (w_var 1 rfl ⟨g, dg, fg, rfl, hg1, g, L, O, rfl, hG2, a_nil ⟨L, rfl, hlen.2, fun p3 H3 hp3 ex3 h3 =>
    ⟨p3, setsOf L, rfl, SqL.of h3, partsM O, by have := len_setsOf4 hlen.2; omega, fun z hz H' ex R kk => ?_, fun z H' R q s0 H0 C0 cl fp => w_var 2 rfl q, fun p4 H4 kvs hp4 ex4 h4 hall => ?_⟩⟩⟩))))))
  · intro s0 H0 C0 cl fp
    exact w_call GP hr (by decide) (a_cons (w_var 1 rfl (a_cons (w_var 2 rfl (a_nil ⟨g, L, O, z, rfl, (hG2.ex ex3).ex ex, gl, hz, kk⟩)))))
  · have ex24 : Ex H2 H4 := ex3.trans ex4
    have hx4 := ex24 _ _ hx2
    refine w_var 0 rfl ⟨x, CT, dx, _, rfl, hx4, CTc.cls, CTc.na2, by show 1 < 1000; decide, ?_⟩
    have t : ∀ {a o}, (∀ C fs, o ≠ .ins C dx fs) → H4 a = some o → upd H4 x (.ins CT dx (putF "own_parts" (.ref p4) (putF "own_goal" (.ref g) []))) a = some o := fun {a o} no h => by
      rw [upd_ne (fun e => by rw [e, hx4] at h; cases h; exact no _ _ rfl)]
      exact h
    refine hq _ (eb.trans ((ExB.of ex24).trans ExB.put)) ⟨dx, g, p4, by rw [upd_same]; rfl, ?_, kvs, t (by simp) h4, fun z hz => ?_⟩
    · obtain ⟨dx', fs, st, e1, e2, e3, e4⟩ := hG2.ex ex24
      refine ⟨dx', fs, st, ?_, e2, e3, t (by simp) e4⟩
      rw [upd_ne (fun e => ?_)]
      · exact e1
      · rw [e, hx4] at e1
        cases e1
        cases e2
    · obtain ⟨q, q1, q2⟩ := hall z hz
      exact ⟨q, q1, t (by simp) q2⟩
end
end RG

end

section
set_option Elab.async false
set_option linter.all false
set_option maxRecDepth 100000
set_option maxHeartbeats 4000000
namespace RG
open PySem L2 Evl PySem.Spec PyProof.Rows
/-! ## [e for x in a list for y in a list] -/
def bI (X : Cx) (scope : Scope) (tg it : Expr) : TI := fun σ H R => ∀ (s : Shared) (H0 : Hp) (C : Addr) (cl : List (Str × Addr)) (fp : List Addr), wI (X.blk s H0 scope (compEnvC scope cl C X.env) fp) tg it σ H R
theorem pi_b {X : Cx} {scope : Scope} {tg it : Expr} : ∀ (s : Shared) (H : Hp) (C : Addr) (cl : List (Str × Addr)) (fp : List Addr), PI (X.blk s H scope (compEnvC scope cl C X.env) fp) tg it (bI X scope tg it) :=
  fun s H0 C cl fp => ⟨fun pins s' σ H R I q => pi_w.run pins s' σ H R I (q s H0 C cl fp)⟩
theorem pg_own2 {X : Cx} {scope : Scope} {own : List (Str × Nat)} {x : Str} {px : Pos} {j : Nat} (hN : X.N.Nodup) (ok : BlkOk X.N X.env.scope scope own) (hm : (x, j) ∈ own) (hx : scope.names.lookup x = some .local ∨ scope.names.lookup x = some .cell) :
    ∀ (s : Shared) (H : Hp) (C : Addr) (cl : List (Str × Addr)) (fp : List Addr), PG (X.blk s H scope (compEnvC scope cl C X.env) fp) (.Name x px) (gName j) := by
  intro s H C cl fp
  have hi : X.N[j]? = some x := ok.ix (x, j) hm
  refine pg_name hN hi ?_ ?_
  · exact hx.imp (fun h => lookup_relS_keep (sc := X.env.scope) (by decide) h) (fun h => lookup_relS_keep (sc := X.env.scope) (by decide) h)
  · rcases hx with h | h
    · exact .inr (lookup_relS_keep (sc := X.env.scope) (by decide) h)
    · refine .inl ?_
      show (scope.names.lookup x == some NameKind.cell) = true
      rw [h]
      rfl
def Lc2Ask (X : Cx) (scope : Scope) (iter1 elt : Expr) (i j : Nat) (σ : L2.St) (H1 : Hp) (Q : VK) (a : Addr) (xs : List V) : Prop :=
  ∀ D, H1 D = none → ∃ Pv : Nat → Hp → Prop, Pv 0 (upd H1 D (.lst [])) ∧ (∀ n H, Pv n H → SqL X.K H a xs) ∧
    (∀ n x H, xs[n]? = some x → Pv n H → bE X scope iter1 ((wipe σ [i, j]).set i (some x)) H fun v H2 => ∃ b ys, v = .ref b ∧ SqL X.K H2 b ys ∧ ∃ Pv1 : Nat → Hp → Prop, Pv1 0 H2 ∧ (∀ m H, Pv1 m H → SqL X.K H b ys) ∧
      (∀ m y H, ys[m]? = some y → Pv1 m H → bE X scope elt ((wipe ((wipe σ [i, j]).set i (some x)) [j]).set j (some y)) H fun z H7 => ∃ acc, H7 D = some (.lst acc) ∧ acc.length < sizeLine ∧ Pv1 (m + 1) (upd H7 D (.lst (acc ++ [z])))) ∧
      ∀ H, Pv1 ys.length H → Pv (n + 1) H) ∧ ∀ H, Pv xs.length H → Q (.ref D) H
section
variable {X : Cx} {σ : L2.St} {H : Hp} {Q : VK} {elt iter iter1 : Expr} {scope : Scope} {pos px py : Pos} {x y : Str}
theorem wipe_at (σ : L2.St) {i j : Nat} (h : i ≠ j) (a : Option V) : wipe ((wipe σ [i, j]).set i a) [i, j] = wipe σ [i, j] := by
  apply List.ext_getElem?
  intro n
  by_cases h1 : i = n <;> by_cases h2 : j = n <;> simp [wipe, List.getElem?_set, h1, h2]
theorem wipe_one (σ : L2.St) {j : Nat} (a : Option V) : wipe ((wipe σ [j]).set j a) [j] = wipe σ [j] := by
  show (((σ.set j none).set j a).set j none) = σ.set j none
  rw [List.set_set, List.set_set]
theorem w_lc2 (i j : Nat) (hij : i ≠ j) (hN : X.N.Nodup) (ok : BlkOk X.N X.env.scope scope [(x, i), (y, j)]) (q : wE X iter σ H fun v H1 => ∃ a xs, v = .ref a ∧ SqL X.K H1 a xs ∧ Lc2Ask X scope iter1 elt i j σ H1 Q a xs)
    (hx : scope.names.lookup x = some .local ∨ scope.names.lookup x = some .cell := by first | exact Or.inl rfl | exact Or.inr rfl) (hy : scope.names.lookup y = some .local ∨ scope.names.lookup y = some .cell := by first | exact Or.inl rfl | exact Or.inr rfl)
    (hc : X.calm = true := by rfl) (hs : ∀ x, foldedSetIterable iter X.env x = pure x := by intro _; rfl) (hs1 : ∀ env x, foldedSetIterable iter1 env x = pure x := by intro _ _; rfl) :
    wE X (.ListComp elt [⟨.Name x px, iter, [], 0⟩, ⟨.Name y py, iter1, [], 0⟩] scope pos) σ H Q := by
  refine ⟨_, pe_lc2 (vs1 := [j]) hc hN (pi_list pe_w) ok (by simp) (pg_own2 (j := i) hN ok List.mem_cons_self hx) (fun _ _ _ _ _ => pts_nil) (fun s H C cl fp => pi_b s H C cl fp) (pg_own2 (j := j) hN ok (List.mem_cons_of_mem _ List.mem_cons_self) hy) (fun _ _ _ _ _ => pts_nil) (fun s H C cl fp => pe_b s H C cl fp) hs hs1, wE_mono q ?_⟩
  rintro v H1 ⟨a, xs, ev, hq, h⟩
  refine ⟨a, ev, ⟨_, hq⟩, fun D hD => ?_⟩
  obtain ⟨Pv, h0, hG, hstep, hd⟩ := h D hD
  have hw := walk_list (K := X.K) (a := a) (xs := xs)
  refine ⟨fun i m H => m = xs.length - i ∧ i ≤ xs.length ∧ Pv i H, ⟨xs.length, by simp, Nat.zero_le _, h0⟩, ?_⟩
  rintro n m H2 ⟨rfl, hi, p⟩
  have g := hG n H2 p
  by_cases hlt : n < xs.length
  · refine .inr ⟨hw.goes n H2 hlt g, Pv (n + 1), fun H' p' => ⟨xs.length - (n + 1), by omega, rfl, hlt, p'⟩, fun v H' hy => ?_⟩
    obtain ⟨rfl, hv⟩ := hw.yields n H2 v H' hlt g hy
    refine ⟨wipe_at σ hij _, ?_⟩
    unfold tYes
    dsimp only
    rw [if_pos rfl]
    intro s0 H0 C0 cl fp
    refine i_list (wE_mono (hstep n v H' hv p s0 H0 C0 cl fp) ?_)
    rintro v3 H3 ⟨b, ys, ev3, hq3, Pv1, k0, kG, kstep, kd⟩
    refine ⟨b, ys, ev3, hq3, ?_⟩
    have hw1 := walk_list (K := X.K) (a := b) (xs := ys)
    refine ⟨fun i m H => m = ys.length - i ∧ i ≤ ys.length ∧ Pv1 i H, ⟨ys.length, by simp, Nat.zero_le _, k0⟩, ?_⟩
    rintro n1 m1 H4 ⟨rfl, hi1, p1⟩
    have g1 := kG n1 H4 p1
    by_cases hlt1 : n1 < ys.length
    · refine .inr ⟨hw1.goes n1 H4 hlt1 g1, Pv1 (n1 + 1), fun H' p' => ⟨ys.length - (n1 + 1), by omega, rfl, hlt1, p'⟩, fun v5 H5 hy5 => ?_⟩
      obtain ⟨rfl, hv5⟩ := hw1.yields n1 H4 v5 H5 hlt1 g1 hy5
      refine ⟨wipe_one _ _, ?_⟩
      rw [if_pos rfl]
      exact kstep n1 v5 H5 hv5 p1
    · have e : n1 = ys.length := by omega
      subst e
      exact .inl ⟨hw1.stops H4 g1, kd H4 p1⟩
  · have e : n = xs.length := by omega
    subst e
    exact .inl ⟨hw.stops H2 g, hd H2 p⟩
end
/-! ## branches_from -/
/-- a list of tuples of texts -/
def BrIn (D : Addr) (H : Hp) (as : List (Addr × List Wd)) : Prop := ∀ q ∈ as, q.1 ≠ D ∧ H q.1 = some (.tup (q.2.map VS))
def BrAt (H : Hp) (a : Addr) (bs : List (List Wd)) : Prop := ∃ as : List (Addr × List Wd), H a = some (.lst (as.map fun q => V.ref q.1)) ∧ as.map (·.2) = bs ∧ BrIn a H as
theorem BrIn.ex {D : Addr} {H H' : Hp} {as : List (Addr × List Wd)} (e : ExB D H H') (h : BrIn D H as) : BrIn D H' as := fun q hq => ⟨(h q hq).1, e _ _ (h q hq).1 (h q hq).2⟩
theorem BrAt.ex {H H' : Hp} {a : Addr} {bs : List (List Wd)} (e : Ex H H') (h : BrAt H a bs) : BrAt H' a bs := by
  obtain ⟨as, h1, h2, h3⟩ := h
  exact ⟨as, e _ _ h1, h2, h3.ex (.of e)⟩
theorem len_flatMap {α β : Type} (f : α → List β) (B : Nat) : ∀ l : List α, (∀ x ∈ l, (f x).length ≤ B) → (l.flatMap f).length ≤ l.length * B
  | [], _ => by simp
  | a :: r, h => by
    have h1 := h a List.mem_cons_self
    have h2 := len_flatMap f B r fun x hx => h x (List.mem_cons_of_mem _ hx)
    simp only [List.flatMap_cons, List.length_append, List.length_cons, Nat.add_mul, Nat.one_mul]
    omega
theorem len_branches (O : List Wd) : ∀ (n : Nat) (lit : Wd), lit.length ≤ 4 → (branchesM O n lit).length ≤ 16 ^ n
  | 0, lit, _ => by simp [branchesM]
  | n + 1, lit, h => by
    unfold branchesM
    split
    · exact Nat.one_le_pow _ _ (by decide)
    · have h1 := len_flatMap (fun p => (branchesM O n p).map fun r => lit :: r) (16 ^ n) (partsM O lit) fun p hp => by
        rw [List.length_map]
        exact len_branches O n p (by have := part_shorter hp; omega)
      have h2 : (partsM O lit).length ≤ 16 := Nat.le_trans (len_parts O lit) (len_setsOf4 h)
      refine Nat.le_trans h1 ?_
      rw [Nat.pow_succ, Nat.mul_comm]
      exact Nat.mul_le_mul_left _ h2
theorem len_branch (O : List Wd) : ∀ (n : Nat) (lit : Wd), ∀ b ∈ branchesM O n lit, 1 ≤ b.length ∧ b.length ≤ n + 1
  | 0, lit, b, h => by
    simp only [branchesM, List.mem_singleton] at h
    subst h
    exact ⟨Nat.le_refl _, Nat.le_refl _⟩
  | n + 1, lit, b, h => by
    unfold branchesM at h
    split at h
    · rw [List.mem_singleton.mp h]
      exact ⟨Nat.le_refl _, by show 1 ≤ n + 1 + 1; omega⟩
    · obtain ⟨p, hp, h2⟩ := List.mem_flatMap.mp h
      obtain ⟨r, hr, rfl⟩ := List.mem_map.mp h2
      have := len_branch O n p r hr
      rw [List.length_cons]
      omega
section
variable {P : Program} {w : World} {K : PySem.W.Frag} {mg : Str → Option Value} {base : Heap} {CG CT : Addr}
abbrev sBranchesFrom : Stmt := inClass (top 24) 3
def spBranches (CT CG : Addr) (n : Nat) : Sp := fun vs H Q _ => ∃ (t : Addr) (L : Wd) (O : List Wd) (z : Wd), vs = [.ref t, VS z] ∧ GoodL L ∧ TreeAt CT CG L O H t ∧ z ∈ setsOf L ∧ z.length ≤ n ∧ ∀ p H', H p = none → Ex H H' → BrAt H' p (branchesM O n z) → Q (.ref p) H'
abbrev nBranches : List Str := ["self", "lit", "part", "rest"]
theorem scBranches : FnScope nBranches ["self", "lit"] (defScope sBranchesFrom) := ⟨rfl, rfl, rfl, by decide +kernel, rfl, by decide +kernel, by decide +kernel⟩
theorem TreeAt.parts {L : Wd} {O : List Wd} {H : Hp} {t : Addr} (h : TreeAt CT CG L O H t) {z : Wd} (hz : z ∈ setsOf L) : ∃ dx fs d kvs q, H t = some (.ins CT dx fs) ∧ fs.lookup ("own_parts" : Str) = some (V.ref d) ∧ fs.lookup ("branches_from" : Str) = none ∧ fs.lookup ("worth_of" : Str) = none ∧ fs.lookup ("favours" : Str) = none ∧ H d = some (.dK kvs) ∧ valV kvs (kS z) = some (.ref q) ∧ H q = some (.lst ((partsM O z).map VS)) := by
  obtain ⟨dx, g, d, h1, h2, kvs, h3, h4⟩ := h
  obtain ⟨q, q1, q2⟩ := h4 z hz
  exact ⟨dx, _, d, kvs, q, h1, rfl, rfl, rfl, rfl, h3, q1, q2⟩
theorem parts_data {K : PySem.W.Frag} {H : Hp} {L : Wd} {O : List Wd} {z : Wd} (gl : GoodL L) (hz : z ∈ setsOf L) : ∃ ds, DpAll K H ((partsM O z).map VS) ds ∧ (∀ d ∈ ds, Fine 0 d) ∧ ds.length = (partsM O z).length :=
  dp_exists 0 VS (partsM O z) fun x hx => ⟨_, .str _, fine_str (gl.ok (setsOf_trans (mem_partsM hx).1 hz))⟩
theorem branches_step {f : Addr} {fd : FuncData} (F : Fun K "branches_from" "Tree.branches_from" sBranchesFrom f fd) (CTc : TreeC K CT) (n : Nat) (hn4 : n ≤ 4) (G : ∀ m, n = m + 1 → Gm P w K mg base CT "branches_from" (m + 1) f fd ["self", "lit"] (spBranches CT CG m)) :
    FnOk P w K mg base CX0 (n + 1) f fd ["self", "lit"] (spBranches CT CG n) := by
  refine F.ok scBranches (fun vs H Q E h => ?_) (fun cdv A outer s H vs Q E hr h => ?_)
  · obtain ⟨t, L, O, z, rfl, _⟩ := h
    rfl
  obtain ⟨t, L, O, z, rfl, gl, hT, hz, hzn, hq⟩ := h
  obtain ⟨dx, fs, d, kvs, q0, h1, h2, h2m, _, _, h3, h4, h5⟩ := hT.parts hz
  obtain ⟨ds, e1, e2, e3⟩ := parts_data (K := K) (H := H) (O := O) gl hz
  refine b_cons (s_if (t_eq_nil hr (w_dget hr (w_fld (w_var 0 rfl ⟨t, CT, dx, fs, _, rfl, h1, CTc.cls, CTc.na2, h2, w_var 1 rfl ⟨d, kvs, z, _, rfl, rfl, h3, h4, q0, _, ds, 0, rfl, SqL.of h5, e1, e2, by decide, by rw [e3, List.length_map], fun H1 ex1 => ?_⟩⟩)))))
  have hem : (List.map VS (partsM O z)).isEmpty = (partsM O z).isEmpty := by cases partsM O z <;> rfl
  rw [hem]
  cases c : (partsM O z).isEmpty with
  | true =>
    refine iteT (b_one (s_ret (w_lst (a_cons (w_tup (a_cons (w_var 1 rfl (a_nil ⟨by show 1 ≤ sizeLine; decide, fun p2 hp2 => a_nil ⟨by show 1 ≤ sizeLine; decide, fun p3 hp3 => ?_⟩⟩))))))))
    have ne : p2 ≠ p3 := fun e => by rw [← e, upd_same] at hp3; cases hp3
    refine hq p3 _ (fresh_back (ex1.trans (Ex.new hp2)) hp3) ((ex1.trans (Ex.new hp2)).trans (Ex.new hp3)) ⟨[(p2, [z])], by rw [upd_same]; rfl, ?_, fun q hq' => ?_⟩
    · cases n with
      | zero => rfl
      | succ m =>
        unfold branchesM
        rw [if_pos c]
        rfl
    · rw [List.mem_singleton.mp hq']
      refine ⟨ne, ?_⟩
      rw [upd_ne ne, upd_same]
      rfl
  | false =>
    refine iteF (b_nil ?_)
    obtain ⟨m, rfl⟩ : ∃ m, n = m + 1 := by
      cases n with
      | zero =>
        obtain ⟨p, hp⟩ : ∃ p, p ∈ partsM O z := by
          cases e : partsM O z with
          | nil => rw [e] at c; cases c
          | cons a r => exact ⟨a, List.mem_cons_self⟩
        have := part_shorter hp
        omega
      | succ m => exact ⟨m, rfl⟩
    have hbm : branchesM O (m + 1) z = (partsM O z).flatMap fun p => (branchesM O m p).map fun r => z :: r := by
      conv => lhs; unfold branchesM
      rw [if_neg (by rw [c]; exact Bool.false_ne_true)]
    have hps : (partsM O z).length ≤ 16 := Nat.le_trans (len_parts O z) (len_setsOf4 (mem_len4 gl hz))
    have hB : 16 ^ (m + 1) ≤ 65536 := Nat.pow_le_pow_right (n := 16) (by decide) hn4
    have Gm1 := G m rfl
    refine b_one (s_ret (w_lc2 2 3 (by decide) scBranches.nd (blkOk_by (N := nBranches) (sc := defScope sBranchesFrom) (by decide +kernel)) (w_dget hr (w_fld (w_var 0 rfl ⟨t, CT, dx, fs, _, rfl, ex1 _ _ h1, CTc.cls, CTc.na2, h2, w_var 1 rfl ⟨d, kvs, z, _, rfl, rfl, ex1 _ _ h3, h4, q0, _, rfl, SqL.of (ex1 _ _ h5), ?_⟩⟩)))))
    intro D hD
    let pre := fun i => ((partsM O z).take i).flatMap fun p => (branchesM O m p).map fun r => z :: r
    refine ⟨fun i H' => Ex H1 H' ∧ ∃ as : List (Addr × List Wd), H' D = some (.lst (as.map fun q => V.ref q.1)) ∧ as.map (·.2) = pre i ∧ BrIn D H' as, ⟨Ex.new hD, [], upd_same, rfl, fun q hq => absurd hq List.not_mem_nil⟩, fun i H' ⟨e, _⟩ => SqL.of (e _ _ (ex1 _ _ h5)), ?_, ?_⟩
    · rintro i v H2 hv ⟨ex2, as, hD2, has, hbr⟩
      obtain ⟨p, hpi, rfl⟩ : ∃ p, (partsM O z)[i]? = some p ∧ v = VS p := by
        rw [List.getElem?_map] at hv
        cases q : (partsM O z)[i]? with
        | none => rw [q] at hv; cases hv
        | some c => rw [q] at hv; exact ⟨c, rfl, (Option.some.inj hv).symm⟩
      have hpm : p ∈ partsM O z := List.mem_of_getElem? hpi
      have hi16 : i < (partsM O z).length := (List.getElem?_eq_some_iff.mp hpi).1
      have hpL : p ∈ setsOf L := setsOf_trans (mem_partsM hpm).1 hz
      have hpl := part_shorter hpm
      intro s0 H0 C0 cl fp
      refine w_meth Gm1 CTc.cls hr (Nat.le_refl _) (w_var 0 rfl ⟨t, dx, fs, rfl, ex2 _ _ (ex1 _ _ h1), h2m, a_cons (w_var 2 rfl (a_nil ⟨t, L, O, p, rfl, gl, hT.ex (ex1.trans ex2), hpL, by omega, fun b H3 hb ex3 hB3 => ?_⟩))⟩)
      obtain ⟨bs, hb1, hb2, hb3⟩ := hB3
      have hD3 : H3 D = _ := ex3 _ _ hD2
      have bD : b ≠ D := fun e => by rw [e, hD2] at hb; cases hb
      have hbl : bs.length ≤ 16 ^ m := by
        have := congrArg List.length hb2
        rw [List.length_map] at this
        rw [this]
        exact len_branches O m p (mem_len4 gl hpL)
      -- the elements of the inner list are not D
      have hbs : ∀ q ∈ bs, q.1 ≠ D ∧ H3 q.1 = some (.tup (q.2.map VS)) := fun q hq' => ⟨fun e => (by have h9 := (hb3 q hq').2; rw [e, hD3] at h9; cases h9), (hb3 q hq').2⟩
      refine ⟨b, _, rfl, SqL.of hb1, fun j H' => Ex H1 H' ∧ ExB D H3 H' ∧ ∃ as : List (Addr × List Wd), H' D = some (.lst (as.map fun q => V.ref q.1)) ∧ as.map (·.2) = pre i ++ ((bs.take j).map fun q => z :: q.2) ∧ BrIn D H' as, ⟨ex2.trans ex3, ExB.of (Ex.refl _), as, hD3, by rw [has]; simp, hbr.ex (.of ex3)⟩, fun j H' ⟨_, e, _⟩ => SqL.of (e _ _ bD hb1), ?_, ?_⟩
      · rintro j y H4 hy ⟨ex4, eb4, as4, hD4, has4, hbr4⟩
        obtain ⟨q, hqj, rfl⟩ : ∃ q, bs[j]? = some q ∧ y = V.ref q.1 := by
          rw [List.getElem?_map] at hy
          cases q : bs[j]? with
          | none => rw [q] at hy; cases hy
          | some c => rw [q] at hy; exact ⟨c, rfl, (Option.some.inj hy).symm⟩
        have hqm : q ∈ bs := List.mem_of_getElem? hqj
        have hj : j < bs.length := (List.getElem?_eq_some_iff.mp hqj).1
        obtain ⟨nD, hq3⟩ := hbs q hqm
        have hlq : q.2.length ≤ 5 := by
          have : q.2 ∈ branchesM O m p := by
            rw [← hb2]
            exact List.mem_map_of_mem hqm
          have := len_branch O m p _ this
          omega
        intro s1 H01 C1 cl1 fp1
        refine w_tup (a_cons (w_var 1 rfl (a_star (w_var 3 rfl ⟨q.1, _, rfl, .inl (SqT.of (eb4 _ _ nD hq3)), a_nil ⟨?_, fun p5 hp5 => ?_⟩⟩))))
        · rw [List.append_nil, List.length_cons, List.length_map]
          exact small_line (by omega)
        · rw [List.append_nil]
          have p5D : p5 ≠ D := fun e => by rw [e, hD4] at hp5; cases hp5
          have ex5 := Ex.new (o := .tup (VS z :: q.2.map VS)) hp5
          have hlen4 : as4.length < 65536 := by
            have e := congrArg List.length has4
            rw [List.length_map, List.length_append, List.length_map, List.length_take] at e
            have e2 : (pre i).length ≤ i * 16 ^ m := by
              refine Nat.le_trans (len_flatMap _ (16 ^ m) _ fun x hx => ?_) (Nat.mul_le_mul_right _ ?_)
              · rw [List.length_map]
                have hx' := List.mem_of_mem_take hx
                exact len_branches O m x (mem_len4 gl (setsOf_trans (mem_partsM hx').1 hz))
              · rw [List.length_take]
                exact Nat.min_le_left _ _
            have e3 : (i + 1) * 16 ^ m ≤ 16 * 16 ^ m := Nat.mul_le_mul_right _ (by omega)
            rw [Nat.add_mul, Nat.one_mul] at e3
            rw [Nat.pow_succ, Nat.mul_comm] at hB
            omega
          refine ⟨as4.map fun q => V.ref q.1, by rw [upd_ne (Ne.symm p5D)]; exact hD4, by rw [List.length_map]; exact small_lt (by omega), (ex4.trans ex5).mut hD, (eb4.trans (.of ex5)).trans ExB.put, as4 ++ [(p5, z :: q.2)], by rw [upd_same, List.map_append]; rfl, ?_, ?_⟩
          · rw [List.map_append, has4, List.take_add_one, hqj, List.map_append, List.append_assoc]
            rfl
          · intro r hr'
            rcases List.mem_append.mp hr' with h | h
            · obtain ⟨n1, n2⟩ := hbr4 r h
              exact ⟨n1, by rw [upd_ne n1]; exact ex5 _ _ n2⟩
            · rw [List.mem_singleton.mp h]
              exact ⟨p5D, by rw [upd_ne p5D, upd_same]; rfl⟩
      · rintro H4 ⟨ex4, eb4, as4, hD4, has4, hbr4⟩
        rw [List.length_map] at has4
        refine ⟨ex4, as4, hD4, ?_, hbr4⟩
        rw [has4, List.take_length]
        show pre i ++ _ = pre (i + 1)
        show pre i ++ _ = ((partsM O z).take (i + 1)).flatMap _
        rw [List.take_add_one, hpi, List.flatMap_append]
        congr 1
        have : bs.map (fun q => z :: q.2) = (bs.map (·.2)).map fun r => z :: r := by rw [List.map_map]; rfl
        rw [this, hb2]
        simp
    · rintro H2 ⟨ex2, as, hD2, has, hbr⟩
      refine hq D H2 (fresh_back ex1 hD) (ex1.trans ex2) ⟨as, hD2, ?_, hbr⟩
      rw [has, hbm]
      show ((partsM O z).take (List.length _)).flatMap _ = _
      rw [List.length_map, List.take_length]
end
end RG

end

section
set_option Elab.async false
set_option linter.all false
set_option maxRecDepth 100000
set_option maxHeartbeats 4000000
namespace RG
open PySem L2 Evl PySem.Spec PyProof.Rows
/-! ## height, favours, worth_of, worth -/
theorem maxM_ge : ∀ ns : List Int, ∀ y ∈ ns, y ≤ maxM ns
  | [], y, h => absurd h List.not_mem_nil
  | [a], y, h => by rw [List.mem_singleton.mp h]; exact Int.le_refl _
  | a :: b :: r, y, h => by
    have ih := maxM_ge (b :: r)
    unfold maxM
    rcases List.mem_cons.mp h with e | e
    · subst e
      split <;> omega
    · have := ih y e
      split <;> omega
theorem maxM_mem : ∀ ns : List Int, 0 < ns.length → maxM ns ∈ ns
  | [], h => absurd h (Nat.lt_irrefl _)
  | [a], _ => List.mem_cons_self
  | a :: b :: r, _ => by
    have ih := maxM_mem (b :: r) (Nat.succ_pos _)
    unfold maxM
    split
    · exact List.mem_cons_of_mem _ ih
    · exact List.mem_cons_self
theorem maxM_is {ns : List Int} {m : Int} (h : m ∈ ns) (g : ∀ y ∈ ns, y ≤ m) : m = maxM ns := by
  have h1 := maxM_ge ns m h
  have h2 := g _ (maxM_mem ns (List.length_pos_of_mem h))
  omega
section
variable {X : Cx} {σ : L2.St} {H : Hp} {Q : VK} {e : Expr} {pos p1 : Pos}
theorem w_max (hm : X.mg "max" = none) (hc : X.calm = true) (q : wE X e σ H fun v H1 => ∃ a, ∃ ns : List Int, v = .ref a ∧ SqL X.K H1 a (ns.map V.int) ∧ 0 < ns.length ∧ Q (.int (maxM ns)) H1) (hg : Gl X "max" := by rfl)
    (hs1 : starEach [e] X.env = (false, eval e X.env) :: starEach [] X.env := by rfl) : wE X (.Call (.Name "max" p1) [e] [] pos) σ H Q :=
  w_callB (cr_max hc) hm (by decide +kernel) (a_cons (wE_mono q fun v H1 ⟨a, ns, ev, h, hl, k⟩ => a_nil ⟨a, ns, by rw [ev], h, hl, fun m h1 h2 => by rw [maxM_is h1 h2]; exact k⟩) hs1) hg (by decide) (by decide) hs1 (by rfl)
theorem w_sum (hm : X.mg "sum" = none) (hc : X.calm = true) (q : wE X e σ H fun v H1 => ∃ a, ∃ ns : List Int, v = .ref a ∧ SqL X.K H1 a (ns.map V.int) ∧ Q (.int ns.sum) H1) (hg : Gl X "sum" := by rfl)
    (hs1 : starEach [e] X.env = (false, eval e X.env) :: starEach [] X.env := by rfl) : wE X (.Call (.Name "sum" p1) [e] [] pos) σ H Q :=
  w_callB (cr_sum hc) hm (by decide +kernel) (a_cons (wE_mono q fun v H1 ⟨a, ns, ev, h, k⟩ => a_nil ⟨a, ns, by rw [ev], h, k⟩) hs1) hg (by decide) (by decide) hs1 (by rfl)
end
section
variable {P : Program} {w : World} {K : PySem.W.Frag} {mg : Str → Option Value} {base : Heap} {CG CT : Addr}
abbrev sHeight : Stmt := inClass (top 24) 5
abbrev sFavours : Stmt := inClass (top 24) 6
abbrev sWorthOf : Stmt := inClass (top 24) 7
abbrev sWorth : Stmt := inClass (top 24) 8
theorem TreeAt.goal {L : Wd} {O : List Wd} {H : Hp} {t : Addr} (h : TreeAt CT CG L O H t) : ∃ dx fs g, H t = some (.ins CT dx fs) ∧ fs.lookup ("own_goal" : Str) = some (V.ref g) ∧ fs.lookup ("branches_from" : Str) = none ∧ fs.lookup ("worth_of" : Str) = none ∧ fs.lookup ("favours" : Str) = none ∧
    fs.lookup ("height" : Str) = none ∧ fs.lookup ("worth" : Str) = none ∧ fs.lookup ("branches" : Str) = none ∧ GoalAt CG L O H g := by
  obtain ⟨dx, g, d, h1, h2, h3⟩ := h
  exact ⟨dx, _, g, h1, rfl, rfl, rfl, rfl, rfl, rfl, rfl, h2⟩
def spHeight (CT CG : Addr) : Sp := fun vs H Q _ => ∃ (t : Addr) (L : Wd) (O : List Wd), vs = [.ref t] ∧ GoodL L ∧ TreeAt CT CG L O H t ∧ ∀ H', Ex H H' → Q (.int (heightM O 4 L)) H'
abbrev nHeight : List Str := ["self", "branch"]
theorem scHeight : FnScope nHeight ["self"] (defScope sHeight) := ⟨rfl, rfl, rfl, by decide +kernel, rfl, by decide +kernel, by decide +kernel⟩
theorem branches_pos (O : List Wd) : ∀ (n : Nat) (lit : Wd), 0 < (branchesM O n lit).length
  | 0, lit => by simp [branchesM]
  | n + 1, lit => by
    unfold branchesM
    split
    · simp
    · rename_i h
      cases e : partsM O lit with
      | nil => rw [e] at h; simp at h
      | cons a r =>
        have := branches_pos O n a
        simp only [List.flatMap_cons, List.length_append, List.length_map]
        omega
theorem ok_height {f g1 g2 p2 : Addr} {fd gd1 gd2 : FuncData} (F : Fun K "height" "Tree.height" sHeight f fd) (B : Bt mg) (C : GoalC K CG) (CTc : TreeC K CT) (GB : Gm P w K mg base CT "branches_from" 5 g1 gd1 ["self", "lit"] (spBranches CT CG 4)) (GL : Gp P w K mg base CG "lamps" 1 p2 g2 gd2 ["self"] (spGoalLamps CG)) :
    FnOk P w K mg base CX0 6 f fd ["self"] (spHeight CT CG) := by
  refine F.ok scHeight (fun vs H Q E h => ?_) (fun cdv A outer s H vs Q E hr h => ?_)
  · obtain ⟨t, L, O, rfl, _⟩ := h
    rfl
  obtain ⟨t, L, O, rfl, gl, hT, hq⟩ := h
  obtain ⟨dx, fs, g, h1, h2, hm, _, _, _, _, _, hG⟩ := hT.goal
  obtain ⟨dg, fg, hg⟩ := hG.ins
  refine b_one (s_ret (w_max B.max rfl (w_lcL 1 scHeight.nd (blkOk_by (N := nHeight) (sc := defScope sHeight) (by decide +kernel)) (w_meth GB CTc.cls hr (by decide) (w_var 0 rfl ⟨t, dx, fs, rfl, h1, hm, a_cons (w_prop GL C.cls hr (by decide) (w_fld (w_var 0 rfl ⟨t, CT, dx, fs, _, rfl, h1, CTc.cls, CTc.na1, h2, g, dg, fg, rfl, hg, g, L, O, rfl, hG,
    a_nil ⟨t, L, O, L, rfl, gl, hT, self_mem_setsOf L, gl.len.2, fun p3 H3 hp3 ex3 hB => ?_⟩⟩)))⟩)))))
  obtain ⟨as, b1, b2, b3⟩ := hB
  have hl : as.length ≤ 65536 := by
    have e := congrArg List.length b2
    rw [List.length_map] at e
    rw [e]
    exact len_branches O 4 L gl.len.2
  refine ⟨p3, _, rfl, SqL.of b1, ?_⟩
  refine lcMap as (fun q => V.ref q.1) (fun q => .int (q.2.length : Int)) (small_lt (by omega)) (fun q hq' H' ex R kk => ?_) (fun p4 H4 hp4 ex4 h4 => ?_)
  · intro s0 H0 C0 cl fp
    refine w_len B.len (w_var 1 rfl ⟨q.1, _, rfl, .inr (SqT.of (ex _ _ (b3 q hq').2)), ?_⟩)
    rw [List.length_map]
    exact kk _ (Ex.refl _)
  · refine ⟨p4, as.map fun q => (q.2.length : Int), rfl, SqL.of (by rw [h4, List.map_map]; rfl), ?_, ?_⟩
    · have e := congrArg List.length b2
      rw [List.length_map] at e
      rw [List.length_map, e]
      exact branches_pos O 4 L
    · have z : maxM (as.map fun q => (q.2.length : Int)) = heightM O 4 L := by
        unfold heightM
        rw [← b2, List.map_map]
        rfl
      rw [z]
      exact hq _ (ex3.trans ex4)
def spFavours (CT CG : Addr) : Sp := fun vs H Q _ => ∃ (t : Addr) (L : Wd) (O : List Wd) (z : Wd) (h : Int), vs = [.ref t, VS z, .int h] ∧ GoodL L ∧ TreeAt CT CG L O H t ∧ z ∈ setsOf L ∧ ∀ H', Ex H H' → Q (.bl (O.contains z == decide (h = 1))) H'
theorem scFavours : FnScope ["self", "lit", "hand"] ["self", "lit", "hand"] (defScope sFavours) := ⟨rfl, rfl, rfl, by decide +kernel, rfl, by decide +kernel, by decide +kernel⟩
theorem ok_favours {f g1 : Addr} {fd gd1 : FuncData} (F : Fun K "favours" "Tree.favours" sFavours f fd) (CTc : TreeC K CT) (GC : Gc P w K mg base CG 4 g1 gd1 ["self", "kept"] (spHoldsG CG)) : FnOk P w K mg base CX0 5 f fd ["self", "lit", "hand"] (spFavours CT CG) := by
  refine F.ok scFavours (fun vs H Q E h => ?_) (fun cdv A outer s H vs Q E hr h => ?_)
  · obtain ⟨t, L, O, z, h, rfl, _⟩ := h
    rfl
  obtain ⟨t, L, O, z, h, rfl, gl, hT, hz, hq⟩ := h
  obtain ⟨dx, fs, g, h1, h2, _, _, _, _, _, _, hG⟩ := hT.goal
  refine b_one (s_ret (w_cmp op_eq (w_fldCallO GC hr (by decide) (w_var 0 rfl ⟨t, CT, dx, fs, g, rfl, h1, CTc.cls, CTc.na1, h2, a_cons (w_var 1 rfl (a_nil ⟨hG.ins, g, L, O, z, rfl, hG, gl, hz, fun H1 ex1 => ?_⟩))⟩)) (nomark _)))
  refine w_eqi (w_var 2 rfl ⟨h, rfl, rfl, ?_⟩)
  have e : decide (V.bl (O.contains z) = V.bl (decide (h = 1))) = (O.contains z == decide (h = 1)) := by
    cases O.contains z <;> cases decide (h = 1) <;> decide
  rw [e]
  exact hq _ ex1
def spWorthOf (CT CG : Addr) (n : Nat) : Sp := fun vs H Q _ => ∃ (t : Addr) (L : Wd) (O : List Wd) (z : Wd) (h : Int), vs = [.ref t, VS z, .int h] ∧ GoodL L ∧ TreeAt CT CG L O H t ∧ z ∈ setsOf L ∧ z.length ≤ n ∧ ∀ H', Ex H H' → Q (.int (worthM O (decide (h = 1)) n z)) H'
abbrev nWorthOf : List Str := ["self", "lit", "hand", "worths", "part"]
theorem scWorthOf : FnScope nWorthOf ["self", "lit", "hand"] (defScope sWorthOf) := ⟨rfl, rfl, rfl, by decide +kernel, rfl, by decide +kernel, by decide +kernel⟩
theorem worth_step {f g1 : Addr} {fd gd1 : FuncData} (F : Fun K "worth_of" "Tree.worth_of" sWorthOf f fd) (B : Bt mg) (CTc : TreeC K CT) (GF : Gm P w K mg base CT "favours" 5 g1 gd1 ["self", "lit", "hand"] (spFavours CT CG)) (n : Nat)
    (G : ∀ m, n = m + 1 → Gm P w K mg base CT "worth_of" (m + 6) f fd ["self", "lit", "hand"] (spWorthOf CT CG m)) : FnOk P w K mg base CX0 (n + 6) f fd ["self", "lit", "hand"] (spWorthOf CT CG n) := by
  refine F.ok (k := n + 5) scWorthOf (fun vs H Q E h => ?_) (fun cdv A outer s H vs Q E hr h => ?_)
  · obtain ⟨t, L, O, z, h, rfl, _⟩ := h
    rfl
  obtain ⟨t, L, O, z, h, rfl, gl, hT, hz, hzn, hq⟩ := h
  obtain ⟨dx, fs, d, kvs, q0, h1, h2, _, h2m, _, h3, h4, h5⟩ := hT.parts hz
  have hps : (partsM O z).length ≤ 16 := Nat.le_trans (len_parts O z) (len_setsOf4 (mem_len4 gl hz))
  refine b_cons (s_setLc 3 4 scWorthOf.nd rfl rfl (sw_true rfl rfl rfl (by decide +kernel)) (blkOk_by (N := nWorthOf) (sc := defScope sWorthOf) (by decide +kernel)) (w_dget hr (w_fld (w_var 0 rfl ⟨t, CT, dx, fs, _, rfl, h1, CTc.cls, CTc.na2, h2, w_var 1 rfl ⟨d, kvs, z, _, rfl, rfl, h3, h4, q0, _, rfl, SqL.of h5, ?_⟩⟩))))
  have pm : ∀ p ∈ partsM O z, ∃ m, n = m + 1 := fun p hp => by
    cases n with
    | zero => have := part_shorter hp; omega
    | succ m => exact ⟨m, rfl⟩
  let wm : Wd → Int := fun p => worthM O (decide (h = 1)) (n - 1) p
  refine lcMap (partsM O z) VS (fun p => .int (wm p)) (small_lt (by omega)) (fun p hp H' ex R kk => ?_) (fun p4 H4 hp4 ex4 h4' => ?_)
  · intro s0 H0 C0 cl fp
    obtain ⟨m, rfl⟩ := pm p hp
    have hpl := part_shorter hp
    have hpL : p ∈ setsOf L := setsOf_trans (mem_partsM hp).1 hz
    exact w_meth (G m rfl) CTc.cls hr (by omega) (w_var 0 rfl ⟨t, dx, fs, rfl, ex _ _ h1, h2m, a_cons (w_var 4 rfl (a_cons (w_var 2 rfl (a_nil ⟨t, L, O, p, h, rfl, gl, hT.ex ex, hpL, by omega, fun H1 ex1 => kk _ ex1⟩))))⟩)
  have h4 : H4 p4 = some (.lst (((partsM O z).map wm).map V.int)) := by rw [h4', List.map_map]; rfl
  obtain ⟨ds, e1, e2, e3⟩ := dp_exists (K := K) (H := H4) 0 V.int ((partsM O z).map wm) fun x hx => ⟨_, .int _, fine_int⟩
  refine b_cons (s_if (t_eq_nil hr (w_var 3 rfl ⟨p4, _, ds, 0, rfl, SqL.of h4, e1, e2, by decide, by simp [e3], fun H5 ex5 => ?_⟩)))
  have hem : (((partsM O z).map wm).map V.int).isEmpty = (partsM O z).isEmpty := by cases partsM O z <;> rfl
  rw [hem]
  have ex05 := ex4.trans ex5
  cases c : (partsM O z).isEmpty with
  | true =>
    refine iteT (b_one (s_ret (w_int ?_)))
    have e : worthM O (decide (h = 1)) n z = 1 := by
      cases n with
      | zero => rfl
      | succ m =>
        unfold worthM
        rw [if_pos c]
    have := hq _ ex05
    rw [e] at this
    exact this
  | false =>
    refine iteF (b_nil ?_)
    obtain ⟨m, rfl⟩ : ∃ m, n = m + 1 := by
      cases e : partsM O z with
      | nil => rw [e] at c; cases c
      | cons a r => exact pm a (by rw [e]; exact List.mem_cons_self)
    have hpos : 0 < ((partsM O z).map wm).length := by
      rw [List.length_map]
      cases e : partsM O z with
      | nil => rw [e] at c; cases c
      | cons a r => exact Nat.succ_pos _
    have hw : worthM O (decide (h = 1)) (m + 1) z = if (O.contains z == decide (h = 1)) = true then ((partsM O z).map wm).sum else maxM ((partsM O z).map wm) := by
      conv => lhs; unfold worthM
      rw [if_neg (by rw [c]; exact Bool.false_ne_true)]
      rfl
    obtain ⟨dx', fs', d', kvs', q0', k1, k2, _, _, k2f, k3, k4, k5⟩ := (hT.ex ex05).parts hz
    refine b_one (s_ret (w_if (t_val (w_meth GF CTc.cls hr (by omega) (w_var 0 rfl ⟨t, dx', fs', rfl, k1, k2f, a_cons (w_var 1 rfl (a_cons (w_var 2 rfl (a_nil ⟨t, L, O, z, h, rfl, gl, hT.ex ex05, hz, fun H6 ex6 => ⟨_, rfl, ?_⟩⟩))))⟩)))))
    have kk := hq _ (ex05.trans ex6)
    rw [hw] at kk
    have h6 : H6 p4 = some (.lst (((partsM O z).map wm).map V.int)) := ex6 _ _ (ex5 _ _ h4)
    cases c2 : (O.contains z == decide (h = 1)) with
    | true =>
      rw [c2, if_pos rfl] at kk
      exact iteT (w_sum B.sum rfl (w_var 3 rfl ⟨p4, _, rfl, SqL.of h6, kk⟩))
    | false =>
      rw [c2, if_neg Bool.false_ne_true] at kk
      exact iteF (w_max B.max rfl (w_var 3 rfl ⟨p4, _, rfl, SqL.of h6, hpos, kk⟩))
def spWorth (CT CG : Addr) : Sp := fun vs H Q _ => ∃ (t : Addr) (L : Wd) (O : List Wd) (h : Int), vs = [.ref t, .int h] ∧ (h = 1 ∨ h = 2) ∧ GoodL L ∧ TreeAt CT CG L O H t ∧ ∀ H', Ex H H' → Q (.int (worthM O (decide (h = 1)) 4 L)) H'
theorem scWorth : FnScope ["self", "hand"] ["self", "hand"] (defScope sWorth) := ⟨rfl, rfl, rfl, by decide +kernel, rfl, by decide +kernel, by decide +kernel⟩
theorem ok_worth {f g1 g2 g3 p3 : Addr} {fd gd1 gd2 gd3 : FuncData} (F : Fun K "worth" "Tree.worth" sWorth f fd) (C : GoalC K CG) (CTc : TreeC K CT) (GN : Gv P w K mg base "need_hand" 3 g1 gd1 ["hand"] spNeedHand) (GW : Gm P w K mg base CT "worth_of" 10 g2 gd2 ["self", "lit", "hand"] (spWorthOf CT CG 4))
    (GL : Gp P w K mg base CG "lamps" 1 p3 g3 gd3 ["self"] (spGoalLamps CG)) : FnOk P w K mg base CX0 11 f fd ["self", "hand"] (spWorth CT CG) := by
  refine F.ok scWorth (fun vs H Q E h => ?_) (fun cdv A outer s H vs Q E hr h => ?_)
  · obtain ⟨t, L, O, h, rfl, _⟩ := h
    rfl
  obtain ⟨t, L, O, h, rfl, hh, gl, hT, hq⟩ := h
  obtain ⟨dx, fs, g, h1, h2, _, hm, _, _, _, _, hG⟩ := hT.goal
  obtain ⟨dg, fg, hg⟩ := hG.ins
  refine b_cons (s_expr (w_call GN hr (by decide) (a_cons (w_var 1 rfl (a_nil ⟨h, rfl, hh, ?_⟩)))))
  exact b_one (s_ret (w_meth GW CTc.cls hr (by decide) (w_var 0 rfl ⟨t, dx, fs, rfl, h1, hm, a_cons (w_prop GL C.cls hr (by decide) (w_fld (w_var 0 rfl ⟨t, CT, dx, fs, _, rfl, h1, CTc.cls, CTc.na1, h2, g, dg, fg, rfl, hg, g, L, O, rfl, hG,
    a_cons (w_var 1 rfl (a_nil ⟨t, L, O, L, h, rfl, gl, hT, self_mem_setsOf L, gl.len.2, hq⟩))⟩)))⟩)))
end
end RG

end

section
set_option Elab.async false
set_option linter.all false
set_option maxRecDepth 100000
set_option maxHeartbeats 4000000
/-! ## a generator that sleeps stays as it sleeps while other code runs, if that code runs well without it -/
namespace RG
open PySem
open Sem (wp)
def Stuck (st : GenState) : Prop := ∃ (m : Resume → String) (l : List Value) (c : Code) (p : Pos) (fs : List Frame) (cl : Bool), st = .suspended (fun r => .unsupported (m r)) l c p fs cl
def GOk : GenState → Prop
  | .suspended _ _ _ _ fs _ => splitAtGen fs = none
  | _ => True
def EOk : End → Prop
  | .ret _ => True
  | .susp _ _ _ _ _ _ fs => splitAtGen fs = none
theorem EOk.gen {e : End} (h : EOk e) : GOk e.genState := by
  cases e with
  | ret r => trivial
  | susp v g l k c p fs => exact h
abbrev Fz := Nat → Option GenState
def real (W : Fz) (s : Shared) : Shared := { s with gens := s.gens.mapIdx fun i st => (W i).getD st }
structure Frz (W : Fz) (s : Shared) : Prop where
  lt : ∀ i Y, W i = some Y → i < s.gens.size
  fz : ∀ i Y st, W i = some Y → s.gens[i]? = some st → Stuck st ∧ st.seen = Y.seen
  ok : ∀ i st, W i = none → s.gens[i]? = some st → GOk st
theorem no_runs {M : Model} {Γ : Ctx} {p : Pos} {m : String} {fs : List Frame} {s s' : Shared} {e : End} (h : Runs M Γ p (.unsupported m) fs s e s') : False := by
  generalize ht : (Sem.unsupported m : Sem PySem.Fin) = t at h
  induction h with
  | segRet _ _ ih1 _ => exact ih1 ht
  | segGen _ _ ih1 _ => exact ih1 ht
  | segSuspOut _ _ ih => exact ih ht
  | segSuspGen _ _ _ _ ih1 _ => exact ih1 ht
  | _ => cases ht
section
variable {W : Fz} {s : Shared}
theorem real_size : (real W s).gens.size = s.gens.size := by simp [real]
theorem real_get {g : Nat} : (real W s).gens[g]? = (s.gens[g]?).map fun st => (W g).getD st := by simp [real]
theorem real_none {g : Nat} {st : GenState} (w : W g = none) (h : s.gens[g]? = some st) : (real W s).gens[g]? = some st := by
  rw [real_get, h, w]
  rfl
theorem real_some {g : Nat} {st Y : GenState} (w : W g = some Y) (h : s.gens[g]? = some st) : (real W s).gens[g]? = some Y := by
  rw [real_get, h, w]
  rfl
theorem gens_ext {a b : Shared} (h1 : a.heap = b.heap) (h2 : a.drawn = b.drawn) (h3 : a.toks = b.toks) (h4 : a.os = b.os) (h : ∀ i : Nat, a.gens[i]? = b.gens[i]?) : a = b := by
  obtain ⟨a1, a2, a3, a4, a5⟩ := a
  obtain ⟨b1, b2, b3, b4, b5⟩ := b
  dsimp only at h1 h2 h3 h4 h
  subst h1 h2 h3 h4
  rw [Array.ext_getElem? h]
theorem real_set {g : Nat} {x : GenState} (w : W g = none) : real W (s.setGen g x) = (real W s).setGen g x := by
  refine gens_ext rfl rfl rfl rfl fun i => ?_
  simp only [real, Shared.setGen, Array.getElem?_mapIdx, Array.getElem?_setIfInBounds, Array.size_mapIdx]
  by_cases e : g = i
  · subst e
    rw [w]
    by_cases q : g < s.gens.size <;> simp [q]
  · simp [e]
theorem real_push {c : GenState} (f : Frz W s) : real W { s with gens := s.gens.push c } = { real W s with gens := (real W s).gens.push c } := by
  refine gens_ext rfl rfl rfl rfl fun i => ?_
  have w : W s.gens.size = none := by
    cases e : W s.gens.size with
    | none => rfl
    | some Y => exact absurd (f.lt _ _ e) (Nat.lt_irrefl _)
  simp only [real, Array.getElem?_mapIdx, Array.getElem?_push, Array.size_mapIdx]
  by_cases e : i = s.gens.size
  · subst e
    simp [w]
  · simp [e]
theorem Frz.same (f : Frz W s) {h d t o} : Frz W { s with heap := h, drawn := d, toks := t, os := o } := ⟨f.lt, f.fz, f.ok⟩
theorem Frz.set {g : Nat} {x : GenState} (f : Frz W s) (w : W g = none) (k : GOk x) : Frz W (s.setGen g x) := by
  refine ⟨fun i Y h => ?_, fun i Y st h1 h2 => ?_, fun i st h1 h2 => ?_⟩
  · simpa [Shared.setGen] using f.lt i Y h
  · have ne : g ≠ i := fun e => by rw [e, h1] at w; cases w
    refine f.fz i Y st h1 ?_
    simpa [Shared.setGen, Array.getElem?_setIfInBounds, ne] using h2
  · by_cases e : g = i
    · subst e
      simp only [Shared.setGen, Array.getElem?_setIfInBounds, if_pos] at h2
      split at h2
      · cases h2
        exact k
      · cases h2
    · refine f.ok i st h1 ?_
      simpa [Shared.setGen, Array.getElem?_setIfInBounds, e] using h2
theorem Frz.push {c : Code} (f : Frz W s) : Frz W { s with gens := s.gens.push (.fresh c) } := by
  refine ⟨fun i Y h => ?_, fun i Y st h1 h2 => ?_, fun i st h1 h2 => ?_⟩
  · have := f.lt i Y h
    rw [Array.size_push]
    omega
  · have := f.lt i Y h1
    refine f.fz i Y st h1 ?_
    rw [Array.getElem?_push, if_neg (by omega)] at h2
    exact h2
  · rw [Array.getElem?_push] at h2
    by_cases e : i = s.gens.size
    · rw [if_pos e] at h2
      cases h2
      trivial
    · rw [if_neg e] at h2
      exact f.ok i st h1 h2
theorem Frz.seen {g : Nat} {st : GenState} (f : Frz W s) (hg : s.gens[g]? = some st) : ∃ st', (real W s).gens[g]? = some st' ∧ st'.seen = st.seen := by
  cases w : W g with
  | none => exact ⟨st, real_none w hg, rfl⟩
  | some Y => exact ⟨Y, real_some w hg, (f.fz g Y st w hg).2.symm⟩
theorem Frz.free {g : Nat} {st : GenState} (f : Frz W s) (hg : s.gens[g]? = some st) (h : ∀ k l c p fs cl, st ≠ .suspended k l c p fs cl) : W g = none := by
  cases w : W g with
  | none => rfl
  | some Y =>
    obtain ⟨⟨_, _, _, _, _, _, z⟩, _⟩ := f.fz g Y _ w hg
    exact absurd z (h _ _ _ _ _ _)
theorem Frz.susp {g : Nat} {k l c p fs cl} (f : Frz W s) (hg : s.gens[g]? = some (.suspended k l c p fs cl)) : (∃ m : Resume → String, k = fun r => .unsupported (m r)) ∨ (W g = none ∧ splitAtGen fs = none) := by
  cases w : W g with
  | none => exact .inr ⟨rfl, f.ok g _ w hg⟩
  | some Y =>
    obtain ⟨⟨m, _, _, _, _, _, z⟩, _⟩ := f.fz g Y _ w hg
    cases z
    exact .inl ⟨m, rfl⟩
end
theorem split_ret_none {k h g l c p kp} {st : List Frame} : splitAtGen (.ret k h g l c p kp :: st) = none ↔ splitAtGen st = none := by
  rw [splitAtGen_ret]
  cases splitAtGen st <;> simp
theorem split_app_none {a b : List Frame} (h1 : splitAtGen a = none) (h2 : splitAtGen b = none) : splitAtGen (a ++ b) = none := by
  rw [splitAtGen_append_none b h1, h2]
  rfl
theorem split_mid {F : Frame} {fs : List Frame} (h : splitAtGen (F :: fs) = none) : splitAtGen fs = none := by
  cases F with
  | ret => exact split_ret_none.mp h
  | gen => rw [splitAtGen_gen] at h; cases h
theorem sim {M : Model} {W : Fz} {Γ : Ctx} {p : Pos} {t : Sem PySem.Fin} {fs : List Frame} {s s' : Shared} {e : End} (h : Runs M Γ p t fs s e s') :
    splitAtGen fs = none → Frz W s → Frz W s' ∧ EOk e ∧ Runs M Γ p t fs (real W s) e (real W s') := by
  induction h with
  | done => exact fun _ f => ⟨f, trivial, .done⟩
  | raise => exact fun _ f => ⟨f, trivial, .raise⟩
  | again q _ ih => exact fun h f => let ⟨a, b, c⟩ := ih h f; ⟨a, b, .again q c⟩
  | rule _ ih => exact fun h f => let ⟨a, b, c⟩ := ih h f; ⟨a, b, .rule c⟩
  | «at» _ ih => exact fun h f => let ⟨a, b, c⟩ := ih h f; ⟨a, b, .at c⟩
  | load ho _ ih => exact fun h f => let ⟨a, b, c⟩ := ih h f; ⟨a, b, .load ho c⟩
  | update ho _ ih => exact fun h f => let ⟨a, b, c⟩ := ih h f.same; ⟨a, b, .update ho c⟩
  | loadIfAlive _ ih => exact fun h f => let ⟨a, b, c⟩ := ih h f; ⟨a, b, .loadIfAlive c⟩
  | point _ ih => exact fun h f => let ⟨a, b, c⟩ := ih h f; ⟨a, b, .point c⟩
  | alloc _ ih => exact fun h f => let ⟨a, b, c⟩ := ih h f.same; ⟨a, b, .alloc c⟩
  | fresh _ ih => exact fun h f => let ⟨a, b, c⟩ := ih h f.same; ⟨a, b, .fresh c⟩
  | ask _ ih => exact fun h f => let ⟨a, b, c⟩ := ih h f; ⟨a, b, .ask c⟩
  | choose hn _ ih => exact fun h f => let ⟨a, b, c⟩ := ih h f.same; ⟨a, b, .choose hn c⟩
  | os _ ih => exact fun h f => let ⟨a, b, c⟩ := ih h f.same; ⟨a, b, .os c⟩
  | handled _ ih => exact fun h f => let ⟨a, b, c⟩ := ih h f; ⟨a, b, .handled c⟩
  | genState hg _ ih =>
    intro h f
    obtain ⟨a, b, c⟩ := ih h f
    obtain ⟨st', h1, h2⟩ := f.seen hg
    rw [← h2] at c
    exact ⟨a, b, .genState h1 c⟩
  | stack _ ih => exact fun h f => let ⟨a, b, c⟩ := ih h f; ⟨a, b, .stack c⟩
  | thread _ ih => exact fun h f => let ⟨a, b, c⟩ := ih h f; ⟨a, b, .thread c⟩
  | newGen _ ih =>
    intro h f
    obtain ⟨a, b, z⟩ := ih h f.push
    rw [real_push f] at z
    refine ⟨a, b, .newGen ?_⟩
    rw [real_size]
    exact z
  | call _ _ ih1 ih2 =>
    intro h f
    obtain ⟨a, b, c⟩ := ih1 rfl f
    obtain ⟨a2, b2, c2⟩ := ih2 h a
    exact ⟨a2, b2, .call c c2⟩
  | callSusp _ ih =>
    intro h f
    obtain ⟨a, b, c⟩ := ih rfl f
    exact ⟨a, split_app_none b (split_ret_none.mpr rfl), .callSusp c⟩
  | yield => exact fun _ f => ⟨f, rfl, .yield⟩
  | resumeFresh hg _ q _ ih1 ih2 =>
    intro h f
    have w := f.free hg (fun _ _ _ _ _ _ z => nomatch z)
    obtain ⟨a, b, c⟩ := ih1 rfl (f.set w trivial)
    obtain ⟨a2, b2, c2⟩ := ih2 h (a.set w b.gen)
    rw [real_set w] at c c2
    exact ⟨a2, b2, .resumeFresh (real_none w hg) c q c2⟩
  | resumeSuspended hg hrun q _ ih1 ih2 =>
    intro h f
    rcases f.susp hg with ⟨m, z⟩ | ⟨w, k⟩
    · subst z
      exact (no_runs hrun).elim
    · obtain ⟨a, b, c⟩ := ih1 k (f.set w trivial)
      obtain ⟨a2, b2, c2⟩ := ih2 h (a.set w b.gen)
      rw [real_set w] at c c2
      exact ⟨a2, b2, .resumeSuspended (real_none w hg) c q c2⟩
  | resumeJustStarted hg hv _ ih =>
    intro h f
    have w := f.free hg (fun _ _ _ _ _ _ z => nomatch z)
    obtain ⟨a, b, z⟩ := ih h f
    exact ⟨a, b, .resumeJustStarted (real_none w hg) hv z⟩
  | resumeThrowFresh hg _ ih =>
    intro h f
    have w := f.free hg (fun _ _ _ _ _ _ z => nomatch z)
    obtain ⟨a, b, z⟩ := ih h (f.set w trivial)
    rw [real_set w] at z
    exact ⟨a, b, .resumeThrowFresh (real_none w hg) z⟩
  | resumeRunning hg _ ih =>
    intro h f
    have w := f.free hg (fun _ _ _ _ _ _ z => nomatch z)
    obtain ⟨a, b, z⟩ := ih h f
    exact ⟨a, b, .resumeRunning (real_none w hg) z⟩
  | resumeFinished hg _ ih =>
    intro h f
    have w := f.free hg (fun _ _ _ _ _ _ z => nomatch z)
    obtain ⟨a, b, z⟩ := ih h f
    exact ⟨a, b, .resumeFinished (real_none w hg) z⟩
  | segRet _ _ ih1 ih2 =>
    intro h f
    obtain ⟨a, b, c⟩ := ih1 rfl f
    obtain ⟨a2, b2, c2⟩ := ih2 (split_ret_none.mp h) a
    exact ⟨a2, b2, .segRet c c2⟩
  | segGen _ _ _ _ =>
    intro h f
    rw [splitAtGen_gen] at h
    cases h
  | segSuspOut hs _ ih =>
    intro h f
    obtain ⟨a, b, c⟩ := ih rfl f
    exact ⟨a, split_app_none b h, .segSuspOut hs c⟩
  | segSuspGen hs _ _ _ _ _ =>
    intro h f
    rw [hs] at h
    cases h
/-! ### ends -/
theorem sim_returns {M : Model} {W : Fz} {Γ : Ctx} {p : Pos} {s s' : Shared} {r : Result} (h : Returns M Γ p s r s') (f : Frz W s) : Frz W s' ∧ Returns M Γ p (real W s) r (real W s') :=
  let ⟨a, _, c⟩ := sim (W := W) h rfl f
  ⟨a, c⟩
theorem sim_wakes {M : Model} {W : Fz} {Γ : Ctx} {p : Pos} {g : Nat} {r : Resume} {s s' : Shared} {res : GenResult} (h : Wakes M Γ p g r s res s') (f : Frz W s) : Frz W s' ∧ Wakes M Γ p g r (real W s) res (real W s') := by
  unfold Wakes at h ⊢
  cases hg : s.gens[g]? with
  | none => rw [hg] at h; exact h.elim
  | some st =>
    rw [hg] at h
    cases w : W g with
    | some Y =>
      obtain ⟨⟨m, _, _, _, _, _, z⟩, _⟩ := f.fz g Y _ w hg
      subst z
      obtain ⟨e1, s1, hr, _⟩ := h
      exact (no_runs hr).elim
    | none =>
      rw [real_none w hg]
      cases st with
      | fresh c =>
        (try dsimp only at h ⊢)
        cases r with
        | throw x =>
          (try dsimp only at h ⊢)
          obtain ⟨rfl, rfl⟩ := h
          exact ⟨f.set w trivial, rfl, real_set w⟩
        | send v =>
          cases v with
          | none =>
            (try dsimp only at h ⊢)
            obtain ⟨e1, s1, hr, q, rfl, rfl⟩ := h
            obtain ⟨a, b, c⟩ := sim (W := W) hr rfl (f.set w trivial)
            rw [real_set w] at c
            exact ⟨a.set w b.gen, e1, _, c, q, rfl, real_set w⟩
          | _ =>
            (try dsimp only at h ⊢)
            obtain ⟨rfl, rfl⟩ := h
            exact ⟨f, rfl, rfl⟩
      | suspended k₀ l c₀ p₀ fs cl =>
        (try dsimp only at h ⊢)
        obtain ⟨e1, s1, hr, q, rfl, rfl⟩ := h
        obtain ⟨a, b, c⟩ := sim (W := W) hr (f.ok g _ w hg) (f.set w trivial)
        rw [real_set w] at c
        exact ⟨a.set w b.gen, e1, _, c, q, rfl, real_set w⟩
      | running =>
        (try dsimp only at h ⊢)
        obtain ⟨rfl, rfl⟩ := h
        exact ⟨f, rfl, rfl⟩
      | finished =>
        (try dsimp only at h ⊢)
        obtain ⟨rfl, rfl⟩ := h
        exact ⟨f, rfl, rfl⟩
theorem wp_sim {α : Type} (M : Model) (Γ : Ctx) (W : Fz) (t : Sem α) : ∀ (Q : α → Pos → Shared → Prop) (E : Value → Pos → Shared → Prop) (p : Pos) (s : Shared), Frz W s → wp M Γ t Q E p s →
    wp M Γ t (fun a p' s' => ∃ u, s' = real W u ∧ Frz W u ∧ Q a p' u) (fun e p' s' => ∃ u, s' = real W u ∧ Frz W u ∧ E e p' u) p (real W s) := by
  induction t with
  | pure a => intro Q E p s hn h; exact ⟨s, rfl, hn, h⟩
  | raise e => intro Q E p s hn h; exact ⟨s, rfl, hn, h⟩
  | unsupported _ => intro Q E p s _ h; exact h
  | finish _ => intro Q E p s _ h; exact h
  | rule _ k ih => intro Q E p s hn h; exact ih () Q E p s hn h
  | «at» p' k ih => intro Q E p s hn h; exact ih () Q E p' s hn h
  | load a _ k ih => intro Q E p s hn h; obtain ⟨o, ho, h⟩ := h; exact ⟨o, ho, ih o Q E p s hn h⟩
  | update a _ f k ih => intro Q E p s hn h; exact ⟨h.1, ih () Q E p _ hn.same h.2⟩
  | loadIfAlive a k ih => intro Q E p s hn h; exact ih _ Q E p s hn h
  | point _ k ih => intro Q E p s hn h; exact ih () Q E p s hn h
  | register _ _ => intro Q E p s _ h; exact h
  | alloc o k ih => intro Q E p s hn h; exact ih _ Q E p _ hn.same h
  | fresh k ih => intro Q E p s hn h; exact ih _ Q E p _ hn.same h
  | ask k ih => intro Q E p s hn h; exact ih _ Q E p s hn h
  | choose src m k ih => intro Q E p s hn h; exact ⟨h.1, ih _ Q E p _ hn.same h.2⟩
  | os q _ k ih => intro Q E p s hn h; exact ih _ Q E p _ hn.same h
  | call c hd _ _ k ih =>
    intro Q E p s hn h
    obtain ⟨r, s', hr, h⟩ := h
    obtain ⟨a, b⟩ := sim_returns hr hn
    exact ⟨r, _, b, ih r Q E p s' a h⟩
  | handled own k ih => intro Q E p s hn h; exact ih _ Q E p s hn h
  | genState g k ih =>
    intro Q E p s hn h
    obtain ⟨st, hs, h⟩ := h
    cases w : W g with
    | none => exact ⟨st, real_none w hs, ih _ Q E p s hn h⟩
    | some Y =>
      rw [(hn.fz g Y st w hs).2] at h
      exact ⟨Y, real_some w hs, ih _ Q E p s hn h⟩
  | newGen c k ih =>
    intro Q E p s hn h
    have z := ih _ Q E p _ hn.push h
    rw [real_push hn] at z
    rw [← real_size (W := W)] at z
    exact z
  | resume g r _ k ih =>
    intro Q E p s hn h
    obtain ⟨res, s', hw, h⟩ := h
    obtain ⟨a, b⟩ := sim_wakes hw hn
    exact ⟨res, _, b, ih res Q E p s' a h⟩
  | yield _ _ _ _ => intro Q E p s _ h; exact h
  | stack k ih => intro Q E p s hn h; exact ih _ Q E p s hn h
  | fork _ _ => intro Q E p s _ h; exact h
  | thread k ih => intro Q E p s hn h; exact ih _ Q E p s hn h
  | await _ _ _ _ _ => intro Q E p s _ h; exact h
end RG

end

section
set_option Elab.async false
set_option linter.all false
set_option maxRecDepth 100000
set_option maxHeartbeats 4000000
/-! ## a generator def whose body is «for x in a list: yield x», piece by piece -/
namespace RG
open PySem PySem.Spec PyProof.Rows
open Sem (wp)
/-- the code at c, the tree t over the frames fs, runs from s to an end that Φ tells -/
def SegP (M : Model) (A : Around) (Φ : End → Shared → Prop) (c : Code) (t : Sem PySem.Fin) (fs : List Frame) (s : Shared) : Prop := ∀ Γ p, Γ.code = c → Γ.Woken A → ∃ e s', Runs M Γ p t fs s e s' ∧ Φ e s'
section
variable {M : Model} {A : Around} {Φ : End → Shared → Prop} {c : Code} {fs : List Frame} {s : Shared}
theorem sp_wrap {α : Type} {m : Sem α} {K : α → Sem PySem.Fin} {H : Value → Sem PySem.Fin} {gd lv} (h : wpAny M (A.over c fs) m (fun a s' => SegP M A Φ c (K a) fs s') (fun x s' => SegP M A Φ c (H x) fs s') s) : SegP M A Φ c (m.wrap K H gd lv) fs s := by
  rintro Γ p rfl hΓ
  exact runs_wrap_of_wp K H gd lv m (h (Γ.over fs) p (hΓ.over fs)) (fun a p' s' h' => h' Γ p' rfl hΓ) (fun x p' s' h' => h' Γ p' rfl hΓ)
theorem sp_at {p' : Pos} {k : Unit → Sem PySem.Fin} (h : SegP M A Φ c (k ()) fs s) : SegP M A Φ c (.at p' k) fs s :=
  sp_wrap (m := standAt p') (K := k) (H := .raise) (gd := id) (lv := id) (wpAny_standAt h)
theorem sp_point {l : List Value} {k : Unit → Sem PySem.Fin} (h : SegP M A Φ c (k ()) fs s) : SegP M A Φ c (.point l k) fs s :=
  sp_wrap (m := point) (K := k) (H := .raise) (gd := id) (lv := fun _ => l) (wpAny_point h)
theorem sp_call {c' : Code} {h g l} {k : Result → Sem PySem.Fin} (hc : ∀ p, SegP M A Φ c' (M.den c') (.ret k h g l c p [] :: fs) s) : SegP M A Φ c (.call c' h g l k) fs s := by
  rintro Γ p rfl hΓ
  obtain ⟨e, s', hr, he⟩ := hc p (Γ.goto c') p rfl (hΓ.goto c')
  exact ⟨e, s', runs_call_seg hr, he⟩
theorem sp_leaf {k h g l c₁ p₁ kp} (r : Result) (hk : SegP M A Φ c₁ (k r) fs s) : SegP M A Φ c (leafOf r) (.ret k h g l c₁ p₁ kp :: fs) s := by
  rintro Γ p rfl hΓ
  obtain ⟨e, s', hr, he⟩ := hk (Γ.goto c₁) p₁ rfl (hΓ.goto c₁)
  exact ⟨e, s', Runs.pop r hr, he⟩
theorem sp_again {c' : Code} (hq : c'.quiet = true) (hc : SegP M A Φ c' (M.den c') fs s) : SegP M A Φ c (.pure (.again c')) fs s := by
  rintro Γ p rfl hΓ
  obtain ⟨e, s', hr, he⟩ := hc (Γ.goto c') p rfl (hΓ.goto c')
  exact ⟨e, s', Runs.head (c₁ := c') (fun _ _ x => .again hq x) hr, he⟩
theorem sp_end (r : Result) (h : Φ (.ret r) s) : SegP M A Φ c (leafOf r) [] s := by
  rintro Γ p rfl _
  exact ⟨.ret r, s, Runs.leaf r, h⟩
theorem sp_yield {v g l} {k : Resume → Sem PySem.Fin} (hfs : splitAtGen fs = none) (h : ∀ p, Φ (.susp v g l k c p fs) s) : SegP M A Φ c (.yield v g l k) fs s := by
  rintro Γ p rfl _
  exact ⟨_, s, Runs.yield' fs hfs, h p⟩
theorem sp_imp {Φ' : End → Shared → Prop} {t : Sem PySem.Fin} (h : SegP M A Φ c t fs s) (k : ∀ e s', Φ e s' → Φ' e s') : SegP M A Φ' c t fs s := fun Γ p h1 h2 => by
  obtain ⟨e, s', hr, he⟩ := h Γ p h1 h2
  exact ⟨e, s', hr, k e s' he⟩
end
/-! ### next(g) -/
def GoesP (M : Model) (A : Around) (Φ : End → Shared → Prop) (gs : GenState) (s : Shared) : Prop :=
  match gs with
  | .fresh c => SegP M A Φ c (M.den c) [] s
  | .suspended k _ c _ fs _ => SegP M A Φ c (k (.send .none)) fs s
  | _ => False
theorem resumeP {M : Model} {A : Around} {Φ : End → Shared → Prop} {E : Value → Shared → Prop} {s : Shared} {g : Nat} {gs : GenState} {l : List Value} {α : Type} {k : GenResult → Sem α} {Q : α → Shared → Prop} (hg : s.gens[g]? = some gs)
    (hgo : GoesP M A Φ gs (s.setGen g .running)) (hΦ : ∀ e s₁, Φ e s₁ → e.quiet = true ∧ wpAny M A (k e.result) Q E (s₁.setGen g e.genState)) : wpAny M A (.resume g (.send .none) l k) Q E s := by
  intro Γ p hΓ
  rw [Sem.wp_resume]
  have hB : ∀ c, (Γ.wake c p).Woken A := fun c => hΓ.wake c p
  cases gs with
  | fresh c =>
    obtain ⟨e₁, s₁, hr, he⟩ := hgo (Γ.wake c p) p rfl (hB c)
    exact ⟨_, _, by unfold Wakes; rw [hg]; exact ⟨e₁, s₁, hr, (hΦ e₁ s₁ he).1, rfl, rfl⟩, (hΦ e₁ s₁ he).2 Γ p hΓ⟩
  | suspended k₀ l₀ c₀ p₀ fs₀ cl =>
    obtain ⟨e₁, s₁, hr, he⟩ := hgo (Γ.wake c₀ p) p₀ rfl (hB c₀)
    exact ⟨_, _, by unfold Wakes; rw [hg]; exact ⟨e₁, s₁, hr, (hΦ e₁ s₁ he).1, rfl, rfl⟩, (hΦ e₁ s₁ he).2 Γ p hΓ⟩
  | running => exact hgo.elim
  | finished => exact hgo.elim
theorem gen_next {prog : Program} {w : World} {A : Around} {E : Value → Shared → Prop} {s : Shared} {a : Addr} {g : Nat} {gs : GenState} {Φ : End → Shared → Prop} {Q : Option Value → Shared → Prop} (hh : A.handled = none) (hl : s.heap.NoLimit) (hroom : A.depth < recursionLimit)
    (hg : s.heap.IsGen a g) (hgs : s.gens[g]? = some gs) (hgo : GoesP (model prog w) A.in1 Φ gs (s.setGen g .running))
    (hΦ : ∀ e s₁, Φ e s₁ → e.quiet = true ∧ match e with
      | .ret r => r = .ok (.ret .none) ∧ ∀ h', (∀ b o, s₁.heap.get? b = some o → h'.get? b = some o) → Q none { s₁.setGen g .finished with heap := h' }
      | .susp v g' l' k' c' p' fs' => Q (some v) (s₁.setGen g (End.susp v g' l' k' c' p' fs').genState)) :
    wpAny (model prog w) A (pyNext (.ref a)) Q E s := by
  unfold pyNext
  refine wpAny_bind (wpAny_attempt (wpAny_callSpecial?_slot (name := Str.ofString "__next__") hg.typeIs slot_gen_next
    (wpAny_call_entry slot_gen_next hg.typeIs entry_gen_next ?_ (args_gen_next _))))
  show wpAny _ A.in1 (Builtin.Generator.genWake (.ref a) (.send .none)) _ _ s
  unfold Builtin.Generator.genWake
  refine wpAny_bind (wpAny_holding (wpAny_genNumber hg (wpAny_bind (wpAny_genState hgs ?_))))
  cases gs with
  | running => exact hgo.elim
  | finished => exact hgo.elim
  | _ =>
    refine wpAny_bind (wpAny_roomToWake hl hroom ?_)
    show wpAny _ A.in1 (.resume g (.send .none) [] _) _ _ s
    refine resumeP hgs hgo fun e s₁ he => ⟨(hΦ e s₁ he).1, ?_⟩
    have h2 := (hΦ e s₁ he).2
    cases e with
    | ret x =>
      obtain ⟨rfl, hp⟩ := h2
      show wpAny _ A.in1 (newExc (.type "StopIteration") [] >>= _) _ _ _
      refine wpAny_bind ?_
      simp only [newExc, newTuple]
      refine wpAny_bind (wpAny_newObj_type ?_ (by size_fits))
      refine wpAny_bind (m := firstArgMember _ _) (wpAny_of_eq (a := Value.none) (by first | rfl | (simp only [firstArgMember]; rfl)) ?_)
      refine wpAny_newObj_type ?_ (by size_fits)
      simp only [raiseNew]
      refine wpAny_bind (wpAny_bind (wpAny_handled ?_))
      first | rw [show A.in1.handled = none from hh] | rw [hh]
      refine wpAny_throw ?_
      refine wpAny_bind (wpAny_isInstance (T := "StopIteration") (b := true) ⟨_, Heap.get?_push_size _ rfl, rfl⟩ isSubtype_stop ?_)
      exact wpAny_pure (hp _ fun b o hb => Heap.get?_push_of_some _ (Heap.get?_push_of_some _ hb))
    | susp v g' l' k' c' p' fs' => exact wpAny_pure ⟨v, rfl, wpAny_pure h2⟩
/-! ### the loop -/
section
variable {prog : Program} {w : World} {A : Around} {Φ : End → Shared → Prop} {fs : List Frame} {s : Shared} {env : Env} {x : Str} {px p1 p2 p3 : Pos} {it : Addr}
/-- the loop's code -/
abbrev loopC (x : Str) (px p1 p2 p3 : Pos) (it : Addr) (env : Env) : Code := .forLoop (.Name x px) (.ref it) [.Expr (.Yield (some (.Name x p1)) p2) p3] [] env
theorem sp_turn (h : wpAny (model prog w) (A.over (loopC x px p1 p2 p3 it env) fs) (pyNext (.ref it)) (fun r s₁ => match r with
      | none => SegP (model prog w) A Φ (loopC x px p1 p2 p3 it env) (.pure (.again (.block [] env))) fs s₁
      | some v => wpAny (model prog w) (A.over (loopC x px p1 p2 p3 it env) fs) (letOwnedTupleGo (.Name x px) (.ref it) v) (fun _ s₂ =>
          wpAny (model prog w) (A.over (loopC x px p1 p2 p3 it env) fs) (assign (.Name x px) env v) (fun _ s₃ =>
            wpAny (model prog w) (A.over (loopC x px p1 p2 p3 it env) fs) (eval (.Name x p1) env) (fun u s₄ => ∀ (l : List Value) (k : Resume → Sem PySem.Fin) (p : Pos), (∀ (Φ' : End → Shared → Prop) s', SegP (model prog w) A Φ' (loopC x px p1 p2 p3 it env) ((model prog w).den (loopC x px p1 p2 p3 it env)) fs s' →
                SegP (model prog w) A Φ' (loopC x px p1 p2 p3 it env) (k (.send .none)) fs s') → Φ (.susp u false l k (loopC x px p1 p2 p3 it env) p fs) s₄) (fun _ _ => False) s₃) (fun _ _ => False) s₂) (fun _ _ => False) s₁) (fun _ _ => False) s) (hfs : splitAtGen fs = none) (hco : env.scope.isCoroutine = false) (hi : interactive env = false) :
    SegP (model prog w) A Φ (loopC x px p1 p2 p3 it env) ((model prog w).den (loopC x px p1 p2 p3 it env)) fs s := by
  show SegP _ A Φ _ ((forTurn (.Name x px) (.ref it) [.Expr (.Yield (some (.Name x p1)) p2) p3] [] env).onRaise (fun x => do noteFrame x env; theTreesLotGoes x)) fs s
  unfold forTurn
  rw [Sem.onRaise_eq_wrap, Sem.bind_eq_wrap', Sem.wrap_wrap]
  refine sp_wrap (wpAny_standAt ?_)
  rw [Sem.bind_eq_wrap', Sem.wrap_wrap]
  refine sp_wrap (wpAny_onRaise (wpAny_mono h (fun r s₁ h₁ => ?_) fun _ _ z => z.elim))
  cases r with
  | none => exact h₁
  | some v =>
    dsimp only at h₁ ⊢
    rw [Sem.bind_eq_wrap', Sem.wrap_wrap]
    refine sp_wrap (wpAny_mono h₁ (fun _ s₂ h₂ => ?_) fun _ _ z => z.elim)
    rw [Sem.bind_eq_wrap', Sem.wrap_wrap]
    refine sp_wrap (wpAny_mono h₂ (fun _ s₃ h₃ => ?_) fun _ _ z => z.elim)
    rw [Sem.bind_eq_wrap', Sem.wrap_wrap, execs_cons_wrap]
    rw [exec_Expr env _ p3 hi rfl]
    have hy : ∀ v, yieldOut env v = yieldValue v := fun v => by simp only [yieldOut, hco, Bool.false_eq_true, if_false]
    show SegP (model prog w) A Φ _ (.at p3 fun _ => ((eval (.Name x p1) env >>= fun v => (standAt p2 >>= fun _ => yieldOut env v)) >>= fun x' => dropValue (.Yield (some (.Name x p1)) p2) p3 x').wrap _ _ _ _) fs s₃
    simp only [hy]
    refine sp_at ?_
    rw [Sem.bind_eq_wrap', Sem.bind_eq_wrap', Sem.wrap_wrap, Sem.wrap_wrap]
    refine sp_wrap (wpAny_mono h₃ (fun u s₄ h₄ => ?_) fun _ _ z => z.elim)
    refine sp_at (sp_yield hfs fun p => h₄ _ _ p fun Φ' s' hs => ?_)
    exact sp_again rfl hs
end
end RG

end

section
set_option Elab.async false
set_option linter.all false
set_option maxRecDepth 100000
set_option maxHeartbeats 4000000
namespace RG
open PySem PySem.Spec PyProof.Rows
open Sem (wp)
/-- a generator that sleeps within its loop: its frame's names at C, its iterator at it over the list at p -/
structure GSt (C it p : Addr) (us : List Value) (j : Nat) (h : Heap) : Prop where
  ns : ∃ m, h.Ns C m
  itr : h.IsListIter it p j
  ls : h.IsList p us.toArray
def Since (C it : Addr) (s s1 : Shared) : Prop := ∃ h1 tk, s1 = { s with heap := h1, toks := tk } ∧ ∀ b o, b ≠ it → b ≠ C → s.heap.get? b = some o → h1.get? b = some o
def PhiL (G : GenState → Prop) (C it p : Addr) (us : List Value) (m j : Nat) (s : Shared) (e : End) (s1 : Shared) : Prop := Since C it s s1 ∧ match m with
  | 0 => e = .ret (.ok (.ret .none))
  | _ + 1 => ∃ v l k c p₀ fs, e = .susp v false l k c p₀ fs ∧ fs.any Frame.guarded = false ∧ us[j]? = some v ∧ GSt C it p us (j + 1) s1.heap ∧ G e.genState
def Good (M : Model) (A : Around) (C it p : Addr) (us : List Value) : Nat → GenState → Prop
  | 0, gs => ∃ k l c p₀ fs, gs = .suspended k l c p₀ fs false ∧ ∀ s, GSt C it p us us.length s.heap → SegP M A (PhiL (fun _ => True) C it p us 0 us.length s) c (k (.send .none)) fs s
  | m + 1, gs => ∃ k l c p₀ fs, gs = .suspended k l c p₀ fs false ∧ ∀ s j, j + (m + 1) = us.length → GSt C it p us j s.heap → SegP M A (PhiL (Good M A C it p us m) C it p us (m + 1) j s) c (k (.send .none)) fs s
section
variable {prog : Program} {w : World} {A : Around} {fs : List Frame} {env : Env} {x : Str} {px p1 p2 p3 : Pos} {it p : Addr} {us : List Value}
theorem gen_loop (hd : (A.over (loopC x px p1 p2 p3 it env) fs).handled = none) (hkind : env.scope.kind = .function) (hx : env.kindOf x = some .local) (hnd : (x == ("__debug__" : Str)) = false) (h1 : env.locals ≠ it) (h2 : p ≠ it) (h3 : p ≠ env.locals) (hfs : splitAtGen fs = none) (hgd : fs.any Frame.guarded = false)
    (hco : env.scope.isCoroutine = false) (hi : interactive env = false)
    (hend : ∀ (Φ : End → Shared → Prop) s, Φ (.ret (.ok (.ret .none))) s → SegP (model prog w) A Φ (loopC x px p1 p2 p3 it env) (.pure (.again (.block [] env))) fs s) :
    ∀ (m j : Nat) (s : Shared), j + m = us.length → GSt env.locals it p us j s.heap →
      SegP (model prog w) A (PhiL (match m with | 0 => fun _ => True | m' + 1 => Good (model prog w) A env.locals it p us m') env.locals it p us m j s) (loopC x px p1 p2 p3 it env) ((model prog w).den (loopC x px p1 p2 p3 it env)) fs s := by
  intro m
  induction m with
  | zero =>
    intro j s hj ⟨⟨mm, hns⟩, hit, hls⟩
    refine sp_turn ?_ hfs hco hi
    refine wpAny_pyNext_list_end hd hit hls (by simp; omega) fun h' eb => ?_
    refine hend _ _ ⟨⟨h', s.toks, rfl, fun b o hb _ e => eb b o hb e⟩, rfl⟩
  | succ m ih =>
    intro j s hj ⟨⟨mm, hns⟩, hit, hls⟩
    refine sp_turn ?_ hfs hco hi
    obtain ⟨v, hv⟩ : ∃ v, us[j]? = some v := ⟨us[j]'(by omega), List.getElem?_eq_getElem (by omega)⟩
    refine wpAny_pyNext_list_item hit hls (x := v) (by simpa using hv) fun h' st' sb => ?_
    obtain ⟨o, e, c, d⟩ := id st'
    refine L2.go_of (s := { s with heap := h' }) e c d (by decide) ?_
    have ns' : h'.Ns env.locals mm := hns.at' fun o e => (sb.2 _ h1).trans e
    refine wpAny_assign_Name (wpAny_storeName_local hx ns' (fun h2' ns2 sb2 => ?_) (by rw [hkind]; rfl))
    refine wpAny_Name (wpAny_loadName_local (m := fun y => if y = x then some v else mm y) hkind hx ns2 (if_pos rfl) ?_) hnd
    intro l k p₀ hk
    have hst : GSt env.locals it p us (j + 1) h2' := ⟨⟨_, ns2⟩, st'.at fun o e => (sb2.2 _ (Ne.symm h1)).trans e, by
      obtain ⟨ol, hol, hc, nl, hdl⟩ := hls
      exact ⟨ol, (sb2.2 _ h3).trans ((sb.2 _ h2).trans hol), hc, nl, hdl⟩⟩
    refine ⟨⟨h2', _, rfl, fun b o hb hc e => (sb2.2 _ hc).trans ((sb.2 _ hb).trans e)⟩, v, l, k, _, p₀, fs, rfl, hgd, hv, hst, ?_⟩
    have eg : (End.susp v false l k (loopC x px p1 p2 p3 it env) p₀ fs).genState = .suspended k l (loopC x px p1 p2 p3 it env) p₀ fs false := by
      show GenState.suspended k l _ p₀ fs (false || fs.any Frame.guarded) = _
      rw [hgd]
      rfl
    rw [eg]
    cases m with
    | zero => exact ⟨k, l, _, p₀, fs, rfl, fun s' hs' => hk _ s' (ih us.length s' (by omega) hs')⟩
    | succ m' => exact ⟨k, l, _, p₀, fs, rfl, fun s' j' hj' hs' => hk _ s' (ih j' s' hj' hs')⟩
end
end RG

end

section
set_option Elab.async false
set_option linter.all false
set_option maxRecDepth 100000
set_option maxHeartbeats 4000000
namespace RG
open PySem PySem.Spec PyProof.Rows
open Sem (wp)
/-- the generator's first run: the list is made, the first item is out -/
def PhiF (M : Model) (A : Around) (C : Addr) (FF : Addr → List Value → Shared → Prop) (e : End) (sE : Shared) : Prop :=
  ∃ p us s1 it m, FF p us s1 ∧ s1.heap.objs.size ≤ it ∧ us.length = m + 1 ∧ (∃ hE tk, sE = { s1 with heap := hE, toks := tk } ∧ ∀ b o, b ≠ C → s1.heap.get? b = some o → hE.get? b = some o) ∧
    ∃ v l k c p₀ fs, e = .susp v false l k c p₀ fs ∧ fs.any Frame.guarded = false ∧ us[0]? = some v ∧ GSt C it p us 1 sE.heap ∧ Good M A C it p us m e.genState
section
variable {prog : Program} {w : World} {A : Around} {env : Env} {x : Str} {px p1 p2 p3 pos : Pos} {iter : Expr} {s : Shared} {FF : Addr → List Value → Shared → Prop}
theorem gen_first (hd : A.handled = none) (hkind : env.scope.kind = .function) (hx : env.kindOf x = some .local) (hnd : (x == ("__debug__" : Str)) = false) (hco : env.scope.isCoroutine = false) (hi : interactive env = false)
    (hs : ∀ x, foldedSetIterable iter env x = pure x)
    (h : wpAny (model prog w) (A.deeper env) (eval iter env) (fun v s1 => ∃ p us, v = .ref p ∧ s1.heap.IsList p us.toArray ∧ 0 < us.length ∧ (∃ m, s1.heap.Ns env.locals m) ∧ p ≠ env.locals ∧ FF p us s1) (fun _ _ => False) s) :
    SegP (model prog w) A (PhiF (model prog w) A env.locals FF) (.func [.For (.Name x px) iter [.Expr (.Yield (some (.Name x p1)) p2) p3] [] pos] env)
      ((model prog w).den (.func [.For (.Name x px) iter [.Expr (.Yield (some (.Name x p1)) p2) p3] [] pos] env)) [] s := by
  show SegP _ A _ _ (.point [] fun _ => ((execs _ env).onRaise (leaving env)) >>= _) [] s
  refine sp_point ?_
  rw [Sem.onRaise_eq_wrap, Sem.bind_eq_wrap', Sem.wrap_wrap]
  rw [Sem.wrap_congr (execs _ env) _ _ (K' := fun f => .pure (.done (.ret (match f with | .ret v => v | _ => .none))))
    (H' := fun e => (leaving env e).wrap (fun _ => .raise e) .raise id id) (fun f => by cases f <;> rfl)
    (fun e => by rw [Sem.bind_eq_wrap, Sem.wrap_wrap]; rfl)]
  rw [execs_cons_wrap, exec_For]
  refine sp_at ?_
  show SegP (model prog w) A _ _ (Sem.wrap _ _ _ _ (eval iter env >>= fun v => foldedSetIterable iter env v >>= fun xv => standAt iter.pos >>= fun _ => holding [xv] (pyIter xv) >>= fun itv => runOwn (.forLoop (.Name x px) itv [.Expr (.Yield (some (.Name x p1)) p2) p3] [] env) env)) [] s
  rw [Sem.bind_eq_wrap' (eval iter env), Sem.wrap_wrap]
  refine sp_wrap ?_
  rw [GenW.over_func]
  refine wpAny_mono h (fun v s1 h1 => ?_) fun _ _ z => z.elim
  obtain ⟨p, us, rfl, hls, hpos, ⟨mm, hns⟩, hpc, hff⟩ := h1
  rw [hs]
  show SegP (model prog w) A _ _ (Sem.wrap _ _ _ _ (.at iter.pos fun _ => (holding [.ref p] (pyIter (.ref p)) >>= fun itv => runOwn (.forLoop (.Name x px) itv [.Expr (.Yield (some (.Name x p1)) p2) p3] [] env) env))) [] s1
  refine sp_at ?_
  show SegP (model prog w) A _ _ (Sem.wrap _ _ _ _ (holding [.ref p] (pyIter (.ref p)) >>= fun itv => runOwn (.forLoop (.Name x px) itv [.Expr (.Yield (some (.Name x p1)) p2) p3] [] env) env)) [] s1
  rw [Sem.bind_eq_wrap' (holding [.ref p] (pyIter (.ref p))), Sem.wrap_wrap]
  refine sp_wrap (wpAny_holding (wpAny_pyIter_list hls ?_))
  refine sp_call fun pp => ?_
  have hplt : p < s1.heap.objs.size := by
    obtain ⟨o, ho, _⟩ := hls
    exact Heap.lt_size ho
  have hClt : env.locals < s1.heap.objs.size := hns.lt
  have hns2 : (s1.heap.push { cls := .type "list_iterator", data := .fields #[.ref p, .int 0 0] }).Ns env.locals mm := hns.at' fun o e => Heap.get?_push_of_some _ e
  have hst : GSt env.locals s1.heap.objs.size p us 0 (s1.heap.push { cls := .type "list_iterator", data := .fields #[.ref p, .int 0 0] }) := ⟨⟨mm, hns2⟩, ⟨_, Heap.get?_push_size _ rfl, rfl, rfl⟩, by
    obtain ⟨ol, hol, hc, nl, hdl⟩ := hls
    exact ⟨ol, Heap.get?_push_of_some _ hol, hc, nl, hdl⟩⟩
  obtain ⟨m, hm⟩ : ∃ m, us.length = m + 1 := ⟨us.length - 1, by omega⟩
  have over : ∀ {it : Addr} {k : Result → Sem PySem.Fin} {g : Bool} {l kp : List Value} {p : Pos}, A.over (loopC x px p1 p2 p3 it env) (.ret k none g l (.func [.For (.Name x px) iter [.Expr (.Yield (some (.Name x p1)) p2) p3] [] pos] env) p kp :: []) = A.deeper env := fun {it k g l kp p} => (GenW.over_loop rfl rfl).trans GenW.over_func
  refine sp_imp (gen_loop (p := p) (us := us) (by rw [over]; exact hd) hkind hx hnd (Nat.ne_of_lt hClt) (Nat.ne_of_lt hplt) hpc rfl rfl hco hi (fun Φ s' hΦ => ?_) (m + 1) 0 _ (by omega) hst) fun e sE hE => ?_
  · refine sp_again rfl ?_
    show SegP _ _ _ _ (leafOf (.ok .next)) _ _
    refine sp_leaf (.ok .next) ?_
    show SegP _ _ _ _ (leafOf (.ok (.ret .none))) [] _
    exact sp_end _ hΦ
  · obtain ⟨⟨h1, tk, rfl, hk⟩, v, l, k, c, p₀, fs, e1, e2, e3, e4, e5⟩ := hE
    refine ⟨p, us, s1, s1.heap.objs.size, m, hff, Nat.le_refl _, hm, ⟨h1, tk, rfl, fun b o hb e => hk b o (Nat.ne_of_lt (Heap.lt_size e)) hb (Heap.get?_push_of_some _ e)⟩, v, l, k, c, p₀, fs, e1, e2, e3, e4, e5⟩
end
end RG

end

section
set_option Elab.async false
set_option linter.all false
set_option maxRecDepth 100000
set_option maxHeartbeats 4000000
namespace RG
open PySem L2 Evl PySem.Spec PyProof.Rows
/-! ## the first run: the generator's list, reckoned in its own frame -/
section
variable {X : Cx} {pins : List (Addr × Obj)} {σ : L2.St} {H : Hp} {s : Shared} {C : Addr} {env : Env} {mm : Str → Option Value}
/-- a frame that is not the context's: its names at C -/
structure Fr2 (X : Cx) (pins : List (Addr × Obj)) (σ : L2.St) (H : Hp) (C : Addr) (mm : Str → Option Value) (s : Shared) : Prop where
  inv : Inv X pins σ H s
  fp : FpOk X pins H C
  ns : s.heap.Ns C mm
theorem Fr2.tok (f : Fr2 X pins σ H C mm s) (t : Nat) : Fr2 X pins σ H C mm { s with toks := t } := ⟨f.inv.tok t, f.fp, f.ns⟩
theorem Fr2.baseNone (f : Fr2 X pins σ H C mm s) : X.base.get? C = none := by
  cases e : X.base.get? C with
  | none => rfl
  | some o =>
    rcases f.fp.2.2.2.1 with h | h
    · exact absurd h (f.inv.ok.noex C o e)
    · exact absurd (Nat.lt_of_lt_of_le (Heap.lt_size e) (Nat.le_trans f.inv.ok.bsz h)) (Nat.lt_irrefl _)
theorem Fr2.env0 (f : Fr2 X pins σ H C mm s) (hf : env.frame = some C) (hk : env.scope.kind = .function) : Env0 X.prog X.w X.K X.mg X.base (X.A.in1.deeper env) (env :: X.stack) s H := by
  have e := f.inv.env0.in1
  refine ⟨Around.frames_deeper e.frames, e.mod, e.bs, e.bsz, .cons (by rw [hk]; decide) hf f.ns f.baseNone e.funs, fun b hb => ?_, e.hok, e.bare⟩
  unfold frs at hb
  rw [List.filterMap_cons, hf] at hb
  rcases List.mem_cons.mp hb with h | h
  · rw [h]; exact f.fp.1
  · exact e.frf b h
/-- behind a call made there -/
theorem Fr2.after {Q : VK} {u : Value} {s' : Shared} (f : Fr2 X pins σ H C mm s) (hf : env.frame = some C) (h : CE (env :: X.stack) X.prog X.w H s Q u s') : ∃ v H', Fr2 X pins σ H' C mm s' ∧ RelV v u ∧ Q v H' := by
  obtain ⟨v, H', os, bare, un, hok, r, q⟩ := h
  have efr : frs (env :: X.stack) = C :: frs X.stack := by unfold frs; rw [List.filterMap_cons, hf]
  rw [efr] at un
  have un2 : Un (frs X.stack) [C] H H' s.heap s'.heap := ⟨fun b o e n h1 h2 => un.keep b o e n (fun z => (List.mem_cons.mp z).elim (fun z => h2 (List.mem_singleton.mpr z)) h1) (by simp),
    fun b o e n h1 h2 => un.slot b o e n (List.mem_cons_of_mem _ h1) (by simp), fun b o e n h2 => un.free b o e n (by simp), fun b o e h2 => un.there b o e (by simp), un.tups, un.frzs, un.tbls⟩
  obtain ⟨o, es, ep, ho, hr⟩ := f.ns
  obtain ⟨sl, hL⟩ := un.any ho f.fp.1 (by simp)
  refine ⟨v, H', ⟨f.inv.call' (ch := [C]) os un2 hok bare fun b hb => ?_, ⟨un.free C o ho f.fp.1 (by simp), f.fp.2⟩, ⟨_, es, ep, hL, hr⟩⟩, r, q⟩
  rw [List.mem_singleton.mp hb]
  exact ⟨f.fp.2.2.2.1, f.fp.2.1, f.fp.2.2.2.2.1, f.fp.2.2.2.2.2⟩
theorem Fr2.call {k : Nat} {g : Addr} {fd : FuncData} {ps : List Str} {sp : Sp} {Q : VK} {us : List Value} {vs : List V} {B : Around} (f : Fr2 X pins σ H C mm s) (hf : env.frame = some C) (hk : env.scope.kind = .function) (F : FnOk X.prog X.w X.K X.mg X.base CX0 k g fd ps sp) (hb : Binds X.K fd ps [])
    (hB : B = X.A.in1.deeper env ∨ B = (X.A.in1.deeper env).in1) (hr : Room k B) (r : Vals vs us) (h : sp vs H Q E0) :
    codeAny (model X.prog X.w) B (.call (.ref g) ⟨us, []⟩) (fun r s' => match r with | .ok (.ret u) => ∃ v H', Fr2 X pins σ H' C mm s' ∧ RelV v u ∧ Q v H' | _ => False) s := by
  have hl : (us ++ []).length = ps.length := by rw [List.append_nil, ← r.length]; exact F.len _ _ _ _ h
  have b2 := hb s us f.inv.kIn hl
  rw [List.append_nil] at b2
  have e0 : Env0 X.prog X.w X.K X.mg X.base B (env :: X.stack) s H := by
    rcases hB with rfl | rfl
    · exact f.env0 hf hk
    · exact (f.env0 hf hk).in1
  refine codeAny_mono (F.run B (env :: X.stack) s H ⟨us, []⟩ us vs Q E0 hr e0 b2 r h) fun r s' hq => ?_
  cases r with
  | error e => exact hq.elim
  | ok fl =>
    cases fl with
    | ret u => exact f.after hf hq
    | next => exact hq.elim
    | brk => exact hq.elim
    | cont => exact hq.elim
end
section
variable {X : Cx} {pins : List (Addr × Obj)} {σ : L2.St} {H : Hp} {s : Shared} {C : Addr} {env : Env} {mm : Str → Option Value} {CG CT : Addr} {t : Addr} {L : Wd} {O : List Wd} {a1 a2 a3 a4 a5 a6 : Pos} {g1 g2 p2 : Addr} {gd1 gd2 : FuncData}
theorem gen_iter (f : Fr2 X pins σ H C mm s) (hloc : env.locals = C) (hf : env.frame = some C) (hk : env.scope.kind = .function) (hself : env.kindOf "self" = some .local) (hm : mm "self" = some (.ref t)) (hr : Room 7 X.A) (Cg : GoalC X.K CG) (CTc : TreeC X.K CT)
    (GB : Gm X.prog X.w X.K X.mg X.base CT "branches_from" 5 g1 gd1 ["self", "lit"] (spBranches CT CG 4)) (GL : Gp X.prog X.w X.K X.mg X.base CG "lamps" 1 p2 g2 gd2 ["self"] (spGoalLamps CG)) (gl : GoodL L) (hT : TreeAt CT CG L O H t) {pl : Sem Bool}
    (hb1 : attributeBase (.Attribute (.Name "self" a3) "own_goal" a4) "lamps" env (eval (.Attribute (.Name "self" a3) "own_goal" a4) env) = eval (.Attribute (.Name "self" a3) "own_goal" a4) env)
    (hb2 : attributeBase (.Name "self" a3) "own_goal" env (eval (.Name "self" a3) env) = eval (.Name "self" a3) env)
    (hst : starEach [.Attribute (.Attribute (.Name "self" a3) "own_goal" a4) "lamps" a5] env = (false, eval (.Attribute (.Attribute (.Name "self" a3) "own_goal" a4) "lamps" a5) env) :: starEach [] env)
    (ht : eval (.Call (.Attribute (.Name "self" a1) "branches_from" a2) [.Attribute (.Attribute (.Name "self" a3) "own_goal" a4) "lamps" a5] [] a6) env = (do
      let ov ← eval (.Name "self" a1) env
      standAt a2.atName
      let (f, first) ← holding [ov] (getMethod ov "branches_from" pl)
      callWith a6 f first (backTo a6 (starEach [.Attribute (.Attribute (.Name "self" a3) "own_goal" a4) "lamps" a5] env)) (backToKw a6 (keywordEach [] env)))) :
    wpAny (model X.prog X.w) (X.A.in1.deeper env) (eval (.Call (.Attribute (.Name "self" a1) "branches_from" a2) [.Attribute (.Attribute (.Name "self" a3) "own_goal" a4) "lamps" a5] [] a6) env)
      (fun u s' => ∃ p H', u = .ref p ∧ Fr2 X pins σ H' C mm s' ∧ H p = none ∧ Ex H H' ∧ BrAt H' p (branchesM O 4 L)) (fun _ _ => False) s := by
  have hr6 : Room 6 X.A.in1 := hr.in1
  have hrB : Room 5 (X.A.in1.deeper env) := hr6.deeper env
  obtain ⟨dx, fs, g, h1, h2, hmb, _, _, _, _, _, hG⟩ := hT.goal
  obtain ⟨dg, fg, hg⟩ := hG.ins
  have self_ : ∀ {A : Around} {E : Value → Shared → Prop} {Q : Value → Shared → Prop} {pos : Pos} {s' : Shared}, s'.heap.Ns C mm → Q (.ref t) s' → wpAny (model X.prog X.w) A (eval (.Name "self" pos) env) Q E s' := fun {A E Q pos s'} hn hq =>
    wpAny_Name (wpAny_loadName_local (m := mm) hk hself (by rw [hloc]; exact hn) hm hq) (by decide)
  refine PySem.W.methodCall_KW (pl := pl) (self_ f.ns ?_) ht
  refine getmeth_ok f.inv h1 CTc.cls GB.mt hmb ?_
  refine PySem.W.callWith_K (first := [.ref t]) (h₀ := X.base) f.inv.ok.mod.kin GB.mt.kp ?_ hst rfl
  have hst2 : backTo a6 (starEach [.Attribute (.Attribute (.Name "self" a3) "own_goal" a4) "lamps" a5] env) = backTo a6 ((false, eval (.Attribute (.Attribute (.Name "self" a3) "own_goal" a4) "lamps" a5) env) :: starEach [] env) := by rw [hst]
  rw [hst2]
  refine Calls.spliced_cons ?_
  refine attr_of hb1 (attr_of hb2 (self_ f.ns ?_))
  obtain ⟨mA, OA, rA, _, _, _⟩ := ins_get f.inv.hok h1
  obtain ⟨u, hu, ru⟩ := RelO.some_of (v := V.ref g) (o := mA "own_goal") (by rw [← h2]; exact rA _)
  refine get_map f.inv.kIn OA (CTc.cls.get _) CTc.cls.hd CTc.na1 hu (handed_of ru) ?_
  obtain rfl : u = Value.ref g := ru
  have f1 := f.tok (s.toks + 1)
  -- the property
  obtain ⟨mG, OG, _, _, _, _⟩ := ins_get f1.inv.hok hg
  obtain ⟨od, J, _⟩ := OG.look
  obtain ⟨rest, hrec⟩ := GL.pr.rec_
  have hc : (PySem.W.clsIn X.K CG).isSome = true := by
    obtain ⟨cd, hc, _⟩ := PySem.W.any_some Cg.cls.hd
    rw [hc]
    rfl
  refine PySem.W.get_bind f1.inv.kIn J (PySem.W.plainGet_of (Cg.cls.get "lamps")).1 (PySem.W.findObj_data hc GL.pr.at_ GL.pr.get GL.pr.tak) (PySem.W.plainGet_of (Cg.cls.get "lamps")).2 (wpAny_call (PySem.W.prop_get (s := { s with toks := s.toks + 1 + 1 }) f1.inv.kIn hrec ?_))
  have f2 := f.tok (s.toks + 1 + 1)
  refine codeAny_mono (f2.call (vs := [V.ref g]) (us := [Value.ref g]) (Q := fun v H' => v = VS L ∧ H' = H) hf hk GL.ok GL.bd (.inr rfl) (hrB.mono (by decide)).in1 (.cons rfl .nil) ⟨g, L, O, rfl, hG, rfl, rfl⟩) fun r s1 hq => ?_
  cases r with
  | error e => exact hq.elim
  | ok fl =>
    cases fl with
    | next => exact hq.elim
    | brk => exact hq.elim
    | cont => exact hq.elim
    | ret u1 =>
      obtain ⟨v1, H1, f3, rv, ev, eH⟩ := hq
      subst ev eH
      show wpAny _ _ (handedOut u1) _ _ _
      rw [PySem.W.handedOut_of (handed_of rv)]
      refine wpAny_pure (Calls.spliced_nil ⟨f3.inv.kIn, ?_⟩)
      refine wpAny_call (codeAny_mono (f3.call (vs := [V.ref t, VS L]) (Q := fun v H' => ∃ p, v = .ref p ∧ H1 p = none ∧ Ex H1 H' ∧ BrAt H' p (branchesM O 4 L)) hf hk GB.ok GB.bd (.inl rfl) hrB (us := [.ref t, u1]) (.cons rfl (.cons rv .nil))
        ⟨t, L, O, L, rfl, gl, hT, self_mem_setsOf L, gl.len.2, fun p H' hp ex hB => ⟨p, rfl, hp, ex, hB⟩⟩) fun r s2 hq => ?_)
      cases r with
      | error e => exact hq.elim
      | ok fl =>
        cases fl with
        | next => exact hq.elim
        | brk => exact hq.elim
        | cont => exact hq.elim
        | ret u2 =>
          obtain ⟨v2, H2, f4, rv2, p, ev2, hp, ex, hB⟩ := hq
          subst ev2
          obtain rfl : u2 = Value.ref p := rv2
          exact ⟨p, H2, rfl, f4, hp, ex, hB⟩
end
end RG

end

section
set_option Elab.async false
set_option linter.all false
set_option maxRecDepth 100000
set_option maxHeartbeats 4000000
namespace RG
open PySem L2 Evl PySem.Spec PyProof.Rows
/-! ## the frame rule -/
def stuckify : GenState → GenState
  | .suspended _ l c p fs cl => .suspended (fun _ => .unsupported "") l c p fs cl
  | st => st
def froz (s : Shared) : Fz := fun i => match s.gens[i]? with
  | some (.suspended k l c p fs cl) => some (.suspended k l c p fs cl)
  | _ => none
def stuckS (s : Shared) : Shared := { s with gens := s.gens.map stuckify }
theorem stuck_get (s : Shared) (i : Nat) : (stuckS s).gens[i]? = (s.gens[i]?).map stuckify := by simp [stuckS]
theorem stuck_bare {s : Shared} (h : AllBare s.gens) : AllBare (stuckS s).gens := fun y hy => by
  obtain ⟨x, hx, rfl⟩ := Array.mem_map.mp (show y ∈ s.gens.map stuckify from hy)
  have := h x hx
  cases x <;> exact this
theorem froz_ok (s : Shared) : Frz (froz s) (stuckS s) := by
  refine ⟨fun i Y h => ?_, fun i Y st h1 h2 => ?_, fun i st h1 h2 => ?_⟩
  · unfold froz at h
    cases e : s.gens[i]? with
    | none => rw [e] at h; cases h
    | some x =>
      have := (Array.getElem?_eq_some_iff.mp e).1
      simpa [stuckS] using this
  · rw [stuck_get] at h2
    unfold froz at h1
    cases e : s.gens[i]? with
    | none => rw [e] at h1; cases h1
    | some x =>
      rw [e] at h1 h2
      cases x <;> cases h1
      cases h2
      exact ⟨⟨fun _ => "", _, _, _, _, _, rfl⟩, rfl⟩
  · rw [stuck_get] at h2
    unfold froz at h1
    cases e : s.gens[i]? with
    | none => rw [e] at h2; cases h2
    | some x =>
      rw [e] at h1 h2
      cases x with
      | suspended => cases h1
      | fresh => cases h2; trivial
      | running => cases h2; trivial
      | finished => cases h2; trivial
theorem real_stuck (s : Shared) : real (froz s) (stuckS s) = s := by
  refine gens_ext rfl rfl rfl rfl fun i => ?_
  rw [real_get, stuck_get]
  cases e : s.gens[i]? with
  | none => rfl
  | some x =>
    show some ((froz s i).getD (stuckify x)) = some x
    unfold froz
    rw [e]
    cases x <;> rfl
/-- a sleeping generator sleeps on -/
theorem frame {α : Type} {M : Model} {A : Around} {t : Sem α} {Q0 : α → Shared → Prop} {s : Shared} {g : Nat} {k l c p fs cl} (hg : s.gens[g]? = some (.suspended k l c p fs cl)) (hb : AllBare s.gens)
    (h : ∀ u : Shared, u.heap = s.heap → u.os = s.os → AllBare u.gens → wpAny M A t Q0 (fun _ _ => False) u) :
    wpAny M A t (fun a s' => s'.gens[g]? = some (.suspended k l c p fs cl) ∧ ∃ u, Q0 a u ∧ s'.heap = u.heap ∧ s'.os = u.os ∧ (AllBare u.gens → AllBare s'.gens)) (fun _ _ => False) s := by
  intro Γ p' hΓ
  have h1 := wp_sim M Γ (froz s) t _ _ p' (stuckS s) (froz_ok s) (h (stuckS s) rfl rfl (stuck_bare hb) Γ p' hΓ)
  rw [real_stuck] at h1
  refine Sem.wp_mono M Γ t (fun a _ s' h2 => ?_) (fun e _ s' h2 => ?_) p' s h1
  · obtain ⟨u, rfl, hz, hq⟩ := h2
    have w : froz s g = some (.suspended k l c p fs cl) := by
      unfold froz
      rw [hg]
    have hlt := hz.lt g _ w
    refine ⟨real_some w (Array.getElem?_eq_getElem hlt), u, hq, rfl, rfl, fun hu y hy => ?_⟩
    obtain ⟨i, hi, rfl⟩ := Array.mem_iff_getElem.mp hy
    have e1 : (real (froz s) u).gens[i]? = some ((real (froz s) u).gens[i]) := Array.getElem?_eq_getElem hi
    have hi' : i < u.gens.size := by rwa [real_size] at hi
    rw [real_get, Array.getElem?_eq_getElem hi'] at e1
    have e2 : (froz s i).getD u.gens[i] = (real (froz s) u).gens[i] := Option.some.inj e1
    rw [← e2]
    cases f : froz s i with
    | none => exact hu _ (Array.getElem_mem hi')
    | some Y =>
      show Y.bare = true
      unfold froz at f
      cases e : s.gens[i]? with
      | none => rw [e] at f; cases f
      | some x =>
        rw [e] at f
        have hx := hb x (Array.mem_of_getElem? e)
        cases x <;> cases f
        exact hx
  · obtain ⟨u, _, _, hf⟩ := h2
    exact hf.elim
theorem regens {X : Cx} {pins : List (Addr × Obj)} {σ : L2.St} {H : Hp} {s s' : Shared} (I : Inv X pins σ H s) (h1 : s'.heap = s.heap) (h2 : s'.os = s.os) (h3 : AllBare s'.gens) : Inv X pins σ H s' :=
  I.call' (ch := []) h2 (by rw [h1]; exact Un.refl) (by rw [h1]; exact I.hok) h3 fun b z => by simp at z
theorem bare_set {s : Shared} {g : Nat} {x : GenState} (h : AllBare s.gens) (hx : x.bare = true) : AllBare (s.setGen g x).gens := fun y hy => by
  obtain ⟨i, hi, rfl⟩ := Array.mem_iff_getElem.mp hy
  have hi' : i < s.gens.size := by simpa [Shared.setGen] using hi
  by_cases e : g = i
  · subst e
    have : (s.setGen g x).gens[g] = x := by simp [Shared.setGen]
    rw [this]
    exact hx
  · have e1 : (s.setGen g x).gens[i]? = s.gens[i]? := by simp [Shared.setGen, Array.getElem?_setIfInBounds, e]
    rw [Array.getElem?_eq_getElem hi, Array.getElem?_eq_getElem hi'] at e1
    rw [Option.some.inj e1]
    exact h _ (Array.getElem_mem hi')
/-! ## o.branches(): a generator that has not begun -/
structure NewGen (X : Cx) (pins : List (Addr × Obj)) (σ : L2.St) (H : Hp) (t : Addr) (st : Stmt) (env : Env) (ga : Addr) (g : Nat) (s : Shared) : Prop where
  inv : Inv X pins σ H s
  gen : s.heap.IsGen ga g
  gs : s.gens[g]? = some (.fresh (.func (defBody st) env))
  ns : ∃ mm, s.heap.Ns env.locals mm ∧ mm "self" = some (.ref t)
  fpC : FpOk X pins H env.locals
  fpa : FpOk X pins H ga
  ne : ga ≠ env.locals
  envIs : ∃ qual f cdv, env = envOfC qual (defScope st) env.locals f cdv
structure Gg (K : PySem.W.Frag) (C : Addr) (m : Str) (f : Addr) (st : Stmt) : Prop where
  fn : ∃ name qual fd, Fun K name qual st f fd
  mt : Meth K C m f
  bd : ∀ (name qual : Str) (kV doc pm : Value) (an : Option Addr) (cdv ct : Value) (us : List Value), us.length = 1 → bindArgs (PySem.W.fnOf name qual (defArgs st) (defBody st) (defScope st) .none kV doc pm an cdv ct) ⟨us, []⟩ = pure ((["self"] : List Str).zip us)
  kind : (defScope st).kind = .function
  co : (defScope st).isCoroutine = false
  gen : (defScope st).isGenerator = true
  self : (defScope st).names.lookup ("self" : Str) = some .local
theorem gen_make {X : Cx} {pins : List (Addr × Obj)} {σ : L2.St} {H : Hp} {s : Shared} {C f : Addr} {m : Str} {st : Stmt} {Q : Value → Shared → Prop} {o : Expr} {apos pos : Pos} {pl : Sem Bool} {k : Nat} {R : VK} (G : Gg X.K C m f st) (c : Cls X.K C) (hr : Room k X.A) (I : Inv X pins σ H s) (ho : wE X o σ H R)
    (hR : ∀ v H1, R v H1 → ∃ t dx fs, v = .ref t ∧ H1 t = some (.ins C dx fs) ∧ fs.lookup m = none ∧ ∀ env ga g s', NewGen X pins σ H1 t st env ga g s' → Q (.ref ga) s')
    (ht : eval (.Call (.Attribute o m apos) [] [] pos) X.env = (do
      let ov ← eval o X.env
      standAt apos.atName
      let (f, first) ← holding [ov] (getMethod ov m pl)
      callWith pos f first (backTo pos (starEach [] X.env)) (backToKw pos (keywordEach [] X.env)))) :
    wpAny (model X.prog X.w) X.A (eval (.Call (.Attribute o m apos) [] [] pos) X.env) Q X.xe s := by
  refine PySem.W.methodCall_KW (pl := pl) (thn (pe_w.run pins s σ H _ I ho) fun u s1 ⟨x, H1, I1, rx, hx⟩ => ?_) ht
  obtain ⟨t, dx, fs, ex, ea, l, hq⟩ := hR x H1 hx
  subst ex
  obtain rfl : u = Value.ref t := rx
  refine getmeth_ok I1 ea c G.mt l ?_
  refine PySem.W.callWith_K0 (first := [.ref t]) I1.kIn G.mt.kp ?_
  obtain ⟨name, qual, fd, F⟩ := G.fn
  obtain ⟨oc, od, kV, doc, pm, an, cdv, ct, osl, rfl, lk, hcd⟩ := F.ex
  have KX : X.K.In s1.heap := I1.kIn
  have hkind : ∀ y ∈ (["self"] : List Str).zip [Value.ref t], (defScope st).names.lookup y.1 = some .local ∨ ((defScope st).names.lookup y.1 = some .cell ∧ ((cellsFrom (s1.heap.objs.size + 1) (defScope st).names []).lookup y.1).isSome = true) := fun y hy => by
    have : y = (("self" : Str), Value.ref t) := by simpa using hy
    rw [this]
    exact .inl G.self
  refine wpAny_call (codeAny_call_generator hr.depth (KX _ _ lk) rfl G.co G.gen rfl (PySem.W.codeRec_of KX hcd) ?_)
  have hb : bindArgs (PySem.W.fnOf name qual (defArgs st) (defBody st) (defScope st) .none kV doc pm an cdv ct) ⟨[.ref t], []⟩ = pure ((["self"] : List Str).zip [.ref t]) := G.bd name qual kV doc pm an cdv ct [.ref t] rfl
  refine wpAny_of_eq hb ?_
  refine wpAny_newFunctionEnv_cells G.kind hkind fun env he s2 x => ?_
  have lim1 : s2.heap.NoLimit := I1.nolimit.keeps x.toInCall.keep
  refine ⟨lim1, ?_⟩
  obtain ⟨h1, tk, es1, hk1⟩ := x.done
  have hL : env.locals = s1.heap.objs.size := by rw [he]; rfl
  have hlt : env.locals < s2.heap.objs.size := x.toInCall.ns.lt
  have sz : s1.heap.objs.size ≤ s2.heap.objs.size := by rw [← hL]; exact Nat.le_of_lt hlt
  have kp : ∀ b o, s1.heap.get? b = some o → s2.heap.get? b = some o := x.toInCall.keep
  refine hq env s2.heap.objs.size s2.gens.size _ ?_
  have I2 : Inv X pins σ H1 { s2 with gens := s2.gens.push (.fresh (.func (defBody st) env)), toks := s2.toks + 1 + 1, heap := s2.heap.push { cls := .type "generator", data := .fields #[.int s2.gens.size 0, .str name s2.toks, .str qual (s2.toks + 1)] } } := by
    refine I1.call' (ch := []) (by rw [es1]) (Un.kept fun b o e => Heap.get?_push_of_some _ (kp b o e)) (I1.hok.kept fun b o e => Heap.get?_push_of_some _ (kp b o e)) ?_ fun b z => by simp at z
    exact AllBare.push (by rw [es1]; exact I1.bare) rfl
  refine ⟨I2, ⟨_, _, _, Heap.get?_push_size _ rfl, rfl, rfl, rfl⟩, Array.getElem?_push_size .., ⟨_, x.toInCall.ns.at' fun o e => Heap.get?_push_of_some _ e, ?_⟩, ?_, ?_, Nat.ne_of_gt hlt, qual, f, cdv, ?_⟩
  · have hk : env.kindOf "self" = some .local := by rw [he]; exact G.self
    simp [bindL, hk]
  · rw [hL]
    exact I1.fpOk (Nat.le_refl _) (I1.hok.fresh (Nat.le_refl _))
  · exact I1.fpOk sz (I1.hok.fresh sz)
  · rw [he]
    rfl
end RG

end

section
set_option Elab.async false
set_option linter.all false
set_option maxRecDepth 100000
set_option maxHeartbeats 4000000
namespace RG
open PySem L2 Evl PySem.Spec PyProof.Rows
abbrev refsOf (as : List (Addr × List Wd)) : List Value := as.map fun q => Value.ref q.1
structure Awake (X : Cx) (σ : L2.St) (ga : Addr) (g : Nat) (C it p : Addr) (as : List (Addr × List Wd)) (m i : Nat) (H : Hp) (s : Shared) : Prop where
  inv : Inv X [] σ H s
  gen : s.heap.IsGen ga g
  gs : ∃ gs, s.gens[g]? = some gs ∧ Good (model X.prog X.w) X.A.in1 C it p (refsOf as) m gs
  len : i + m = as.length
  ns : ∃ mm, s.heap.Ns C mm
  itr : s.heap.IsListIter it p i
  lst : H p = some (.lst (as.map fun q => V.ref q.1))
  fa : FpOk X [] H ga
  fc : FpOk X [] H C
  fi : FpOk X [] H it
  n1 : ga ≠ C
  n2 : ga ≠ it
  n3 : C ≠ it
theorem refs_vals : ∀ {as : List (Addr × List Wd)} {us : List Value}, Vals (as.map fun q => V.ref q.1) us → us = refsOf as
  | [], _, .nil => rfl
  | q :: r, _, .cons h t => by
    have e := refs_vals t
    rw [e]
    have : _ = Value.ref q.1 := h
    rw [this]
    rfl
section
variable {X : Cx} {σ : L2.St} {ga : Addr} {g : Nat} {C it p : Addr} {as : List (Addr × List Wd)} {m i : Nat} {H : Hp} {s : Shared}
theorem Awake.isList (w : Awake X σ ga g C it p as m i H s) : s.heap.IsList p (refsOf as).toArray := by
  obtain ⟨its, rv, pl, hz⟩ := w.inv.list (SqL.of w.lst)
  rw [← refs_vals rv]
  exact pl.isList
theorem Awake.st (w : Awake X σ ga g C it p as m i H s) : GSt C it p (refsOf as) i s.heap := ⟨w.ns, w.itr, w.isList⟩
theorem awake_item (hh : X.A.handled = none) (hroom : X.A.depth < recursionLimit) (w : Awake X σ ga g C it p as (m + 1) i H s) :
    wpAny (model X.prog X.w) X.A (pyNext (.ref ga)) (fun r s1 => ∃ q, as[i]? = some q ∧ r = some (.ref q.1) ∧ Awake X σ ga g C it p as m (i + 1) H s1) (fun _ _ => False) s := by
  obtain ⟨gs, hgs, k, l, c, p₀, fs, rfl, hgo⟩ := w.gs
  have hlen : i + (m + 1) = (refsOf as).length := by rw [List.length_map]; exact w.len
  refine gen_next hh w.inv.nolimit hroom w.gen hgs (hgo (s.setGen g .running) i hlen w.st) fun e s₁ he => ?_
  obtain ⟨⟨h1, tk, rfl, hk⟩, v, l', k', c', p', fs', rfl, hfg, hv, hst, hgood⟩ := he
  have hq : (End.susp v false l' k' c' p' fs').quiet = true := by
    show (!(false || fs'.any Frame.guarded)) = true
    rw [hfg]
    rfl
  refine ⟨hq, ?_⟩
  obtain ⟨q, hqa, rfl⟩ : ∃ q, as[i]? = some q ∧ v = Value.ref q.1 := by
    rw [List.getElem?_map] at hv
    cases e : as[i]? with
    | none => rw [e] at hv; cases hv
    | some q => rw [e] at hv; exact ⟨q, rfl, (Option.some.inj hv).symm⟩
  have I1 : Inv X [] σ H { s with heap := h1, toks := tk } := w.inv.turnedL (ch := [C, it]) (fun b o hb e => hk b o (fun z => hb (by simp [z])) (fun z => hb (by simp [z])) e) fun b hb => by
    simp only [List.mem_cons, List.not_mem_nil, or_false] at hb
    rcases hb with rfl | rfl
    · exact w.fc
    · exact w.fi
  refine ⟨q, hqa, rfl, ?_⟩
  have hb2 : AllBare ((({ s.setGen g .running with heap := h1, toks := tk } : Shared).setGen g (End.susp (Value.ref q.1) false l' k' c' p' fs').genState)).gens := bare_set (bare_set w.inv.bare rfl) (End.bare_of_quiet hq)
  obtain ⟨og, nm, qn, e0, e1, e2, e3⟩ := w.gen
  exact ⟨regens I1 rfl rfl hb2, ⟨og, nm, qn, hk ga og w.n2 w.n1 e0, e1, e2, e3⟩, ⟨_, setGen_self (gs := .running) (setGen_self hgs), hgood⟩, by have := w.len; omega, hst.ns, hst.itr, w.lst, w.fa, w.fc, w.fi, w.n1, w.n2, w.n3⟩
theorem awake_done (hh : X.A.handled = none) (hroom : X.A.depth < recursionLimit) (w : Awake X σ ga g C it p as 0 i H s) :
    wpAny (model X.prog X.w) X.A (pyNext (.ref ga)) (fun r s1 => r = none ∧ Inv X [] σ H s1) (fun _ _ => False) s := by
  obtain ⟨gs, hgs, k, l, c, p₀, fs, rfl, hgo⟩ := w.gs
  have hlen : (refsOf as).length = i := by rw [List.length_map]; have := w.len; omega
  have hst := w.st
  rw [← hlen] at hst
  refine gen_next hh w.inv.nolimit hroom w.gen hgs (hgo (s.setGen g .running) hst) fun e s₁ he => ?_
  obtain ⟨⟨h1, tk, rfl, hk⟩, rfl⟩ := he
  refine ⟨rfl, rfl, fun h' hk' => ⟨rfl, ?_⟩⟩
  have I1 : Inv X [] σ H { s with heap := h', toks := tk } := w.inv.turnedL (ch := [C, it]) (fun b o hb e => hk' b o (hk b o (fun z => hb (by simp [z])) (fun z => hb (by simp [z])) e)) fun b hb => by
    simp only [List.mem_cons, List.not_mem_nil, or_false] at hb
    rcases hb with rfl | rfl
    · exact w.fc
    · exact w.fi
  exact regens I1 rfl rfl (bare_set (bare_set w.inv.bare rfl) rfl)
/-- .. after other code, that kept what is pinned -/
theorem Awake.keep {σ' : L2.St} {H' : Hp} {s' : Shared} (w : Awake X σ ga g C it p as m i H s) (I : Inv X ([] ++ pinsAt [ga, C, it] s.heap) σ' H' s') (hg : s'.gens[g]? = s.gens[g]?) (hp : H' p = H p) : Awake X σ' ga g C it p as m i H' s' := by
  have pin : ∀ b o, b ∈ [ga, C, it] → s.heap.get? b = some o → s'.heap.get? b = some o ∧ H' b = none := fun b o hb e =>
    let z := I.pin (b, o) (List.mem_append_right _ (List.mem_append_right _ (mem_pinsAt hb e)))
    ⟨z.1, z.2.1⟩
  obtain ⟨og, nm, qn, e0, e1, e2, e3⟩ := w.gen
  obtain ⟨mm, oc, es, ep, c0, cr⟩ := w.ns
  obtain ⟨oi, i0, i1, i2⟩ := w.itr
  have pa := pin ga og (by simp) e0
  have pc := pin C oc (by simp) c0
  have pi := pin it oi (by simp) i0
  obtain ⟨gs, hgs, hgood⟩ := w.gs
  exact ⟨I.unpinned (pins := []), ⟨og, nm, qn, pa.1, e1, e2, e3⟩, ⟨gs, by rw [hg]; exact hgs, hgood⟩, w.len, ⟨mm, oc, es, ep, pc.1, cr⟩, ⟨oi, pi.1, i1, i2⟩, by rw [hp]; exact w.lst, ⟨pa.2, w.fa.2⟩, ⟨pc.2, w.fc.2⟩, ⟨pi.2, w.fi.2⟩, w.n1, w.n2, w.n3⟩
end
end RG

end

section
set_option Elab.async false
set_option linter.all false
set_option maxRecDepth 100000
set_option maxHeartbeats 4000000
namespace RG
open PySem L2 Evl PySem.Spec PyProof.Rows
abbrev sBranches : Stmt := inClass (top 24) 4
section
variable {X : Cx} {σ : L2.St} {ga : Addr} {g : Nat} {H : Hp} {s : Shared} {CG CT t : Addr} {L : Wd} {O : List Wd} {g1 g2 p2 f : Addr} {gd1 gd2 : FuncData} {env : Env}
theorem first_item (I : Inv X [] σ H s) (hgen : s.heap.IsGen ga g) (hgs : s.gens[g]? = some (.fresh (.func (defBody sBranches) env))) (hns : ∃ mm, s.heap.Ns env.locals mm ∧ mm "self" = some (.ref t)) (fpC : FpOk X [] H env.locals) (fpa : FpOk X [] H ga) (ne : ga ≠ env.locals)
    (henv : ∃ qual f cdv, env = envOfC qual (defScope sBranches) env.locals f cdv) (hr : Room 7 X.A) (Cg : GoalC X.K CG) (CTc : TreeC X.K CT) (GB : Gm X.prog X.w X.K X.mg X.base CT "branches_from" 5 g1 gd1 ["self", "lit"] (spBranches CT CG 4))
    (GL : Gp X.prog X.w X.K X.mg X.base CG "lamps" 1 p2 g2 gd2 ["self"] (spGoalLamps CG)) (gl : GoodL L) (hT : TreeAt CT CG L O H t) :
    wpAny (model X.prog X.w) X.A (pyNext (.ref ga)) (fun r s1 => ∃ H' as it p q m, Ex H H' ∧ H p = none ∧ as.map (·.2) = branchesM O 4 L ∧ BrIn p H' as ∧ as[0]? = some q ∧ r = some (.ref q.1) ∧ Awake X σ ga g env.locals it p as m 1 H' s1) (fun _ _ => False) s := by
  obtain ⟨mm, hn, hm⟩ := hns
  obtain ⟨qual, f, cdv, he⟩ := henv
  generalize hC : env.locals = C at he hn fpC ne ⊢
  subst he
  have hh := hr.hd
  have hgl : g + 1 ≤ (s.setGen g .running).gens.size := by
    have := (Array.getElem?_eq_some_iff.mp hgs).1
    simp only [Shared.setGen, Array.size_setIfInBounds]
    omega
  obtain ⟨og, nm, qn, e0, e1, e2, e3⟩ := hgen
  have hnc : ∀ v, og.data ≠ .cell v := fun v z => by rw [e2] at z; cases z
  have Ip : Inv X ([] ++ pinsAt [ga] s.heap) σ H s := I.pinned (fun b hb => by rw [List.mem_singleton.mp hb]; exact fpa) fun b hb => by
    rw [List.mem_singleton.mp hb]
    exact ⟨og, e0, hnc⟩
  have hpin : ([] ++ pinsAt [ga] s.heap : List (Addr × Obj)) = [(ga, og)] := by simp [pinsAt, e0]
  rw [hpin] at Ip
  have Ir : Inv X [(ga, og)] σ H (s.setGen g .running) := regens Ip rfl rfl (bare_set I.bare rfl)
  have fr : Fr2 X [(ga, og)] σ H C mm (s.setGen g .running) := ⟨Ir, ⟨fpC.1, fpC.2.1, fpC.2.2.1, fpC.2.2.2.1, fpC.2.2.2.2.1, fun p hp => by
    rcases List.mem_append.mp hp with h | h
    · exact fpC.2.2.2.2.2 p (List.mem_append_left _ h)
    · rw [List.mem_singleton.mp h]
      exact ne⟩, hn⟩
  have hfr : (envOfC qual (defScope sBranches) C f cdv).frame = some C := rfl
  have hki : (envOfC qual (defScope sBranches) C f cdv).scope.kind = .function := rfl
  have hse : (envOfC qual (defScope sBranches) C f cdv).kindOf "self" = some .local := rfl
  have hbr : (envOfC qual (defScope sBranches) C f cdv).kindOf "branch" = some .local := rfl
  have hco : (envOfC qual (defScope sBranches) C f cdv).scope.isCoroutine = false := rfl
  have hin : interactive (envOfC qual (defScope sBranches) C f cdv) = false := rfl
  refine gen_next hh I.nolimit hr.depth ⟨og, nm, qn, e0, e1, e2, e3⟩ hgs (Φ := PhiF (model X.prog X.w) X.A.in1 C fun p us s1 => ∃ H' as, Fr2 X [(ga, og)] σ H' C mm s1 ∧ g < s1.gens.size ∧ H p = none ∧ Ex H H' ∧ us = refsOf as ∧ H' p = some (.lst (as.map fun q => V.ref q.1)) ∧ as.map (·.2) = branchesM O 4 L ∧ BrIn p H' as) ?_ fun e s₁ hE => ?_
  · refine gen_first (A := X.A.in1) hh hki hbr (by decide) hco hin (fun x => rfl) ?_
    refine GenW.wpAny_gsz hgl (wpAny_mono (gen_iter (env := envOfC qual (defScope sBranches) C f cdv) (L := L) (O := O) fr rfl hfr hki hse hm hr Cg CTc GB GL gl hT rfl rfl rfl rfl) (fun u s1 hu hgz => ?_) fun _ _ z => z.elim)
    · obtain ⟨p, H', rfl, f1, hp, ex, as, b1, b2, b3⟩ := hu
      obtain ⟨its, rv, pl, hz⟩ := f1.inv.list (SqL.of b1)
      have eu := refs_vals rv
      have hpos : 0 < as.length := by
        have := branches_pos O 4 L
        rw [← b2, List.length_map] at this
        exact this
      refine ⟨p, refsOf as, rfl, by rw [← eu]; exact pl.isList, by rw [List.length_map]; exact hpos, ⟨mm, f1.ns⟩, fun z => ?_, H', as, f1, hgz, hp, ex, rfl, b1, b2, b3⟩
      have z : p = C := z
      rw [z, f1.fp.1] at b1
      cases b1
  · obtain ⟨p, us, s1, it, m, ⟨H', as, f1, hgz, hp, ex, rfl, b1, b2, b3⟩, hit, hlen, ⟨hE1, tk, rfl, hk⟩, v, l, k, c, p₀, fs, rfl, hfg, hv, hst, hgood⟩ := hE
    have hq : (End.susp v false l k c p₀ fs).quiet = true := by
      show (!(false || fs.any Frame.guarded)) = true
      rw [hfg]
      rfl
    refine ⟨hq, ?_⟩
    obtain ⟨q, hqa, rfl⟩ : ∃ q, as[0]? = some q ∧ v = Value.ref q.1 := by
      rw [List.getElem?_map] at hv
      cases e : as[0]? with
      | none => rw [e] at hv; cases hv
      | some q => rw [e] at hv; exact ⟨q, rfl, (Option.some.inj hv).symm⟩
    have pa := f1.inv.pin (ga, og) (List.mem_append_right _ (List.mem_singleton.mpr rfl))
    have I1 : Inv X [] σ H' s1 := (show Inv X ([] ++ [(ga, og)]) σ H' s1 from f1.inv).unpinned
    have fc1 : FpOk X [] H' C := ⟨f1.fp.1, fpC.2⟩
    have I2 : Inv X [] σ H' { s1 with heap := hE1, toks := tk } := I1.turnedL (ch := [C]) (fun b o hb e => hk b o (fun z => hb (by simp [z])) e) fun b hb => by
      rw [List.mem_singleton.mp hb]
      exact fc1
    have nit : it ≠ C := fun z => by
      have := f1.ns.lt
      rw [z] at hit
      exact absurd (Nat.lt_of_lt_of_le this hit) (Nat.lt_irrefl _)
    have nga : ga ≠ it := fun z => by
      have := Heap.lt_size pa.1
      rw [← z] at hit
      exact absurd (Nat.lt_of_lt_of_le this hit) (Nat.lt_irrefl _)
    have hlen2 : as.length = m + 1 := by rw [List.length_map] at hlen; exact hlen
    refine ⟨H', as, it, p, q, m, ex, hp, b2, b3, hqa, rfl, regens I2 rfl rfl (bare_set I2.bare (End.bare_of_quiet hq)), ⟨og, nm, qn, hk ga og ne pa.1, e1, e2, e3⟩, ⟨_, ?_, hgood⟩, by omega, hst.ns, hst.itr, b1, ⟨pa.2.1, fpa.2⟩, fc1, I1.fpOk hit (I1.hok.fresh hit), ne, nga, Ne.symm nit⟩
    simp [Shared.setGen, hgz]
end
end RG

end

section
set_option Elab.async false
set_option linter.all false
set_option maxRecDepth 100000
set_option maxHeartbeats 4000000
namespace RG
open PySem L2 Evl PySem.Spec PyProof.Rows
theorem Good.susp {M : Model} {A : Around} {C it p : Addr} {us : List Value} : ∀ {m : Nat} {gs : GenState}, Good M A C it p us m gs → ∃ k l c p₀ fs, gs = .suspended k l c p₀ fs false
  | 0, _, ⟨k, l, c, p₀, fs, e, _⟩ => ⟨k, l, c, p₀, fs, e⟩
  | _ + 1, _, ⟨k, l, c, p₀, fs, e, _⟩ => ⟨k, l, c, p₀, fs, e⟩
/-- code that runs well with any generators runs well with this one asleep -/
theorem frame_inv {X : Cx} {pl : List (Addr × Obj)} {σ : L2.St} {H : Hp} {s : Shared} {g : Nat} {gs : GenState} {α : Type} {t : Sem α} {P : α → L2.St → Hp → Prop} (I : Inv X pl σ H s) (hgs : s.gens[g]? = some gs) (hsus : ∃ k l c p₀ fs, gs = .suspended k l c p₀ fs false)
    (h : ∀ u, Inv X pl σ H u → wpAny (model X.prog X.w) X.A t (fun a s' => ∃ σ' H', Inv X pl σ' H' s' ∧ P a σ' H') (fun _ _ => False) u) :
    wpAny (model X.prog X.w) X.A t (fun a s' => s'.gens[g]? = some gs ∧ ∃ σ' H', Inv X pl σ' H' s' ∧ P a σ' H') (fun _ _ => False) s := by
  obtain ⟨k, l, c, p₀, fs, rfl⟩ := hsus
  refine wpAny_mono (frame hgs I.bare fun u h1 h2 h3 => h u (regens I h1 h2 h3)) (fun a s' hq => ?_) fun _ _ z => z
  obtain ⟨e, u, ⟨σ', H', I', q⟩, h1, h2, h3⟩ := hq
  exact ⟨e, σ', H', regens I' h1 h2 (h3 I'.bare), q⟩
section
variable {X : Cx} {σ : L2.St} {H : Hp} {Q : VK} {elt o : Expr} {scope : Scope} {pos px apos cpos : Pos} {x : Str} {CG CT : Addr} {g1 g2 p2 gf : Addr} {gd1 gd2 : FuncData} {k : Nat}
def GenAsk (CT CG : Addr) (X : Cx) (scope : Scope) (elt : Expr) (j : Nat) (σ : L2.St) (Q : VK) (v : V) (H1 : Hp) : Prop :=
  ∃ (t : Addr) (L : Wd) (O : List Wd) (f : List Wd → List Wd), v = .ref t ∧ GoodL L ∧ TreeAt CT CG L O H1 t ∧
    (∀ b ∈ branchesM O 4 L, ∀ a H', Ex H1 H' → H' a = some (.tup (b.map VS)) → ∀ R : VK, (∀ a' H'', Ex H' H'' → H'' a' = some (.tup ((f b).map VS)) → R (.ref a') H'') → bE X scope elt (σ.set j (some (.ref a))) H' R) ∧
    ∀ p H', H1 p = none → Ex H1 H' → BrAt H' p ((branchesM O 4 L).map f) → Q (.ref p) H'
theorem lcGen_core {pins : List (Addr × Obj)} {s : Shared} {pos' : Pos} {use : Option (Value → Sem Unit)} {Qf : Value → Shared → Prop} (j : Nat) (hN : X.N.Nodup) (ok : BlkOk X.N X.env.scope scope [(x, j)]) (hr : Room k X.A) (hk : 7 ≤ k) (Cg : GoalC X.K CG) (CTc : TreeC X.K CT) (GB : Gm X.prog X.w X.K X.mg X.base CT "branches_from" 5 g1 gd1 ["self", "lit"] (spBranches CT CG 4))
    (GL : Gp X.prog X.w X.K X.mg X.base CG "lamps" 1 p2 g2 gd2 ["self"] (spGoalLamps CG)) (GG : Gg X.K CT "branches" gf sBranches) (I : Inv X pins σ H s) (h : wE X o σ H (GenAsk CT CG X scope elt j σ Q)) {pl : Sem Bool}
    (hRR : ∀ D C s' m H', Inv X pins σ H' s' → Q (.ref D) H' → s'.heap.Ns C m → FpOk X pins H' C → compPost (model X.prog X.w) X.A X.xe use Qf (.ref D) C (.ok .next) s')
    (hx : scope.names.lookup x = some .local ∨ scope.names.lookup x = some .cell) (hc : X.calm = true)
    (ht : eval (.Call (.Attribute o "branches" apos) [] [] cpos) X.env = (do
      let ov ← eval o X.env
      standAt apos.atName
      let (f, first) ← holding [ov] (getMethod ov "branches" pl)
      callWith cpos f first (backTo cpos (starEach [] X.env)) (backToKw cpos (keywordEach [] X.env))) )
    (hs : ∀ x, foldedSetIterable (.Call (.Attribute o "branches" apos) [] [] cpos) X.env x = pure x) :
    wpAny (model X.prog X.w) X.A (comprehension (.ListComp elt [⟨.Name x px, .Call (.Attribute o "branches" apos) [] [] cpos, [], 0⟩] scope pos) scope X.env pos' (newList []) false (eval (.Call (.Attribute o "branches" apos) [] [] cpos) X.env) use) Qf X.xe s := by
  have hfree : ∀ y ∈ scope.names, y.2 = .free → ∃ c, X.env.cells.lookup y.1 = some c := fun y hy e => by
    rcases ok.free y hy e with k | k
    · exact I.ok.has _ (.inl k)
    · exact I.ok.has _ (.inr k)
  refine wpAny_comprehension_free (use := use) rfl hs (closure_ok hfree) ok.kind (fun y hy e => by rw [ok.uniq y hy, e])
    (gen_make (pl := pl) GG CTc.cls hr I h (fun v H1 hv => ?_) ht)
  obtain ⟨t, L, O, f, ev, gl, hT, hbody, hend⟩ := hv
  obtain ⟨dx, fs, _, ht1, _, _, _, _, _, _, hmb, _⟩ := hT.goal
  refine ⟨t, dx, fs, ev, ht1, hmb, fun env ga g s2 ng => ?_⟩
  refine wpAny_pyIter_gen ng.gen ?_
  refine wpAny_newObj_type (newEnv_comp ?_) (by show 0 ≤ sizeLine; decide)
  generalize hD : s2.heap.objs.size = D
  have I2 := ng.inv
  have hDn : H1 D = none := I2.hok.fresh (Nat.le_of_eq hD)
  generalize hs3 : ({ s2 with heap := s2.heap.push { cls := .type "list", data := .seq ([] : List Value).toArray } } : Shared) = s3
  have I3 : Inv X pins σ (upd H1 D (.lst [])) s3 := by
    rw [← hs3]
    refine I2.laid (t' := s2.toks) (fun b o e => Heap.get?_push_of_some _ e) (Nat.le_of_eq hD) ⟨Nat.zero_le _, [], 0, .nil, ?_⟩
    rw [← hD]
    exact Heap.get?_push_size _ rfl
  have h3 : s3.heap = s2.heap.push { cls := .type "list", data := .seq ([] : List Value).toArray } := by rw [← hs3]
  have g3 : s3.gens = s2.gens := by rw [← hs3]
  obtain ⟨mm, hns, hself⟩ := ng.ns
  have hga : ga < s2.heap.objs.size := by obtain ⟨_, _, _, e, _⟩ := ng.gen; exact Heap.lt_size e
  have hfp : ∀ b ∈ [ga, env.locals], FpOk X pins H1 b ∧ b < s2.heap.objs.size := fun b hb => by
    simp only [List.mem_cons, List.not_mem_nil, or_false] at hb
    rcases hb with rfl | rfl
    · exact ⟨ng.fpa, hga⟩
    · exact ⟨ng.fpC, hns.lt⟩
  have f3 : ∀ b ∈ [ga, env.locals], FpOk X pins (upd H1 D (.lst [])) b ∧ b < s3.heap.objs.size := fun b hb => by
    obtain ⟨f2, hlt⟩ := hfp b hb
    refine ⟨⟨?_, f2.2⟩, by rw [h3, Heap.size_push]; exact Nat.lt_succ_of_lt hlt⟩
    rw [upd_ne (by rw [← hD]; exact Nat.ne_of_lt hlt)]
    exact f2.1
  have I4 := block_start I3 ok hN f3
  generalize hcl : cellsFrom (s3.heap.objs.size + 1) scope.names (cloFrom X.env.cells scope.names []) = cl at I4
  have pg := pg_own hN ok hx (px := px) s3 (upd H1 D (.lst [])) s3.heap.objs.size cl [ga, env.locals]
  have pe := pe_b (X := X) (scope := scope) (e := elt) s3 (upd H1 D (.lst [])) s3.heap.objs.size cl [ga, env.locals]
  have st : codeAny (model X.prog X.w) X.A (.compStart (.ListComp elt [⟨.Name x px, .Call (.Attribute o "branches" apos) [] [] cpos, [], 0⟩] scope pos) 0 (.ref ga) (.ref D) (compEnvC scope cl s3.heap.objs.size X.env)) (compPost (model X.prog X.w) X.A X.xe use Qf (.ref D) s3.heap.objs.size) { s3 with heap := pushCells (s3.heap.push { cls := .type "dict", data := .dict #[] }) scope.names } := by
    generalize hce : compEnvC scope cl s3.heap.objs.size X.env = ce at I4 pg pe ⊢
    have cL : ce.locals = s3.heap.objs.size := by subst hce; rfl
    generalize hH3 : upd H1 D (.lst []) = H3 at I3 I4 pg pe f3
    generalize hs4 : ({ s3 with heap := pushCells (s3.heap.push { cls := .type "dict", data := .dict #[] }) scope.names } : Shared) = s4 at I4 ⊢
    have k4 : ∀ b o, s2.heap.get? b = some o → s4.heap.get? b = some o := fun b o e => by
      rw [← hs4]
      refine pushCells_keeps _ _ _ _ (Heap.get?_push_of_some _ ?_)
      rw [h3]
      exact Heap.get?_push_of_some _ e
    have gen4 : s4.heap.IsGen ga g := by
      obtain ⟨o, nm, qn, e, r⟩ := ng.gen
      exact ⟨o, nm, qn, k4 _ _ e, r⟩
    have gs4 : s4.gens[g]? = some (.fresh (.func (defBody sBranches) env)) := by
      rw [← hs4]
      show s3.gens[g]? = _
      rw [g3]
      exact ng.gs
    have ns4 : ∃ mm, s4.heap.Ns env.locals mm ∧ mm "self" = some (.ref t) := ⟨mm, hns.at' fun o e => k4 _ _ e, hself⟩
    have ex13 : Ex H1 H3 := by rw [← hH3]; exact Ex.new hDn
    have hD3 : H3 D = some (.lst []) := by rw [← hH3]; exact upd_same
    -- footprints within the block
    have fpx : ∀ b ∈ [ga, env.locals], FpOk (X.blk s3 H3 scope ce [ga, env.locals]) [] H3 b := fun b hb =>
      ⟨(f3 b hb).1.1, (I4.ok.exf b hb).1, I4.ok.exfs b hb, .inl hb, fun x c e => (I4.ok.exf b hb).2 x c e, fun p hp => absurd (show p ∈ ([] : List (Addr × Obj)) ++ [] from hp) (by simp)⟩
    have loop : codeAny (model X.prog X.w) X.A (.compLoop (.ListComp elt [⟨.Name x px, .Call (.Attribute o "branches" apos) [] [] cpos, [], 0⟩] scope pos) 0 (.ref ga) (.ref D) ce) (compPost (model X.prog X.w) X.A X.xe use Qf (.ref D) s3.heap.objs.size) s4 := by
      let bs := branchesM O 4 L
      let StD : Nat → Addr → List (Addr × List Wd) → Hp → Prop := fun i p as H' => Ex H1 H' ∧ p ≠ D ∧ (∀ q ∈ as, q.1 ≠ D ∧ H' q.1 = some (.tup (q.2.map VS))) ∧ ∃ ds : List (Addr × List Wd), H' D = some (.lst (ds.map fun q => V.ref q.1)) ∧ ds.map (·.2) = (bs.take i).map f ∧ BrIn D H' ds
      let Iv : Nat → Shared → Prop := fun n s' => (n = bs.length + 1 ∧ s' = s4) ∨ (∃ i m H' it p as, n + i = bs.length + 1 ∧ 1 ≤ i ∧ Awake (X.blk s3 H3 scope ce [ga, env.locals]) (wipe σ [j]) ga g env.locals it p as m i H' s' ∧ as.map (·.2) = bs ∧ StD i p as H')
      -- the turn behind an item
      have turn : ∀ (n i m : Nat) (H6 : Hp) (it p : Addr) (as : List (Addr × List Wd)) (qi : Addr × List Wd) (s6 : Shared), n + i = bs.length + 1 → as[i]? = some qi → Awake (X.blk s3 H3 scope ce [ga, env.locals]) (wipe σ [j]) ga g env.locals it p as m (i + 1) H6 s6 → as.map (·.2) = bs → StD i p as H6 →
          wpAny (model X.prog X.w) X.A (letOwnedTupleGo (.Name x px) (.ref ga) (.ref qi.1)) (fun _ s₁' => wpAny (model X.prog X.w) X.A (assign (.Name x px) ce (.ref qi.1)) (fun _ s₂ =>
            wpAny (model X.prog X.w) X.A (forIn ([] : List Expr) true fun c r => if r = true then do let ok ← isTrue c ce (eval c ce); pure (ForInStep.yield ok) else pure (ForInStep.yield r)) (fun ok s₃ =>
              if ok = true then wpAny (model X.prog X.w) X.A (eval elt ce) (fun x s₄ => wpAny (model X.prog X.w) X.A (call (.builtin "list.append") [.ref D, x]) (fun _ s₅ => ∃ m, m < n ∧ Iv m s₅) (fun _ _ => False) s₄) (fun _ _ => False) s₃
              else ∃ m, m < n ∧ Iv m s₃) (fun _ _ => False) s₂) (fun _ _ => False) s₁') (fun _ _ => False) s6 := by
        intro n i m H6 it p as qi s6 hn hqi w hbs ⟨ex6, pD, has, ds, hD6, hds, hbr⟩
        obtain ⟨og, nm, qn, e0, e1, e2, e3⟩ := w.gen
        refine L2.go_of e0 e1 e2 (by decide) ?_
        obtain ⟨gs, hgs, hgood⟩ := w.gs
        have hqm : qi ∈ as := List.mem_of_getElem? hqi
        have hob : ∀ b ∈ [ga, env.locals, it], ∃ o, s6.heap.get? b = some o ∧ ∀ v, o.data ≠ .cell v := fun b hb => by
          simp only [List.mem_cons, List.not_mem_nil, or_false] at hb
          rcases hb with rfl | rfl | rfl
          · exact ⟨og, e0, fun v z => by rw [e2] at z; cases z⟩
          · obtain ⟨mm, oc, es, ep, c0, cr⟩ := w.ns
            exact ⟨oc, c0, fun v z => by rw [cr.1] at z; cases z⟩
          · obtain ⟨oi, i0, i1, i2⟩ := w.itr
            exact ⟨oi, i0, fun v z => by rw [i2] at z; cases z⟩
        have I6 := w.inv.pinned (fp := [ga, env.locals, it]) (fun b hb => by
          simp only [List.mem_cons, List.not_mem_nil, or_false] at hb
          rcases hb with rfl | rfl | rfl
          · exact w.fa
          · exact w.fc
          · exact w.fi) hob
        refine wpAny_mono (frame_inv (X := X.blk s3 H3 scope ce [ga, env.locals]) I6 hgs hgood.susp (P := fun _ σ' H' => σ' = (wipe σ [j]).set j (some (.ref qi.1)) ∧ H' = H6) fun u Iu => pg.run _ u _ H6 (.ref qi.1) (.ref qi.1) _ Iu rfl ⟨rfl, rfl⟩) (fun _ s7 h7 => ?_) fun _ _ z => z
        obtain ⟨hg7, σ7, H7, I7, rfl, rfl⟩ := h7
        refine wpAny_pure ?_
        rw [if_pos rfl]
        have e2' : (wipe σ [j]).set j (some (V.ref qi.1)) = σ.set j (some (.ref qi.1)) := by
          show (σ.set j none).set j (some _) = _
          rw [List.set_set]
        rw [e2'] at I7
        have hbm : qi.2 ∈ bs := by rw [← hbs]; exact List.mem_map_of_mem hqm
        refine wpAny_mono (frame_inv (X := X.blk s3 H3 scope ce [ga, env.locals]) I7 hg7 hgood.susp (P := fun z σ' H' => ∃ a', z = .ref a' ∧ σ' = σ.set j (some (.ref qi.1)) ∧ Ex H7 H' ∧ H' a' = some (.tup ((f qi.2).map VS))) fun u Iu => ?_) (fun z s8 h8 => ?_) fun _ _ z => z
        · refine wpAny_mono (pe.run _ u _ H7 (fun v H' => ∃ a', v = .ref a' ∧ Ex H7 H' ∧ H' a' = some (.tup ((f qi.2).map VS))) Iu ?_) (fun z s' hz => ?_) fun _ _ z => z.elim
          · have := hbody qi.2 hbm qi.1 H7 ex6 (has qi hqm).2 (fun v H' => ∃ a', v = .ref a' ∧ Ex H7 H' ∧ H' a' = some (.tup ((f qi.2).map VS))) fun a' H'' ex h => ⟨a', rfl, ex, h⟩
            exact this
          · obtain ⟨v, H', I', rv, a', ev, ex, h⟩ := hz
            subst ev
            obtain rfl : z = Value.ref a' := rv
            exact ⟨_, H', I', a', rfl, rfl, ex, h⟩
        obtain ⟨hg8, σ8, H8, I8, a', rfl, rfl, ex8, ha'⟩ := h8
        have hD8 : H8 D = _ := ex8 _ _ hD6
        have naD : a' ≠ D := fun e => by rw [e, hD8] at ha'; cases ha'
        have hi : i < as.length := (List.getElem?_eq_some_iff.mp hqi).1
        have hlb : as.length = bs.length := by rw [← hbs, List.length_map]
        have hlen : ds.length ≤ 65536 := by
          have e := congrArg List.length hds
          rw [List.length_map, List.length_map, List.length_take] at e
          have : bs.length ≤ 16 ^ 4 := len_branches O 4 L gl.len.2
          omega
        refine wpAny_mono (frame_inv (X := X.blk s3 H3 scope ce [ga, env.locals]) I8 hg8 hgood.susp (P := fun _ σ' H' => σ' = σ.set j (some (.ref qi.1)) ∧ H' = upd H8 D (.lst ((ds.map fun q => V.ref q.1) ++ [V.ref a']))) fun u Iu => ?_) (fun _ s9 h9 => ?_) fun _ _ z => z
        · exact app_ok (X := X.blk s3 H3 scope ce [ga, env.locals]) (y := V.ref a') Iu hD8 (by rw [List.length_map]; exact small_lt (by omega)) rfl fun s' I' => ⟨_, _, I', rfl, rfl⟩
        obtain ⟨hg9, σ9, H9, I9, rfl, rfl⟩ := h9
        have hbi : bs[i]? = some qi.2 := by rw [← hbs, List.getElem?_map, hqi]; rfl
        refine ⟨n - 1, by omega, .inr ⟨i + 1, m, upd H8 D (.lst ((ds.map fun q => V.ref q.1) ++ [V.ref a'])), it, p, as, by omega, by omega, ?_, hbs, (ex6.trans ex8).mut hDn, pD, fun q hq => ⟨(has q hq).1, by rw [upd_ne (has q hq).1]; exact ex8 _ _ (has q hq).2⟩, ds ++ [(a', f qi.2)], by rw [upd_same, List.map_append]; rfl, ?_, ?_⟩⟩
        · have w9 := w.keep I9 (hg9.trans hgs.symm) (by rw [upd_ne pD]; exact (ex8 _ _ w.lst).trans w.lst.symm)
          refine ⟨w9.inv.weak (by simp [wipe]) (fun n v e => ?_), w9.gen, w9.gs, w9.len, w9.ns, w9.itr, w9.lst, w9.fa, w9.fc, w9.fi, w9.n1, w9.n2, w9.n3⟩
          have e' : (σ.set j none)[n]? = some (some v) := e
          rw [List.getElem?_set] at e' ⊢
          by_cases c : j = n
          · rw [if_pos c] at e'
            split at e' <;> cases e'
          · rw [if_neg c] at e' ⊢
            exact e'
        · rw [List.map_append, hds, List.take_add_one, hbi, List.map_append]
          rfl
        · intro r hr'
          rcases List.mem_append.mp hr' with h | h
          · obtain ⟨n1, n2⟩ := hbr r h
            exact ⟨n1, by rw [upd_ne n1]; exact ex8 _ _ n2⟩
          · rw [List.mem_singleton.mp h]
            exact ⟨naD, by rw [upd_ne naD]; exact ha'⟩
      have noted : ∀ {α : Type} {t : Sem α} {Q' : α → Shared → Prop} {E : Value → Shared → Prop} {s' : Shared}, wpAny (model X.prog X.w) X.A t Q' (fun _ _ => False) s' → wpAny (model X.prog X.w) X.A t Q' E s' := fun h => wpAny_mono h (fun _ _ z => z) fun _ _ z => z.elim
      have noted4 : ∀ {n : Nat} {v : Value} {s6 : Shared} {E : Value → Shared → Prop}, wpAny (model X.prog X.w) X.A (letOwnedTupleGo (.Name x px) (.ref ga) v) (fun _ s₁' => wpAny (model X.prog X.w) X.A (assign (.Name x px) ce v) (fun _ s₂ =>
            wpAny (model X.prog X.w) X.A (forIn ([] : List Expr) true fun c r => if r = true then do let ok ← isTrue c ce (eval c ce); pure (ForInStep.yield ok) else pure (ForInStep.yield r)) (fun ok s₃ =>
              if ok = true then wpAny (model X.prog X.w) X.A (eval elt ce) (fun x s₄ => wpAny (model X.prog X.w) X.A (call (.builtin "list.append") [.ref D, x]) (fun _ s₅ => ∃ m, m < n ∧ Iv m s₅) (fun _ _ => False) s₄) (fun _ _ => False) s₃
              else ∃ m, m < n ∧ Iv m s₃) (fun _ _ => False) s₂) (fun _ _ => False) s₁') (fun _ _ => False) s6 →
          wpAny (model X.prog X.w) X.A (letOwnedTupleGo (.Name x px) (.ref ga) v) (fun _ s₁' => wpAny (model X.prog X.w) X.A (assign (.Name x px) ce v) (fun _ s₂ =>
            wpAny (model X.prog X.w) X.A (forIn ([] : List Expr) true fun c r => if r = true then do let ok ← isTrue c ce (eval c ce); pure (ForInStep.yield ok) else pure (ForInStep.yield r)) (fun ok s₃ =>
              if ok = true then wpAny (model X.prog X.w) X.A (eval elt ce) (fun x s₄ => wpAny (model X.prog X.w) X.A (call (.builtin "list.append") [.ref D, x]) (fun _ s₅ => ∃ m, m < n ∧ Iv m s₅) E s₄) E s₃
              else ∃ m, m < n ∧ Iv m s₃) E s₂) E s₁') E s6 := fun h =>
        noted (wpAny_mono h (fun _ _ z => noted (wpAny_mono z (fun _ _ z => noted (wpAny_mono z (fun ok _ z => by
          cases ok with
          | false => exact z
          | true => exact noted (wpAny_mono (show wpAny _ _ _ _ _ _ from z) (fun _ _ z => noted z) fun _ _ z => z)) fun _ _ z => z)) fun _ _ z => z)) fun _ _ z => z)
      refine compLoop_any Iv ?_ (bs.length + 1) (.inl ⟨rfl, rfl⟩)
      rintro n s5 (⟨rfl, rfl⟩ | ⟨i, m, H5, it, p, as, hn, hi1, w, hbs, hst⟩)
      · refine thnF (first_item (X := X.blk s3 H3 scope ce [ga, env.locals]) I4 gen4 gs4 ns4 (fpx _ (by simp)) (fpx _ (by simp)) ng.ne ng.envIs (hr.mono hk) Cg CTc GB GL gl (hT.ex ex13)) fun r s6 h6 => ?_
        obtain ⟨H6, as, it, p, q, m, ex, hp, hbs, hbr, hq0, rfl, w⟩ := h6
        have hD6 := ex _ _ hD3
        have pD : p ≠ D := fun e => by rw [e, hD3] at hp; cases hp
        exact noted4 (turn _ 0 m H6 it p as q s6 rfl hq0 w hbs ⟨ex13.trans ex, pD, fun q hq => ⟨fun e => (by have h9 := (hbr q hq).2; rw [e, hD6] at h9; cases h9), (hbr q hq).2⟩, [], hD6, rfl, fun q hq => absurd hq List.not_mem_nil⟩)
      · have hlb : as.length = bs.length := by rw [← hbs, List.length_map]
        cases m with
        | succ m =>
          refine thnF (awake_item (X := X.blk s3 H3 scope ce [ga, env.locals]) hr.hd hr.depth w) fun r s6 h6 => ?_
          obtain ⟨q, hqi, rfl, w6⟩ := h6
          exact noted4 (turn n i m H5 it p as q s6 hn hqi w6 hbs hst)
        | zero =>
          refine thnF (awake_done (X := X.blk s3 H3 scope ce [ga, env.locals]) hr.hd hr.depth w) fun r s6 h6 => ?_
          obtain ⟨rfl, I6⟩ := h6
          have I7 : Inv X pins σ H5 s6 := I3.call' (ch := [ga, env.locals]) I6.os I6.base I6.hok I6.bare fun b hb => ⟨(f3 b hb).1.2.2.2.1, (f3 b hb).1.2.1, (f3 b hb).1.2.2.2.2.1, (f3 b hb).1.2.2.2.2.2⟩
          have nC : H5 s3.heap.objs.size = none := by
            have z : H5 ce.locals = none := I6.free
            rw [cL] at z
            exact z
          obtain ⟨mc, hn', _⟩ := I6.loc
          have hn' : s6.heap.Ns ce.locals mc := hn'
          rw [cL] at hn'
          obtain ⟨ex5, _, _, ds, hD5, hds, hbr⟩ := hst
          have hil : i = bs.length := by have := w.len; omega
          rw [hil, List.take_length] at hds
          have qq : Q (.ref D) H5 := hend D H5 hDn ex5 ⟨ds, hD5, hds, hbr⟩
          exact hRR D s3.heap.objs.size s6 mc H5 I7 qq hn' (I3.fpOk (Nat.le_refl _) nC)
    exact codeAny_compStart_list loop (wpAny_pyIter_gen gen4 loop)
  exact st
theorem w_lcGen (j : Nat) (hN : X.N.Nodup) (ok : BlkOk X.N X.env.scope scope [(x, j)]) (hr : Room k X.A) (hk : 7 ≤ k) (Cg : GoalC X.K CG) (CTc : TreeC X.K CT) (GB : Gm X.prog X.w X.K X.mg X.base CT "branches_from" 5 g1 gd1 ["self", "lit"] (spBranches CT CG 4))
    (GL : Gp X.prog X.w X.K X.mg X.base CG "lamps" 1 p2 g2 gd2 ["self"] (spGoalLamps CG)) (GG : Gg X.K CT "branches" gf sBranches) (q : wE X o σ H (GenAsk CT CG X scope elt j σ Q)) {pl : Sem Bool}
    (hx : scope.names.lookup x = some .local ∨ scope.names.lookup x = some .cell := by first | exact Or.inl rfl | exact Or.inr rfl) (hc : X.calm = true := by rfl)
    (ht : eval (.Call (.Attribute o "branches" apos) [] [] cpos) X.env = (do
      let ov ← eval o X.env
      standAt apos.atName
      let (f, first) ← holding [ov] (getMethod ov "branches" pl)
      callWith cpos f first (backTo cpos (starEach [] X.env)) (backToKw cpos (keywordEach [] X.env))) := by rfl)
    (hs : ∀ x, foldedSetIterable (.Call (.Attribute o "branches" apos) [] [] cpos) X.env x = pure x := by intro _; rfl) :
    wE X (.ListComp elt [⟨.Name x px, .Call (.Attribute o "branches" apos) [] [] cpos, [], 0⟩] scope pos) σ H Q := by
  refine ⟨fun σ H Q => wE X o σ H (GenAsk CT CG X scope elt j σ Q), ⟨fun pins s σ H Q I h => ?_⟩, q⟩
  rw [eval_ListComp]
  refine lcGen_core j hN ok hr hk Cg CTc GB GL GG I h (fun D C s' m H' I' q hn f => ⟨m, hn, fun h'' sb => ?_⟩) hx hc ht hs
  obtain ⟨f0, f1, f2, f3, f4, f5⟩ := f
  exact ⟨.ref D, H', I'.turned (t' := s'.toks) (fun b o hb e => (sb.2 b hb).trans e) f0 f1 f3 f4 f5, rfl, q⟩
/-- y = [.. for x in o.branches()] on one line, y a plain local name -/
theorem s_setLcGen {D : Ends} {spos py : Pos} {y : Str} (i : Nat) (hy : X.N[i]? = some y) (hyl : X.env.scope.names.lookup y = some .local) (j : Nat) (hN : X.N.Nodup) (ok : BlkOk X.N X.env.scope scope [(x, j)]) (hr : Room k X.A) (hk : 7 ≤ k) (Cg : GoalC X.K CG) (CTc : TreeC X.K CT) (GB : Gm X.prog X.w X.K X.mg X.base CT "branches_from" 5 g1 gd1 ["self", "lit"] (spBranches CT CG 4))
    (GL : Gp X.prog X.w X.K X.mg X.base CG "lamps" 1 p2 g2 gd2 ["self"] (spGoalLamps CG)) (GG : Gg X.K CT "branches" gf sBranches) (hsw : swapsWith (.ListComp elt [⟨.Name x px, .Call (.Attribute o "branches" apos) [] [] cpos, [], 0⟩] scope pos) (some (.Name y py)) spos.line X.env = pure true) (q : wE X o σ H (GenAsk CT CG X scope elt j σ fun v H1 => D.nx (σ.set i (some v)) H1)) {pl : Sem Bool}
    (hx : scope.names.lookup x = some .local ∨ scope.names.lookup x = some .cell := by first | exact Or.inl rfl | exact Or.inr rfl) (hc : X.calm = true := by rfl)
    (ht : eval (.Call (.Attribute o "branches" apos) [] [] cpos) X.env = (do
      let ov ← eval o X.env
      standAt apos.atName
      let (f, first) ← holding [ov] (getMethod ov "branches" pl)
      callWith cpos f first (backTo cpos (starEach [] X.env)) (backToKw cpos (keywordEach [] X.env))) := by rfl)
    (hs : ∀ x, foldedSetIterable (.Call (.Attribute o "branches" apos) [] [] cpos) X.env x = pure x := by intro _; rfl) :
    wS X (.Assign [.Name y py] (.ListComp elt [⟨.Name x px, .Call (.Attribute o "branches" apos) [] [] cpos, [], 0⟩] scope pos) spos) D σ H := by
  refine ⟨fun D σ H => wE X o σ H (GenAsk CT CG X scope elt j σ fun v H1 => D.nx (σ.set i (some v)) H1), ⟨fun pins s σ H D I h => ?_⟩, q⟩
  rw [exec_Assign_Name_used _ _ _ _ hsw]
  refine wpAny_bind (wpAny_standAt (wpAny_bind ?_))
  show wpAny _ X.A (do let _ ← comprehension (.ListComp elt [⟨.Name x px, .Call (.Attribute o "branches" apos) [] [] cpos, [], 0⟩] scope pos) scope X.env (firstIterPos [⟨.Name x px, .Call (.Attribute o "branches" apos) [] [] cpos, [], 0⟩] pos) (newList []) false (eval (.Call (.Attribute o "branches" apos) [] [] cpos) X.env) (some (assign (.Name y py) X.env))) _ _ s
  refine wpAny_bind (thn (lcGen_core (Qf := fun _ s' => SP X pins D .next s') j hN ok hr hk Cg CTc GB GL GG I h (fun L C s' m H' I' q hn f => ?_) hx hc ht hs) fun _ s' hq => wpAny_pure (wpAny_pure hq))
  show wpAny _ _ (assign (.Name y py) X.env (.ref L)) _ _ _
  refine wpAny_assign_Name (store_ok2 (v := V.ref L) I' hN hy (.inl hyl) rfl (fun s2 I2 ⟨a, sb, ha⟩ => ?_) (.inr hyl))
  obtain ⟨f0, f1, f2, f3, f4, f5⟩ := f
  have haC : C ≠ a := by
    rcases ha with z | z
    · rw [z]; exact f1
    · exact fun e => f4 y a z e.symm
  refine ⟨m, hn.sameBut sb haC, fun h3 sb3 => ?_⟩
  exact ⟨_, H', I2.turned (t' := s2.toks) (fun b o hb e => (sb3.2 b hb).trans e) f0 f1 f3 f4 f5, q⟩
end
end RG

end

section
set_option Elab.async false
set_option linter.all false
set_option maxRecDepth 100000
set_option maxHeartbeats 4000000
namespace RG
open PySem L2 Evl
/-! ## the law's own defs: the bag -/
def BagAt (H : Hp) (b c : Addr) : Prop := ∃ (cs : List Int) (pos big small : Int), H b = some (.lst [.ref c, .int pos, .int big, .int small]) ∧ c ≠ b ∧ H c = some (.lst (cs.map V.int)) ∧ cs.length ≤ 63 ∧ 0 ≤ pos ∧ 0 ≤ big ∧ 0 ≤ small ∧ small < 2147483629
theorem BagAt.ex {H H' : Hp} {b c : Addr} (e : Ex H H') (h : BagAt H b c) : BagAt H' b c := by
  obtain ⟨cs, pos, big, small, h1, h2, h3, h4⟩ := h
  exact ⟨cs, pos, big, small, e _ _ h1, h2, e _ _ h3, h4⟩
theorem BagAt.lstAt {H : Hp} {b c : Addr} (h : BagAt H b c) : ∃ xs, H b = some (.lst xs) := by
  obtain ⟨cs, pos, big, small, h1, _⟩ := h
  exact ⟨_, h1⟩
theorem BagAt.cell {H : Hp} {b c : Addr} (h : BagAt H b c) : c ≠ b ∧ ∃ xs, H c = some (.lst xs) := by
  obtain ⟨cs, pos, big, small, h1, h2, h3, _⟩ := h
  exact ⟨h2, _, h3⟩
theorem BagAt.put {H : Hp} {b c D : Addr} {o : HO} (h : BagAt H b c) (h1 : D ≠ b) (h2 : D ≠ c) : BagAt (upd H D o) b c := by
  obtain ⟨cs, pos, big, small, e1, e2, e3, e4⟩ := h
  exact ⟨cs, pos, big, small, by rw [upd_ne (Ne.symm h1)]; exact e1, e2, by rw [upd_ne (Ne.symm h2)]; exact e3, e4⟩
/-- what a change of the bag leaves -/
def Ex1 (b c : Addr) (H H' : Hp) : Prop := ExB b H H' ∧ BagAt H' b c
section
variable {X : Cx} {σ : L2.St} {H : Hp} {D : Ends} {o i e : Expr} {p pos : Pos} {Q : VK}
/-- xs[k] = e -/
theorem s_setIx (q : wE X e σ H fun v H1 => wE X o σ H1 fun x H2 => wE X i σ H2 fun y H3 => rSetL x y v H3 (fun H4 => D.nx σ H4))
    (ha : ∀ v, assign (.Subscript o i p) X.env v = (do
      let ov ← holding [v] (eval o X.env)
      let iv ← holding [v, ov] (eval i X.env)
      standAt p
      holding [v, ov, iv] (setItem ov iv v)
      release [v, ov, iv] []) := by intro _; rfl)
    (hs : swapsWithSole [.Subscript o i p] e pos.line X.env = pure false := by rfl) (hw : swappedStores [.Subscript o i p] e X.env = pure none := by rfl)
    (h1 : (assignEach [.Subscript o i p] X.env).map (·.2) = [assign (.Subscript o i p) X.env] := by rfl) : wS X (.Assign [.Subscript o i p] e pos) D σ H :=
  ⟨_, ps_asg pe_w (pg_sub pe_w pe_w set_list ha) hs hw h1, q⟩
/-- xs[k], k written out, xs a list -/
theorem w_ixL {j} {pc : Pos} {n : Nat} (q : wE X e σ H fun x H1 => ∃ a ys y, x = .ref a ∧ SqL X.K H1 a ys ∧ ys[n]? = some y ∧ Q y H1) : wE X (.Subscript e (.Constant (.int n) j pc) pos) σ H Q :=
  w_ix ix_list (wE_mono q fun x H1 ⟨a, ys, y, ex, h, hy, k⟩ => w_int ⟨a, _, n, y, ex, rfl, h, atI_nat hy, k⟩)
theorem w_int1 {q1 : Pos} (hm : X.mg "int" = none) (q : wE X e σ H fun v H1 => ∃ i : Int, v = .int i ∧ Q (.int i) H1) (hg : Gl X "int" := by rfl) (hs1 : starEach [e] X.env = (false, eval e X.env) :: starEach [] X.env := by rfl) : wE X (.Call (.Name "int" q1) [e] [] pos) σ H Q :=
  w_callTy call_int1 hm (by decide +kernel) (a_cons (wE_mono q fun v H1 ⟨i, ev, k⟩ => a_nil (.inl ⟨i, by rw [ev], k⟩)) hs1) hg (by decide) (by decide) hs1 (by rfl)
end
section
variable {P : Program} {w : World} {K : PySem.W.Frag} {mg : Str → Option Value} {base : Heap}
abbrev sPull : Stmt := top 36
def spPull : Sp := fun vs H Q _ => ∃ (b c : Addr) (many : Int), vs = [.ref b, .int many] ∧ BagAt H b c ∧ 1 ≤ many ∧ many ≤ 1000 ∧ ∀ (d : Int) H', 0 ≤ d → d < many → Ex1 b c H H' → Q (.int d) H'
abbrev nPull : List Str := ["_law_bag_here", "_law_many", "_law_cell", "_law_digit"]
theorem scPull : FnScope nPull ["_law_bag_here", "_law_many"] (defScope sPull) := ⟨rfl, rfl, rfl, by decide +kernel, rfl, by decide +kernel, by decide +kernel⟩
theorem ok_pull {f : Addr} {fd : FuncData} (F : Fun K "_law_pull" "_law_pull" sPull f fd) (B : Bt mg) : FnOk P w K mg base CX0 1 f fd ["_law_bag_here", "_law_many"] spPull := by
  refine F.ok scPull (fun vs H Q E h => ?_) (fun cdv A outer s H vs Q E hr h => ?_)
  · obtain ⟨b, c, many, rfl, _⟩ := h
    rfl
  obtain ⟨b, c, many, rfl, hB, hm1, hm2, hq⟩ := h
  -- the second half
  have half : ∀ (H1 : Hp) (cell : Option V), ExB b H H1 → BagAt H1 b c → wB (cxOf CX0 P w K mg base nPull "_law_pull" (defScope sPull) f cdv A outer s H E).nox ((defBody sPull).drop 1) { nx := fun x H' => Q V.non H', rt := Q } [some (.ref b), some (.int many), cell, none] H1 := by
    rintro H1 cell eb ⟨cs, pos, big, small, h1, h2, h3, h4, h5, h6, h7, h8⟩
    have hl : SqL K H1 b [.ref c, .int pos, .int big, .int small] := SqL.of h1
    refine b_cons (s_if (t_cmp op_gt (w_ixL (n := 2) (w_var 0 rfl ⟨b, _, .int big, rfl, hl, rfl, w_int ⟨big, 0, rfl, rfl, _, rfl, ?_⟩⟩)) (nomark _)))
    by_cases hbig : 0 < big
    · refine ite_yes (decide_eq_true hbig) ?_
      refine b_cons (s_set 3 scPull.nd (w_op op_mod (w_int1 B.int (w_ixL (n := 2) (w_var 0 rfl ⟨b, _, .int big, rfl, hl, rfl, big, rfl, w_var 1 rfl ⟨big, many, rfl, rfl, by omega, ?_⟩⟩)))))
      refine b_cons (s_setIx (w_op op_fdiv (w_ixL (n := 2) (w_var 0 rfl ⟨b, _, .int big, rfl, hl, rfl, w_var 1 rfl ⟨big, many, rfl, rfl, ⟨by omega, by omega⟩, w_var 0 rfl (w_int ⟨b, _, 2, 2, rfl, rfl, h1, rfl, ?_⟩)⟩⟩))))
      refine b_one (s_ret (w_var 3 rfl (hq _ _ (Int.emod_nonneg _ (by omega)) (Int.emod_lt_of_pos _ (by omega)) ⟨eb.trans ExB.put, cs, pos, big / many, small, by rw [upd_same]; rfl, h2, by rw [upd_ne h2]; exact h3, h4, h5, Int.ediv_nonneg h6 (by omega), h7, h8⟩)))
    · refine ite_no (decide_eq_false hbig) (b_nil ?_)
      refine b_cons (s_setIx (w_op op_mod (w_int1 B.int (w_op op_add (w_op op_add (w_op op_pow (w_ixL (n := 3) (w_var 0 rfl ⟨b, _, .int small, rfl, hl, rfl, ?_⟩))))))))
      refine w_int ⟨small, 3, rfl, rfl, ⟨by decide, by decide, by omega⟩, ?_⟩
      refine w_op op_mul (w_ixL (n := 3) (w_var 0 rfl ⟨b, _, .int small, rfl, hl, rfl, ?_⟩))
      refine w_int ⟨small, 40503, rfl, rfl, .inr ⟨by decide, by decide⟩, _, _, rfl, rfl, ?_⟩
      refine w_int ⟨_, _, rfl, rfl, _, rfl, ?_⟩
      refine w_int ⟨_, 2147483629, rfl, rfl, (by decide : (0 : Int) < 2147483629), ?_⟩
      refine w_var 0 rfl (w_int ⟨b, _, 3, 3, rfl, rfl, h1, rfl, ?_⟩)
      show wB _ _ _ _ (upd H1 b (.lst ([V.ref c, V.int pos, V.int big, V.int small].set 3 (.int ((small ^ (3 : Int).toNat + small * 40503 + 1013904223) % 2147483629)))))
      generalize hz : (small ^ (3 : Int).toNat + small * 40503 + 1013904223) % 2147483629 = z
      have z1 : 0 ≤ z := by rw [← hz]; exact Int.emod_nonneg _ (by decide)
      have z2 : z < 2147483629 := by rw [← hz]; exact Int.emod_lt_of_pos _ (by decide)
      have h1' : (upd H1 b (.lst ([V.ref c, V.int pos, V.int big, V.int small].set 3 (.int z)))) b = some (.lst [.ref c, .int pos, .int big, .int z]) := by rw [upd_same]; rfl
      have hl' : SqL K (upd H1 b (.lst ([V.ref c, V.int pos, V.int big, V.int small].set 3 (.int z)))) b [.ref c, .int pos, .int big, .int z] := SqL.of h1'
      refine b_one (s_ret (w_op op_mod (w_int1 B.int (w_op op_add (w_op op_fdiv (w_ixL (n := 3) (w_var 0 rfl ⟨b, _, .int z, rfl, hl', rfl, ?_⟩)))))))
      refine w_int ⟨z, 61, rfl, rfl, ⟨by decide, by decide⟩, ?_⟩
      refine w_op op_mul (w_op op_mod (w_int1 B.int (w_ixL (n := 3) (w_var 0 rfl ⟨b, _, .int z, rfl, hl', rfl, z, rfl, ?_⟩))))
      refine w_int ⟨z, 8209, rfl, rfl, (by decide : (0 : Int) < 8209), ?_⟩
      refine w_int ⟨_, 29, rfl, rfl, .inr ⟨by decide, by decide⟩, _, _, rfl, rfl, _, rfl, ?_⟩
      refine w_var 1 rfl ⟨_, many, rfl, rfl, (by omega : (0 : Int) < many), ?_⟩
      exact hq _ _ (Int.emod_nonneg _ (by omega)) (Int.emod_lt_of_pos _ (by omega)) ⟨eb.trans ExB.put, cs, pos, big, z, h1', h2, by rw [upd_ne h2]; exact h3, h4, h5, h6, z1, z2⟩
  obtain ⟨cs, pos, big, small, h1, h2, h3, h4, h5, h6, h7, h8⟩ := id hB
  have hl : SqL K H b [.ref c, .int pos, .int big, .int small] := SqL.of h1
  refine b_cons (s_if (t_and (u_and (t_eqi (w_ixL (n := 2) (w_var 0 rfl ⟨b, _, .int big, rfl, hl, rfl, big, rfl, ?_⟩))))))
  obtain hbig | hbig : ¬ big = 0 ∨ big = 0 := by omega
  · refine ite_no (decide_eq_false hbig) ?_
    refine ite_no rfl ?_
    exact b_nil (half H none (ExB.of (Ex.refl _)) hB)
  refine ite_yes (decide_eq_true hbig) (u_and1 (t_cmp op_lt (w_ixL (n := 1) (w_var 0 rfl ⟨b, _, .int pos, rfl, hl, rfl, ?_⟩)) (nomark _)))
  refine w_len B.len (w_ixL (n := 0) (w_var 0 rfl ⟨b, _, .ref c, rfl, hl, rfl, c, _, rfl, .inl (SqL.of h3), pos, _, rfl, rfl, _, rfl, ?_⟩))
  rw [List.length_map]
  obtain hp | hp : ¬ pos < (cs.length : Int) ∨ pos < (cs.length : Int) := by omega
  · refine ite_no (decide_eq_false hp) ?_
    exact b_nil (half H none (ExB.of (Ex.refl _)) hB)
  refine ite_yes (decide_eq_true hp) ?_
  obtain ⟨n, rfl⟩ : ∃ n : Nat, pos = n := ⟨pos.toNat, by omega⟩
  have hn : n < cs.length := by omega
  have hget : (cs.map V.int)[n]? = some (.int (cs[n])) := by rw [List.getElem?_map, List.getElem?_eq_getElem hn]; rfl
  generalize hz : cs[n] = z at hget
  refine b_cons (s_set 2 scPull.nd (w_ix ix_list (w_ixL (n := 0) (w_var 0 rfl ⟨b, _, .ref c, rfl, hl, rfl, ?_⟩))))
  refine w_ixL (n := 1) (w_var 0 rfl ⟨b, _, .int n, rfl, hl, rfl, c, _, n, _, rfl, rfl, SqL.of h3, atI_nat hget, ?_⟩)
  refine b_cons (s_setIx (w_op op_add (w_ixL (n := 1) (w_var 0 rfl ⟨b, _, .int n, rfl, hl, rfl, ?_⟩))))
  refine w_int ⟨n, 1, rfl, rfl, w_var 0 rfl (w_int ⟨b, _, 1, 1, rfl, rfl, h1, rfl, ?_⟩)⟩
  have h1' : (upd H b (.lst ([V.ref c, V.int n, V.int big, V.int small].set 1 (.int ((n : Int) + 1))))) b = some (.lst [.ref c, .int ((n : Int) + 1), .int big, .int small]) := by rw [upd_same]; rfl
  generalize hH2 : upd H b (.lst ([V.ref c, V.int n, V.int big, V.int small].set 1 (.int ((n : Int) + 1)))) = H2 at h1'
  have eb2 : ExB b H H2 := by rw [← hH2]; exact ExB.put
  have h3' : H2 c = some (.lst (cs.map V.int)) := eb2 _ _ h2 h3
  have hl' : SqL K H2 b [.ref c, .int ((n : Int) + 1), .int big, .int small] := SqL.of h1'
  refine b_one (s_if (t_cmp op_ge (w_callB call_abs B.abs (by decide +kernel) (a_cons (w_var 2 rfl (a_nil ⟨z, rfl, ?_⟩)))) (nomark _)))
  refine w_op op_pow (w_int (w_int ⟨10, 18, rfl, rfl, ⟨by decide, by decide, by decide⟩, _, _, rfl, rfl, _, rfl, ?_⟩))
  cases hc : decide ((10 : Int) ^ (18 : Int).toNat ≤ if z < 0 then -z else z) with
  | true =>
    refine iteT ?_
    refine b_one (s_setIx (w_callB call_abs B.abs (by decide +kernel) (a_cons (w_var 2 rfl (a_nil ⟨z, rfl, w_var 0 rfl (w_int ⟨b, _, 2, 2, rfl, rfl, h1', rfl, ?_⟩)⟩)))))
    refine half _ _ (eb2.trans ExB.put) ⟨cs, (n : Int) + 1, _, small, by rw [upd_same]; rfl, h2, by rw [upd_ne h2]; exact h3', h4, by omega, ?_, h7, h8⟩
    split <;> omega
  | false =>
    refine iteF ?_
    refine b_one (s_setIx (w_op op_mod (w_int1 B.int (w_op op_add (w_op op_add (w_op op_mul (w_ixL (n := 3) (w_var 0 rfl ⟨b, _, .int small, rfl, hl', rfl, ?_⟩))))))))
    refine w_int ⟨small, 69069, rfl, rfl, .inr ⟨by decide, by decide⟩, ?_⟩
    refine w_op op_mul (w_op op_mod (w_int1 B.int (w_var 2 rfl ⟨z, rfl, ?_⟩)))
    refine w_int ⟨z, 1000000007, rfl, rfl, (by decide : (0 : Int) < 1000000007), ?_⟩
    refine w_int ⟨_, 40503, rfl, rfl, .inr ⟨by decide, by decide⟩, _, _, rfl, rfl, ?_⟩
    refine w_int ⟨_, _, rfl, rfl, _, rfl, ?_⟩
    refine w_int ⟨_, 2147483629, rfl, rfl, (by decide : (0 : Int) < 2147483629), ?_⟩
    refine w_var 0 rfl (w_int ⟨b, _, 3, 3, rfl, rfl, h1', rfl, ?_⟩)
    refine half _ _ (eb2.trans ExB.put) ⟨cs, (n : Int) + 1, big, _, by rw [upd_same]; rfl, h2, by rw [upd_ne h2]; exact h3', h4, by omega, h6, Int.emod_nonneg _ (by decide), Int.emod_lt_of_pos _ (by decide)⟩
end
end RG

end

section
set_option Elab.async false
set_option linter.all false
set_option maxRecDepth 100000
set_option maxHeartbeats 4000000
namespace RG
open PySem L2 Evl
theorem ExB.bag {b : Addr} {H H' : Hp} {C dx : Addr} {fs} (h : ExB b H H') (hb : ∃ xs, H b = some (.lst xs)) {a : Addr} (ha : H a = some (.ins C dx fs)) : H' a = some (.ins C dx fs) := by
  obtain ⟨xs, hb⟩ := hb
  exact h a _ (fun e => by rw [e, hb] at ha; cases ha) ha
theorem ExB.mut {b D : Addr} {H H' : Hp} {o : HO} (h : ExB b H H') (hD : H D = none) : ExB b H (upd H' D o) := fun a u n e => by
  rw [upd_ne (ne_of_none e hD)]
  exact h a u n e
theorem ExB.tup {b : Addr} {H H' : Hp} (h : ExB b H H') (hb : ∃ xs, H b = some (.lst xs)) {a : Addr} {xs} (ha : H a = some (.tup xs)) : H' a = some (.tup xs) := by
  obtain ⟨xs, hb⟩ := hb
  exact h a _ (fun e => by rw [e, hb] at ha; cases ha) ha
theorem SenLeaf.tmono {L : Wd} {H H' : Hp} {a : Addr} {f : Wd → Bool} (t : ∀ {b xs}, H b = some (.tup xs) → H' b = some (.tup xs)) (h : SenLeaf L H a f) : SenLeaf L H' a f := by
  rcases h with ⟨c, h1, h2, h3⟩ | ⟨i, s, h1, h2, h3, h4, h5⟩ | ⟨ss, h1, h2, h3, h4⟩
  · exact .inl ⟨c, h1, t h2, h3⟩
  · exact .inr (.inl ⟨i, s, h1, h2, h3, t h4, h5⟩)
  · exact .inr (.inr ⟨ss, h1, h2, t h3, h4⟩)
theorem SenAt.tmono {L : Wd} {H H' : Hp} (t : ∀ {b xs}, H b = some (.tup xs) → H' b = some (.tup xs)) : ∀ {n : Nat} {v : V} {f : Wd → Bool} {k : Nat}, SenAt L H n v f k → SenAt L H' n v f k
  | 0, v, f, k, ⟨a, ev, h, hk⟩ => ⟨a, ev, h.tmono t, hk⟩
  | n + 1, v, f, k, ⟨a, ev, h⟩ => by
    refine ⟨a, ev, ?_⟩
    rcases h with ⟨h, hk⟩ | ⟨w, g, j, h1, h2, h3, h4⟩ | ⟨b, ps, h1, h2, h3, h4, h5, h6⟩
    · exact .inl ⟨h.tmono t, hk⟩
    · exact .inr (.inl ⟨w, g, j, t h1, h2.tmono t, h3, h4⟩)
    · exact .inr (.inr ⟨b, ps, t h1, h2, h3, fun p hp => (h4 p hp).tmono t, h5, h6⟩)
theorem cutV_map {α : Type} (g : α → V) (l : List α) (lo hi : Option Int) : cutV (l.map g) lo hi = ((l.drop (HT.sIx l.length 0 lo)).take (HT.sIx l.length l.length hi - HT.sIx l.length 0 lo)).map g := by
  unfold cutV
  rw [List.length_map, ← List.map_drop, ← List.map_take]
theorem join_letters : ∀ l : Wd, Txt.join "" (l.map fun c => S [c]) = S l := fun l => by
  rw [TL.join_eq]
  induction l with
  | nil => rfl
  | cons a r ih =>
    cases r with
    | nil => rfl
    | cons b t =>
      show S [a] ++ ("" : Str) ++ Str.join "" ((b :: t).map fun c => S [c]) = S (a :: b :: t)
      rw [ih]
      have e : ("" : Str) = S [] := by decide +kernel
      rw [e, S_add, S_add]
      rfl
section
variable {X : Cx} {σ : L2.St} {H : Hp} {e hi : Expr} {p p2 pos apos cpos : Pos} {Q : VK}
/-- xs[:n] -/
theorem w_cutL (q : wE X e σ H fun x H1 => wE X hi σ H1 fun y H2 => ∃ a xs, ∃ n : Int, x = .ref a ∧ y = .int n ∧ SqL X.K H2 a xs ∧ ∀ r, H2 r = none → Q (.ref r) (upd H2 r (.lst (cutV xs none (some n))))) : wE X (.Subscript e (.Slice none (some hi) none p2) pos) σ H Q :=
  ⟨_, pe_slice sl_list pe_w po_none (po_some pe_w), wE_mono q fun x H1 h => wE_mono h fun y H2 ⟨a, xs, n, ex, ey, h1, k⟩ => ⟨n, ey, a, xs, ex, h1, k⟩⟩
/-- ''.join(letters) -/
theorem w_join {j} (q : wE X e σ H fun v H1 => ∃ a, ∃ l : Wd, v = .ref a ∧ SqL X.K H1 a (l.map fun c => VS [c]) ∧ l.length ≤ 1000 ∧ Q (VS l) H1) (hs : starEach [e] X.env = [(false, eval e X.env)] := by rfl)
    (hbase : attributeBase (.Constant (.str "") j p) "join" X.env (eval (.Constant (.str "") j p) X.env) = eval (.Constant (.str "") j p) X.env := by rfl) (hline : (apos.endLine == pos.line) = true := by rfl) : wE X (.Call (.Attribute (.Constant (.str "") j p) "join" apos) [e] [] pos) σ H Q := by
  refine ⟨_, pe_join pe_str pe_w hs hbase hline, ?_⟩
  refine ⟨⟨_, rfl⟩, wE_mono q fun v H1 ⟨a, l, ev, h, hl, k⟩ => ?_⟩
  refine ⟨"", a, l.map fun c => S [c], rfl, by rw [ev], .inl (by rw [List.map_map]; exact h), ?_, ?_⟩
  · rw [List.map_map]
    have e : (l.map ((fun x : Str => x.length) ∘ fun c => S [c])).sum = l.length := by
      induction l with
      | nil => rfl
      | cons a r ih => 
        have : ∀ r : Wd, (r.map ((fun x : Str => x.length) ∘ fun c => S [c])).sum = r.length := by
          intro r
          induction r with
          | nil => rfl
          | cons a r ih =>
            rw [List.map_cons, List.sum_cons, ih, List.length_cons]
            show (S [a]).length + r.length = r.length + 1
            rw [S_len]
            simp only [List.length_singleton]
            omega
        exact this _
    have e0 : ("" : Str).length = 0 := by decide +kernel
    rw [e, List.length_map, e0]
    omega
  · rw [join_letters]
    exact k
end
section
variable {P : Program} {w : World} {K : PySem.W.Frag} {mg : Str → Option Value} {base : Heap}
abbrev sBag : Stmt := top 35
abbrev sOf : Stmt := top 37
abbrev sLawLamps : Stmt := top 40
abbrev sLits : Stmt := top 41
def spBag : Sp := fun vs H Q _ => ∃ (a : Addr) (ns : List Int), vs = [.ref a] ∧ SqL K H a (ns.map V.int) ∧ ns.length ≤ 63 ∧ ∀ b c H', H b = none → H c = none → Ex H H' → BagAt H' b c → Q (.ref b) H'
theorem scBag : FnScope ["_law_script"] ["_law_script"] (defScope sBag) := ⟨rfl, rfl, rfl, by decide +kernel, rfl, by decide +kernel, by decide +kernel⟩
theorem ok_bag {f : Addr} {fd : FuncData} (F : Fun K "_law_bag" "_law_bag" sBag f fd) (B : Bt mg) : FnOk P w K mg base CX0 1 f fd ["_law_script"] (spBag (K := K)) := by
  refine F.ok scBag (fun vs H Q E h => ?_) (fun cdv A outer s H vs Q E hr h => ?_)
  · obtain ⟨a, ns, rfl, _⟩ := h
    rfl
  obtain ⟨a, ns, rfl, ha, hl, hq⟩ := h
  refine b_one (s_ret (w_lst (a_cons (w_callTy call_list_of B.list (by decide +kernel) (a_cons (w_cutL (w_var 0 rfl (w_int ⟨a, _, 63, rfl, rfl, ha, fun r hr => a_nil ⟨r, _, rfl, .inl (SqL.of upd_same), fun c hc => a_cons (w_int (a_cons (w_int (a_cons (w_int (a_nil ⟨by show 4 ≤ sizeLine; decide, fun b hb => ?_⟩))))))⟩⟩))))))))
  rw [cutV_map] at *
  generalize hcs : (ns.drop (HT.sIx ns.length 0 none)).take (HT.sIx ns.length ns.length (some 63) - HT.sIx ns.length 0 none) = cs at *
  have hcl : cs.length ≤ 63 := by
    rw [← hcs, List.length_take, List.length_drop]
    omega
  have ex1 : Ex H (upd H r (.lst (cs.map V.int))) := Ex.new hr
  have cb : c ≠ b := fun e => by rw [← e, upd_same] at hb; cases hb
  have ex2 := ex1.trans (Ex.new (o := .lst (cs.map V.int)) hc)
  exact hq b c _ (fresh_back ex2 hb) (fresh_back ex1 hc) (ex2.trans (Ex.new hb)) ⟨cs, 0, 0, 5601, upd_same, cb, by rw [upd_ne cb, upd_same], hcl, by decide, by decide, by decide, by decide⟩
def spOf : Sp := fun vs H Q _ => ∃ (b c' : Addr) (x : V), vs = [.ref b, x] ∧ BagAt H b c' ∧ ((∃ l : Wd, x = VS l ∧ 1 ≤ l.length ∧ l.length ≤ 100 ∧ ∀ c ∈ l, ∀ H', Ex1 b c' H H' → Q (VS [c]) H') ∨
  ∃ (a : Addr) (ws : List Wd), x = .ref a ∧ a ≠ b ∧ H a = some (.lst (ws.map VS)) ∧ 1 ≤ ws.length ∧ ws.length ≤ 100 ∧ ∀ w ∈ ws, ∀ H', Ex1 b c' H H' → Q (VS w) H')
theorem scOf : FnScope ["_law_bag_here", "_law_some"] ["_law_bag_here", "_law_some"] (defScope sOf) := ⟨rfl, rfl, rfl, by decide +kernel, rfl, by decide +kernel, by decide +kernel⟩
theorem ok_of {f g : Addr} {fd gd : FuncData} (F : Fun K "_law_of" "_law_of" sOf f fd) (B : Bt mg) (G : Gv P w K mg base "_law_pull" 1 g gd ["_law_bag_here", "_law_many"] spPull) : FnOk P w K mg base CX0 2 f fd ["_law_bag_here", "_law_some"] spOf := by
  refine F.ok scOf (fun vs H Q E h => ?_) (fun cdv A outer s H vs Q E hr h => ?_)
  · obtain ⟨b, c', x, rfl, _⟩ := h
    rfl
  obtain ⟨b, c', x, rfl, hB, ⟨l, rfl, h1, h2, hq⟩ | ⟨a, ws, rfl, hab, ha, h1, h2, hq⟩⟩ := h
  · refine b_one (s_ret (w_ix ix_str (w_var 1 rfl (w_call G hr (by decide) (a_cons (w_var 0 rfl (a_cons (w_lenS B.len (w_var 1 rfl ⟨l, rfl, by omega, a_nil ⟨b, c', _, rfl, hB, by omega, by omega, fun d H' d0 d1 ex => ?_⟩⟩)))))))))
    obtain ⟨n, rfl⟩ : ∃ n : Nat, d = n := ⟨d.toNat, by omega⟩
    have hn : n < l.length := by omega
    refine ⟨S l, n, l[n], rfl, rfl, by rw [S_len]; exact small_line (by omega), ?_, hq _ (List.getElem_mem hn) _ ex⟩
    rw [S_list]
    exact atI_nat (List.getElem?_eq_getElem hn)
  · refine b_one (s_ret (w_ix ix_list (w_var 1 rfl (w_call G hr (by decide) (a_cons (w_var 0 rfl (a_cons (w_len B.len (w_var 1 rfl ⟨a, _, rfl, .inl (SqL.of ha), ?_⟩)))))))))
    rw [List.length_map]
    refine a_nil ⟨b, c', _, rfl, hB, by omega, by omega, fun d H' d0 d1 ex => ?_⟩
    obtain ⟨n, rfl⟩ : ∃ n : Nat, d = n := ⟨d.toNat, by omega⟩
    have hn : n < ws.length := by omega
    exact ⟨a, _, n, VS ws[n], rfl, rfl, SqL.of (ex.1 _ _ hab ha), atI_nat (by rw [List.getElem?_map, List.getElem?_eq_getElem hn]; rfl), hq _ (List.getElem_mem hn) _ ex⟩
abbrev lamps7 : List Wd := [[97, 98], [97], [97, 98, 99], [97, 98], [120, 121, 122], [98, 100], [97, 98, 99]]
def spLawLamps : Sp := fun vs H Q _ => ∃ (b c : Addr), vs = [.ref b, .int 7] ∧ BagAt H b c ∧ ∀ L ∈ lamps7, ∀ H', Ex1 b c H H' → Q (VS L) H'
theorem scLawLamps : FnScope ["_law_bag_here", "_law_most"] ["_law_bag_here", "_law_most"] (defScope sLawLamps) := ⟨rfl, rfl, rfl, by decide +kernel, rfl, by decide +kernel, by decide +kernel⟩
theorem ok_law_lamps {f g : Addr} {fd gd : FuncData} (F : Fun K "_law_lamps" "_law_lamps" sLawLamps f fd) (B : Bt mg) (G : Gv P w K mg base "_law_of" 2 g gd ["_law_bag_here", "_law_some"] spOf) : FnOk P w K mg base CX0 3 f fd ["_law_bag_here", "_law_most"] spLawLamps := by
  refine F.ok scLawLamps (fun vs H Q E h => ?_) (fun cdv A outer s H vs Q E hr h => ?_)
  · obtain ⟨b, c, rfl, _⟩ := h
    rfl
  obtain ⟨b, c, rfl, hB, hq⟩ := h
  obtain ⟨xs, hb⟩ := hB.lstAt
  refine b_one (s_ret (w_call G hr (by decide) (a_cons (w_var 0 rfl (a_cons (w_cutL (w_lst (a_cons (w_str (a_cons (w_str (a_cons (w_str (a_cons (w_str (a_cons (w_str (a_cons (w_str (a_cons (w_str (a_cons (w_str (a_cons (w_str (a_nil ⟨by show 9 ≤ sizeLine; decide, fun p hp => w_var 1 rfl ⟨p, _, 7, rfl, rfl, SqL.of upd_same, fun r hr => a_nil ?_⟩⟩))))))))))))))))))))))))))
  have e : cutV [V.str "ab", V.str "a", V.str "abc", V.str "ab", V.str "xyz", V.str "bd", V.str "abc", V.str "abcd", V.str "nopt"] none (some 7) = lamps7.map VS := by decide +kernel
  rw [e]
  have ex : Ex H (upd (upd H p (.lst [V.str "ab", V.str "a", V.str "abc", V.str "ab", V.str "xyz", V.str "bd", V.str "abc", V.str "abcd", V.str "nopt"])) r (.lst (lamps7.map VS))) := (Ex.new hp).trans (Ex.new hr)
  refine ⟨b, c, _, rfl, hB.ex ex, .inr ⟨r, lamps7, rfl, fun e => ?_, upd_same, by decide, by decide, fun L hL H' ex' => hq L hL H' ⟨(ExB.of ex).trans ex'.1, ex'.2⟩⟩⟩
  have := (Ex.new (o := .lst [V.str "ab", V.str "a", V.str "abc", V.str "ab", V.str "xyz", V.str "bd", V.str "abc", V.str "abcd", V.str "nopt"]) hp) _ _ hb
  rw [← e, hr] at this
  cases this
def spLits : Sp := fun vs H Q _ => ∃ (b c : Addr) (L : Wd), vs = [.ref b, VS L] ∧ BagAt H b c ∧ L.length ≤ 4 ∧ ∀ s ∈ setsOf L, ∀ H', Ex1 b c H H' → Q (VS s) H'
abbrev nLits : List Str := ["_law_bag_here", "_law_lamps_here", "_law_lamp"]
theorem scLits : FnScope nLits ["_law_bag_here", "_law_lamps_here"] (defScope sLits) := ⟨rfl, rfl, rfl, by decide +kernel, rfl, by decide +kernel, by decide +kernel⟩
theorem ok_lits {f g : Addr} {fd gd : FuncData} (F : Fun K "_law_lits" "_law_lits" sLits f fd) (G : Gv P w K mg base "_law_pull" 1 g gd ["_law_bag_here", "_law_many"] spPull) : FnOk P w K mg base CX0 2 f fd ["_law_bag_here", "_law_lamps_here"] spLits := by
  refine F.ok scLits (fun vs H Q E h => ?_) (fun cdv A outer s H vs Q E hr h => ?_)
  · obtain ⟨b, cc, L, rfl, _⟩ := h
    rfl
  obtain ⟨b, cc, L, rfl, hB, hL, hq⟩ := h
  obtain ⟨xs, hb⟩ := hB.lstAt
  refine b_one (s_ret (w_join (w_lc rfl scLits.nd (blkOk_by (N := nLits) (sc := defScope sLits) (own := [("_law_lamp", 2)]) (by decide +kernel)) gm_name (by decide) (pg_own (j := 2) scLits.nd (blkOk_by (N := nLits) (sc := defScope sLits) (by decide +kernel)) (.inl rfl)) (i_str (w_var 1 rfl ⟨S L, rfl, _, _, _, walk_signs, ?_⟩)))))
  rw [signs_S, List.length_map]
  intro D hD
  have nD : D ≠ b := fun e => by rw [e, hb] at hD; cases hD
  obtain ⟨hcb, ys, hcc⟩ := hB.cell
  have nDc : D ≠ cc := fun e => by rw [e, hcc] at hD; cases hD
  refine ⟨fun i acc H' => ∃ s : Wd, s.Sublist (L.take i) ∧ acc = s.map (fun c => VS [c]) ∧ ExB b H H' ∧ BagAt H' b cc ∧ H' D = some (.lst acc) ∧ H D = none, ⟨[], List.nil_sublist _, rfl, .of (Ex.new hD), hB.ex (Ex.new hD), upd_same, hD⟩, ?_, ?_, ?_⟩
  · rintro i acc H' hi ⟨s, hs, rfl, _, _, hd, _⟩
    refine ⟨trivial, hd, ?_⟩
    rw [List.length_map]
    have := hs.length_le
    rw [List.length_take] at this
    exact small_lt (by omega)
  · rintro i x acc H' H'' hi ⟨s, hs, rfl, eb, hB', hd, _⟩ ⟨rfl, hx⟩
    obtain ⟨c, hc, rfl⟩ : ∃ c, L[i]? = some c ∧ x = VS [c] := by
      rw [List.getElem?_map] at hx
      cases q : L[i]? with
      | none => rw [q] at hx; cases hx
      | some c => rw [q] at hx; exact ⟨c, rfl, (Option.some.inj hx).symm⟩
    refine ⟨rfl, ?_⟩
    intro s0 H0 C cl fp
    refine t_eqi (w_call G hr (by decide) (a_cons (w_var 0 rfl (a_cons (w_int (a_nil ⟨b, cc, 2, rfl, hB', by decide, by decide, fun d H3 d0 d1 ex3 => ⟨d, rfl, ?_⟩⟩))))))
    have hd3 := ex3.1 _ _ nD hd
    cases decide (d = 0) with
    | true =>
      refine iteT fun s0 H0 C cl fp => w_var 2 rfl ⟨hd3, s ++ [c], ?_, by rw [List.map_append]; rfl, (eb.trans ex3.1).mut hD, ex3.2.put nD nDc, upd_same, hD⟩
      rw [List.take_add_one, hc]
      exact hs.append (List.Sublist.refl _)
    | false =>
      refine iteF ⟨s, ?_, rfl, eb.trans ex3.1, ex3.2, hd3, hD⟩
      rw [List.take_add_one, hc]
      exact hs.trans (List.sublist_append_left _ _)
  · rintro acc H' ⟨s, hs, rfl, eb, hB', hd, _⟩
    rw [List.take_length] at hs
    refine ⟨D, s, rfl, SqL.of hd, by have := hs.length_le; omega, hq s (mem_setsOf.mpr hs) _ ⟨eb, hB'⟩⟩
end
end RG

end

section
set_option Elab.async false
set_option linter.all false
set_option maxRecDepth 100000
set_option maxHeartbeats 4000000
namespace RG
open PySem L2 Evl PySem.Spec PyProof.Rows
/-! ## x, y = (a, b): the names stored from the right -/
theorem s_swap2 {X : Cx} {σ : L2.St} {H : Hp} {D : Ends} {e : Expr} {x y : Str} {tg : Expr} {pos : Pos} (i j : Nat) (hN : X.N.Nodup) (hi : X.N[i]? = some x) (hj : X.N[j]? = some y) (hx : X.env.scope.names.lookup x = some .local) (hy : X.env.scope.names.lookup y = some .local)
    (q : wE X e σ H fun v H1 => ∃ a u w, v = .ref a ∧ SqT X.K H1 a [u, w] ∧ D.nx ((σ.set j (some w)).set i (some u)) H1) (hc : X.calm = true := by rfl)
    (hs : swapsWithSole [tg] e pos.line X.env = pure false := by rfl) (hw : swappedStores [tg] e X.env = pure (some [x, y]) := by rfl) : wS X (.Assign [tg] e pos) D σ H := by
  refine ⟨fun D σ H => wE X e σ H fun v H1 => ∃ a u w, v = .ref a ∧ SqT X.K H1 a [u, w] ∧ D.nx ((σ.set j (some w)).set i (some u)) H1, ⟨fun pins s σ H D I h => ?_⟩, q⟩
  rw [exec_Assign_arm]
  refine wpAny_bind (wpAny_standAt ?_)
  rw [hs]
  refine wpAny_bind (wpAny_pure ?_)
  rw [if_neg (by decide)]
  refine wpAny_bind (thn (pe_w.run pins s σ H _ I h) fun v s1 ⟨xv, H1, I1, r1, a, u, w, ev, hq, hD⟩ => ?_)
  subst ev
  obtain rfl : v = Value.ref a := r1
  rw [hw]
  refine wpAny_bind (wpAny_pure ?_)
  obtain ⟨its, rv, ht, hz⟩ := I1.tuple hq
  cases rv with
  | @cons _ u0 _ us ru rr =>
  cases rr with
  | @cons _ w0 _ us rw' rr =>
  cases rr
  show wpAny _ _ (rule "assign.swapped-stores" >>= fun _ => unpackItems (.ref a) 2 none >>= fun items => assignInOrder ([x, y].reverse.map fun n => bindName X.env n) items.reverse >>= fun _ => (pure Flow.next : Sem Flow)) _ _ _
  refine wpAny_bind (wpAny_rule (wpAny_bind (unpackItems_tuple (items := #[u0, w0]) (I1.ok.hd hc) ht fun h' hx' => ?_)))
  have I2 : Inv X pins σ H1 { s1 with heap := h' } := I1.kept (t' := s1.toks) fun b o e => hx' b o (Nat.ne_of_lt (Heap.lt_size e)) e
  refine wpAny_bind ?_
  show wpAny _ _ (assignInOrder [bindName X.env y, bindName X.env x] [w0, u0]) _ _ _
  refine assignInOrder_cons (wpAny_bindName (store_ok I2 hN hj (.inl hy) rw' (fun s3 I3 => ?_) (.inr hy)))
  refine assignInOrder_cons (wpAny_bindName (store_ok I3 hN hi (.inl hx) ru (fun s4 I4 => ?_) (.inr hx)))
  exact assignInOrder_nil (wpAny_pure ⟨_, _, I4, hD⟩)
end RG

end

section
set_option Elab.async false
set_option linter.all false
set_option maxRecDepth 100000
set_option maxHeartbeats 4000000
namespace RG
open PySem PySem.Spec PyProof.Rows L2 Evl
/-! ## sorted(e, key=lambda x: (len(x), x)) -/
section
variable {P : Program} {w : World} {mg : Str → Option Value} {base : Heap}
theorem key_lam {K : PySem.W.Frag} {f c' : Addr} {qual x : Str} {params : Arguments} {scope : Scope} {pm ctv : Value} {p1 p2 p3 p4 p5 : Pos} {k : Nat} (M : Mod K mg base) (hm : mg "len" = none)
    (hbind : ∀ (v : Value), bindArgs (PySem.W.kla_fn "<lambda>" qual params (keyExpr x p1 p2 p3 p4 p5 k) scope [] pm (.ref c') ctv) ⟨[v], []⟩ = pure [(x, v)])
    (hk : scope.kind = .function) (hco : scope.isCoroutine = false) (hgen : scope.isGenerator = false) (hx : scope.names.lookup x = some .local) (hl : scope.names.lookup ("len" : Str) = some .globalImplicit) (hd : (x == ("__debug__" : Str)) = false)
    {A : Around} (hr : A.depth < recursionLimit) {s : Shared} (kb : ∀ b o, base.get? b = some o → s.heap.get? b = some o) (ho : s.heap.get? f = some (PySem.W.kla_obj "<lambda>" qual params (keyExpr x p1 p2 p3 p4 p5 k) scope [] pm c' ctv)) (hcd : s.heap.CodeRec (.ref c') qual) : KeyFn P w A s (.ref f) := by
  intro l t hlen h tk hk'
  have kb' : ∀ b o, base.get? b = some o → h.get? b = some o := fun b o e => hk' b o (kb b o e)
  have lim : h.NoLimit := M.nolimit.keeps kb'
  have hcd' : h.CodeRec (.ref c') qual := by
    obtain ⟨c, oc, vs, tq, hc, hoc, hdc, hq⟩ := hcd
    exact ⟨c, oc, vs, tq, hc, hk' _ _ hoc, hdc, hq⟩
  refine wpAny_call (PySem.W.kla_callFunE hr (hk' _ _ ho) rfl hco hgen rfl hcd' ?_)
  rw [hbind]
  refine wpAny_pure ?_
  refine wpAny_newFunctionEnv_cells hk (fun y hy => ?_) fun env he s1 xx => ?_
  · have e : y = (x, Value.str (S l) t) := by simpa using hy
    subst e
    exact .inl hx
  subst he
  obtain ⟨h1, t1, e1, k1⟩ := xx.done
  refine ⟨lim.keeps xx.toInCall.keep, PySem.W.kla_codeExpr ?_⟩
  have kl : (newEnv scope h.objs.size mainGlobals (cellsFrom (h.objs.size + 1) scope.names []) (qual ++ ".<locals>.") (some f) (.ref c') none builtinsNs).kindOf x = some .local := hx
  refine thn (key_eval (s := s1) (z := S l) (t := t) (by rw [S_len]; exact small_line (by omega)) (fun s2 p Q E g q => ?_) fun s2 p Q E g q => ?_) fun v s2 q => ?_
  · obtain ⟨h2, t2, rfl, k2⟩ := g
    rw [eval_Name _ _ _ hd]
    refine wpAny_bind (wpAny_standAt (wpAny_loadName_local hk kl (xx.toInCall.ns.keeps k2) ?_ q))
    exact bindL_get (P := [x]) (vs := [.str (S l) t]) (i := 0) (by simp) rfl rfl kl
  · obtain ⟨h2, t2, rfl, k2⟩ := g
    exact ld_len M hm hk hl rfl rfl (fun b o e => k2 b o (xx.toInCall.keep b o (kb' b o e))) q
  · obtain ⟨h2, t2, rfl, k2, rd⟩ := q
    rw [S_len] at rd
    refine ⟨h2, t2, ?_, fun b o e => k2 b o (xx.toInCall.keep b o e), rd⟩
    rw [e1]
end
theorem w_sortedLam {X : Cx} {σ : L2.St} {H : Hp} {Q : VK} {e : Expr} {p lpos kp pos p1 p2 p3 p4 p5 : Pos} {n k : Nat} {T : List (Addr × Str)} {c Pt : Addr} {x : Str} {params : Arguments} {scope : Scope} (hr : Room (k + 2) X.A) (hm : X.mg "sorted" = none) (hlen : X.mg "len" = none)
    (TB : LamX.TabB X.base X.mg c Pt) (hcode : X.env.code = .ref c) (hmT : (Pt, X.env.qual ++ "<lambda>") ∈ T) (hu : ∀ p ∈ T, p.1 = Pt → p.2 = X.env.qual ++ "<lambda>") (hdef : defaultsOf params X.env = ([], [])) (hcl : cloFrom X.env.cells scope.names [] = []) (hfree : ∀ y ∈ scope.names, y.2 = .free → ∃ c, X.env.cells.lookup y.1 = some c)
    (hbind : ∀ (qual : Str) (pm cv ctv v : Value), bindArgs (PySem.W.kla_fn "<lambda>" qual params (keyExpr x p1 p2 p3 p4 p5 n) scope [] pm cv ctv) ⟨[v], []⟩ = pure [(x, v)])
    (hk : scope.kind = .function) (hco : scope.isCoroutine = false) (hgen : scope.isGenerator = false) (hx : scope.names.lookup x = some .local) (hl : scope.names.lookup ("len" : Str) = some .globalImplicit)
    (q : wE X e σ H fun v H1 => LamX.Tabs T H1 ∧ ∃ a l, v = .ref a ∧ SqL X.K H1 a (l.map VS) ∧ l.length ≤ 1000 ∧ (∀ x ∈ l, x.length ≤ 1000) ∧ ∃ xs, H1 a = some (.lst xs) ∧ ∀ p H2, LamX.ExtN H1 H2 → LamX.Tabs T H2 → H2 p = none → Q (.ref p) (upd H2 p (.lst ((isort leSz l).map VS))))
    (hd : (x == ("__debug__" : Str)) = false := by decide)
    (hg : Gl X "sorted" := by rfl)
    (hs1 : starEach [e] X.env = (false, eval e X.env) :: starEach [] X.env := by rfl) (he : backTo pos (starEach [e] X.env) = (false, eval e X.env) :: backTo pos (starEach [] X.env) := by rfl) (hpl : (backTo pos (starEach [e] X.env)).any (·.1) = false := by rfl)
    (hall : (backToKw pos (keywordEach [⟨some "key", .Lambda params (keyExpr x p1 p2 p3 p4 p5 n) scope lpos, kp⟩] X.env)).all (·.1.isSome) = true := by rfl) (hnone : (backToKw pos (keywordEach [⟨some "key", .Lambda params (keyExpr x p1 p2 p3 p4 p5 n) scope lpos, kp⟩] X.env)).any (·.1.isNone) = false := by rfl)
    (hks : (backToKw pos (keywordEach [⟨some "key", .Lambda params (keyExpr x p1 p2 p3 p4 p5 n) scope lpos, kp⟩] X.env)).filterMap (·.1) = [Str.ofString "key"] := by rfl) :
    wE X (.Call (.Name "sorted" p) [e] [⟨some "key", .Lambda params (keyExpr x p1 p2 p3 p4 p5 n) scope lpos, kp⟩] pos) σ H Q := by
  refine ⟨fun σ H Q => wE X e σ H fun v H1 => LamX.Tabs T H1 ∧ ∃ a l, v = .ref a ∧ SqL X.K H1 a (l.map VS) ∧ l.length ≤ 1000 ∧ (∀ x ∈ l, x.length ≤ 1000) ∧ ∃ xs, H1 a = some (.lst xs) ∧ ∀ p H2, LamX.ExtN H1 H2 → LamX.Tabs T H2 → H2 p = none → Q (.ref p) (upd H2 p (.lst ((isort leSz l).map VS))), ⟨fun pins s σ H Q I h => ?_⟩, q⟩
  refine wpAny_Call_Name_kw (ld_blt I hg hm (show bootBuiltins "sorted" = some (.builtin "sorted") by decide +kernel) ?_ (by decide) (by decide))
  refine PyProof.Rows.callWith_kw (thn ((pa_cons pe_w pa_nil hs1 : PA X [e] _).run pos pins s σ H (fun vs H1 => LamX.Tabs T H1 ∧ ∃ a l, vs = [.ref a] ∧ SqL X.K H1 a (l.map VS) ∧ l.length ≤ 1000 ∧ (∀ x ∈ l, x.length ≤ 1000) ∧ ∃ xs, H1 a = some (.lst xs) ∧ ∀ p H2, LamX.ExtN H1 H2 → LamX.Tabs T H2 → H2 p = none → Q (.ref p) (upd H2 p (.lst ((isort leSz l).map VS)))) I
    (wE_mono h fun v H1 ⟨hT, a, l, ev, z⟩ => ⟨hT, a, l, by rw [ev], z⟩)) fun us s1 ⟨vs, H1, I1, r1, q1⟩ => ?_) he hpl hall hnone
  obtain ⟨hT, a, l, ev, hs, hll, hxl, xs, ha, qq⟩ := q1
  rw [hks]
  show wpAny _ _ (evalAll ((do let v ← eval (.Lambda params (keyExpr x p1 p2 p3 p4 p5 n) scope lpos) X.env; standAt pos; pure v) :: [])) _ _ s1
  refine wpAny_evalAll_cons (wpAny_bind (LamX.lam_make2 I1 TB hcode hmT hu hT hdef hfree fun f c' pm ctv H2 s2 I2 ex2 hT2 hf hfn hfs hc' => wpAny_bind (wpAny_standAt (wpAny_pure (wpAny_pure ?_)))))
  obtain ⟨u, rfl, ru⟩ := L2.vals1 (x := V.ref a) (ev ▸ r1)
  obtain rfl : u = .ref a := ru
  have hr2 : Room k X.A.in1.in1 := (hr.in1).in1
  have hs2 : SqL X.K H2 a (l.map VS) := by
    have e1 := I1.list_inj hs (SqL.of ha)
    rw [e1]
    exact SqL.of (ex2 _ _ ha (fun ps z => by cases z))
  rw [hcl] at hf
  have hcd : s2.heap.CodeRec (.ref c') (X.env.qual ++ "<lambda>") := by
    obtain ⟨⟨oc, vs, t, e1, e2, e3⟩, _⟩ := I2.hok c' _ hc'
    exact ⟨c', oc, vs, t, rfl, e1, e2, e3⟩
  exact sorted_core I2 hs2 hll hxl (by have := hr.units; omega) (key_lam I2.ok.mod hlen (fun v => hbind _ _ _ _ v) hk hco hgen hx hl hd hr2.depth I2.bk hf hcd) fun p hp => qq p H2 ex2 hT2 hp
/-! ## _law_sets -/
/-- a def whose code object is known -/
def FunC (K : PySem.W.Frag) (x : Str) (st : Stmt) (f : Addr) (fd : FuncData) (c : Addr) : Prop := ∃ (oc : Value) (od : Option Addr) (kV doc pm : Value) (an : Option Addr) (ct : Value) (osl : Array (Option Value)),
  fd = PySem.W.fnOf x x (defArgs st) (defBody st) (defScope st) .none kV doc pm an (.ref c) ct ∧ K.lookup f = some ⟨oc, od, .func fd, osl⟩ ∧ PySem.W.codeIn K (.ref c) x = true
section
variable {P : Program} {w : World} {K : PySem.W.Frag} {mg : Str → Option Value} {base : Heap}
abbrev sLawSets : Stmt := top 38
abbrev lamName : Str := "_law_sets.<locals>.<lambda>"
/-- all but the tables stays -/
abbrev ExN := LamX.ExtN
theorem ExN.of {H H' : Hp} (e : Ex H H') : ExN H H' := fun b o h _ => e b o h
/-- nothing but a table may stand there -/
def FreshN (H : Hp) (p : Addr) : Prop := ∀ o, H p = some o → ∃ ps, o = .tbl ps
theorem FreshN.of {H : Hp} {p : Addr} (h : H p = none) : FreshN H p := fun o e => by rw [h] at e; cases e
theorem FreshN.back {H H2 : Hp} {p : Addr} (e : ExN H H2) (h : FreshN H2 p) : FreshN H p := fun o ho => Classical.byContradiction fun n => by
  have n' : ∀ ps, o ≠ .tbl ps := fun ps z => n ⟨ps, z⟩
  obtain ⟨ps, z⟩ := h o (e p o ho n')
  exact n' ps z
def spLawSets (Pt : Addr) : Sp := fun vs H Q _ => ∃ L : Wd, vs = [VS L] ∧ L.length ≤ 4 ∧ LamX.Tabs [(Pt, lamName)] H ∧ ∀ p H', FreshN H p → ExN H H' → LamX.Tabs [(Pt, lamName)] H' → H' p = some (.lst ((setsOf L).map VS)) → Q (.ref p) H'
abbrev nLawSets : List Str := ["_law_lamps_here", "_law_found", "_law_lamp", "_law_lit"]
theorem scLawSets : FnScope nLawSets ["_law_lamps_here"] (defScope sLawSets) := ⟨rfl, rfl, rfl, by decide +kernel, rfl, by decide +kernel, by decide +kernel⟩
theorem ok_law_sets {f c Pt : Addr} {fd : FuncData} (F : FunC K "_law_sets" sLawSets f fd c) (B : Bt mg) (TB : LamX.TabB base mg c Pt) : FnOk P w K mg base CX0 4 f fd ["_law_lamps_here"] (spLawSets Pt) := by
  obtain ⟨oc, od, kV, doc, pm, an, ct, osl, rfl, lk, hcd⟩ := F
  refine fn_of lk hcd scLawSets (fun vs H Q E h => ?_) fun A outer s H vs Q E hr h => ?_
  · obtain ⟨L, rfl, _⟩ := h
    rfl
  obtain ⟨L, rfl, hl, hT, k⟩ := h
  suffices z : wB (cxOf CX0 P w K mg base nLawSets "_law_sets" (defScope sLawSets) f (.ref c) A outer s H E).nox (defBody sLawSets) { nx := fun _ H' => Q .non H', rt := Q } (L2.start nLawSets [VS L]) H by
    obtain ⟨t, ht, hq⟩ := z
    exact ⟨t, ht.nox, hq⟩
  refine b_cons (s_set 1 scLawSets.nd (w_lst (a_cons (w_str (a_nil ⟨by show 1 ≤ sizeLine; decide, fun p0 hp0 => ?_⟩)))))
  have ex0 : Ex H (upd H p0 (.lst [.str ""])) := Ex.new hp0
  refine b_cons (s_forS 2 scLawSets.nd (w_var 0 rfl ⟨L, rfl, fun i σ' H' => ∃ p v, σ' = [some (VS L), some (.ref p), v, none] ∧ Ex H H' ∧ H p = none ∧ H' p = some (.lst ((rawSets (L.take i)).map VS)), ⟨p0, none, rfl, ex0, hp0, ?_⟩, ?_, ?_⟩))
  · rw [upd_same]
    rfl
  · rintro i c σ' H1 hi ⟨p, v, rfl, ex, hp, hL⟩
    have hi4 : i < L.length := (List.getElem?_eq_some_iff.mp hi).1
    have hsz : (rawSets (L.take i)).length ≤ 16 := by
      unfold rawSets
      rw [len_rawFrom, List.length_take]
      have : 2 ^ (min i L.length) ≤ 2 ^ 4 := Nat.pow_le_pow_right (by decide) (by omega)
      simpa using this
    have hlen : ∀ q ∈ rawSets (L.take i), q.length ≤ 4 := fun q hq => by
      have := mem_len hq
      rw [List.length_take] at this
      omega
    refine b_one (s_set 1 scLawSets.nd (w_op op_cat (w_var 1 rfl (w_lcL 3 scLawSets.nd (blkOk_by (N := nLawSets) (sc := defScope sLawSets) (by decide +kernel)) (w_var 1 rfl ⟨p, _, rfl, SqL.of hL, ?_⟩)))))
    refine lcMap (rawSets (L.take i)) VS (fun q => VS (q ++ [c])) (small_lt (by omega)) (fun q hq H2 ex2 R kk => ?_) (fun p2 H2 hp2 ex2 e2 => ?_)
    · intro s0 H0 C cl fp
      refine w_add_str (w_var 3 rfl (w_var 2 rfl ⟨q, [c], rfl, rfl, ?_, kk _ (Ex.refl _)⟩))
      have := hlen q hq
      simp only [List.length_cons, List.length_nil]
      omega
    · refine ⟨p, p2, _, _, rfl, rfl, ex2 _ _ hL, e2, ?_, fun p3 hp3 => ⟨p3, _, rfl, ex.trans (ex2.trans (Ex.new hp3)), fresh_back (ex.trans ex2) hp3, ?_⟩⟩
      · rw [List.length_map, List.length_map]
        exact small_line (by omega)
      · rw [upd_same, List.take_add_one, hi]
        unfold rawSets
        rw [show (some c).toList = [c] from rfl, rawFrom_snoc, List.map_append, List.map_map]
        rfl
  · rintro σ' H1 ⟨p, v, rfl, ex, hp, hL⟩
    rw [List.take_length] at hL
    refine b_one (s_ret (w_sortedLam (k := 1) (T := [(Pt, lamName)]) (c := c) (Pt := Pt) hr B.sorted B.len TB rfl (List.mem_singleton.mpr rfl) (fun q hq _ => by rw [List.mem_singleton.mp hq]; rfl) rfl rfl (fun y hy e => ?_) (fun _ _ _ _ _ => rfl) rfl rfl rfl rfl rfl (w_var 1 rfl ⟨fun q hq => ?_, p, rawSets L, rfl, SqL.of hL, ?_, fun x hx => ?_, _, hL, fun q H2 ex2 hT2 hq => ?_⟩)))
    · simp at hy
      rcases hy with rfl | rfl <;> cases e
    · exact (hT q hq).ext ex
    · unfold rawSets
      rw [len_rawFrom]
      have : 2 ^ L.length ≤ 2 ^ 4 := Nat.pow_le_pow_right (by decide) hl
      simp only [List.length_singleton, Nat.one_mul]
      omega
    · have := mem_len hx
      omega
    · have nq : FreshN H q := (FreshN.of hq).back ((ExN.of ex).trans ex2)
      exact k q _ nq (fun b o h n => by
        have e1 := ex2 b o (ex b o h) n
        rw [upd_ne (fun z => by rw [z, hq] at e1; cases e1)]
        exact e1) (fun r hr' => (hT2 r hr').ext (Ex.new hq)) upd_same
end
end RG

end

section
set_option Elab.async false
set_option linter.all false
set_option maxRecDepth 100000
set_option maxHeartbeats 4000000
namespace RG
open PySem L2 Evl
theorem s_setLcT {X : Cx} {σ : L2.St} {H : Hp} {D : Ends} {elt iter : Expr} {ifs : List Expr} {scope : Scope} {pos spos px py : Pos} {x y : Str} (i j : Nat) (hN : X.N.Nodup) (hy : X.N[i]? = some y) (hyl : X.env.scope.names.lookup y = some .local)
    (hsw : swapsWith (.ListComp elt [⟨.Name x px, iter, ifs, 0⟩] scope pos) (some (.Name y py)) spos.line X.env = pure true) (ok : BlkOk X.N X.env.scope scope [(x, j)])
    (q : wE X iter σ H fun v H1 => ∃ a xs, v = .ref a ∧ SqT X.K H1 a xs ∧ LcF X scope ifs elt j σ H1 (fun v H2 => D.nx (σ.set i (some v)) H2) xs)
    (hx : scope.names.lookup x = some .local ∨ scope.names.lookup x = some .cell := by first | exact Or.inl rfl | exact Or.inr rfl) (hc : X.calm = true := by rfl) (h1 : ifs.length ≤ 1 := by decide) (hs : ∀ x, foldedSetIterable iter X.env x = pure x := by intro _; rfl) :
    wS X (.Assign [.Name y py] (.ListComp elt [⟨.Name x px, iter, ifs, 0⟩] scope pos) spos) D σ H := by
  have core : ∀ tt : TT, (∀ (s : Shared) (H : Hp) (C : Addr) (cl : List (Str × Addr)) (fp : List Addr), PTs (X.blk s H scope (compEnvC scope cl C X.env) fp) ifs tt) →
      (∀ (σ2 : L2.St) (H2 : Hp) (R R' : Option V → Hp → Prop), bBody X scope ifs elt σ2 H2 R → (∀ r H3, R r H3 → R' r H3) → tt σ2 H2 fun k H3 => if k = true then bE X scope elt σ2 H3 fun y H4 => R' (some y) H4 else R' none H3) →
      wS X (.Assign [.Name y py] (.ListComp elt [⟨.Name x px, iter, ifs, 0⟩] scope pos) spos) D σ H := by
    intro tt ht hb
    refine ⟨_, ps_setLc hc hN hy hyl hsw (pi_tup pe_w) ok (pg_own hN ok hx) ht (fun s H C cl fp => pe_b s H C cl fp) hs, wE_mono q ?_⟩
    rintro v H1 ⟨a, xs, ev, hq, h⟩
    exact ⟨a, ev, ⟨xs, hq⟩, lc_read walk_tup gm_name (lcF_ask (fun H' ex => ex_t ex hq) h) hb⟩
  match ifs, h1 with
  | [], _ =>
    refine core tYes (fun _ _ _ _ _ => pts_nil) fun σ2 H2 R R' hb k => ?_
    change (if true = true then bE X scope elt σ2 H2 (fun y H4 => R' (some y) H4) else R' none H2)
    rw [if_pos rfl]
    exact bE_mono hb fun v H' z => k _ _ z
  | [c], _ =>
    refine core (bT X scope c) (fun s H C cl fp => pts_one (pt_b s H C cl fp)) fun σ2 H2 R R' hb k => ?_
    refine bT_mono hb fun b H3 z => ?_
    cases b with
    | true =>
      rw [if_pos rfl] at z ⊢
      exact bE_mono z fun v H' z => k _ _ z
    | false =>
      rw [if_neg Bool.false_ne_true] at z ⊢
      exact k _ _ z

section
variable {P : Program} {w : World} {K : PySem.W.Frag} {mg : Str → Option Value} {base : Heap}
abbrev sLawHolds : Stmt := top 43
abbrev nLawHolds : List Str := ["_law_sentence_here", "_law_lit", "_law_word", "_law_lamp", "_law_told", "_law_part"]
theorem scLawHolds : FnScope nLawHolds ["_law_sentence_here", "_law_lit"] (defScope sLawHolds) := ⟨rfl, rfl, rfl, by decide +kernel, rfl, by decide +kernel, by decide +kernel⟩
theorem law_holds_step {f : Addr} {fd : FuncData} (F : Fun K "_law_holds" "_law_holds" sLawHolds f fd) (B : Bt mg) (n : Nat) (G : ∀ m, n = m + 1 → Gv P w K mg base "_law_holds" (m + 1) f fd ["_law_sentence_here", "_law_lit"] (spHolds m)) :
    FnOk P w K mg base CX0 (n + 1) f fd ["_law_sentence_here", "_law_lit"] (spHolds n) := by
  refine F.ok scLawHolds (fun vs H Q E h => ?_) (fun cdv A outer s H vs Q E hr h => ?_)
  · obtain ⟨L, v, g, k, z, rfl, _⟩ := h
    rfl
  obtain ⟨L, v, g, k, z, rfl, hS, hL, hz, hq⟩ := h
  obtain ⟨a, wd, rest, rfl, ha, hlen⟩ := hS.head
  have hsq : SqT K H a (.str wd :: rest) := SqT.of ha
  refine b_cons (s_set 2 scLawHolds.nd (w_ix0 (w_var 0 rfl ⟨a, _, _, rfl, hsq, ?_⟩)))
  have leaf : SenLeaf L H a g → wB (cxOf CX0 P w K mg base nLawHolds "_law_holds" (defScope sLawHolds) f cdv A outer s H E).nox ((defBody sLawHolds).drop 1) { nx := fun x H' => Q V.non H', rt := Q }
      [some (.ref a), some (VS z), some (.str wd), none, none, none] H := by
    intro hleaf
    rcases hleaf with ⟨c, h1, h2, h3⟩ | ⟨i, st, h1, h2, h3, h4, h5⟩ | ⟨ss, h1, h2, h3, h4⟩
    · rw [ha] at h2
      obtain ⟨rfl, rfl⟩ : wd = "lit" ∧ rest = [VS [c]] := by
        have e := HO.tup.inj (Option.some.inj h2)
        exact ⟨V.str.inj (List.cons.inj e).1, (List.cons.inj e).2⟩
      refine b_cons (s_if (t_eqw (w_var 2 rfl ⟨_, rfl, ite_yes (by decide +kernel) ?_⟩)))
      refine b_one (s_ret (w_in_sign (w_ix1 (w_var 0 rfl ⟨a, _, _, _, rfl, hsq, ?_⟩))))
      refine w_var 1 rfl ⟨c, z, rfl, rfl, ?_⟩
      rw [← h3]
      exact hq _ (Ex.refl _)
    · rw [ha] at h4
      obtain ⟨rfl, rfl⟩ : wd = "least" ∧ rest = [V.int i, VS st] := by
        have e := HO.tup.inj (Option.some.inj h4)
        exact ⟨V.str.inj (List.cons.inj e).1, (List.cons.inj e).2⟩
      refine b_cons (s_if (t_eqw (w_var 2 rfl ⟨_, rfl, ite_no (by decide +kernel) (b_nil ?_)⟩)))
      refine b_cons (s_if (t_eqw (w_var 2 rfl ⟨_, rfl, ite_yes (by decide +kernel) ?_⟩)))
      have hst : st.length ≤ 4 := Nat.le_trans (mem_setsOf.mp h3).length_le hL
      refine b_one (s_ret (w_cmp op_ge (w_len B.len (w_lcS 3 scLawHolds.nd (blkOk_by (N := nLawHolds) (sc := defScope sLawHolds) (by decide +kernel)) (w_ix2 (w_var 0 rfl ⟨a, _, _, _, _, rfl, hsq, S st, rfl, ?_⟩)))) (nomark _)))
      rw [signs_S]
      refine lcFil st (fun c => VS [c]) (fun c => z.contains c) (small_lt (by omega)) (fun c hc H' ex R kk => ?_) (fun c H' R q s0 H0 C cl fp => w_var 3 rfl q) (fun p2 H' hp2 ex e => ?_)
      · intro s0 H0 C cl fp
        exact t_in_sign (w_var 3 rfl (w_var 1 rfl ⟨c, z, rfl, rfl, kk _ (Ex.refl _)⟩))
      · refine ⟨p2, _, rfl, .inl (SqL.of e), ?_⟩
        refine w_ix1 (w_var 0 rfl ⟨a, _, _, _, rfl, ex_t ex hsq, _, _, rfl, rfl, ?_⟩)
        rw [List.length_map]
        have := hq H' ex
        rw [h5] at this
        exact this
    · rw [ha] at h3
      obtain ⟨rfl, rfl⟩ : wd = "sets" ∧ rest = ss.map VS := by
        have e := HO.tup.inj (Option.some.inj h3)
        exact ⟨V.str.inj (List.cons.inj e).1, (List.cons.inj e).2⟩
      refine b_cons (s_if (t_eqw (w_var 2 rfl ⟨_, rfl, ite_no (by decide +kernel) (b_nil ?_)⟩)))
      refine b_cons (s_if (t_eqw (w_var 2 rfl ⟨_, rfl, ite_no (by decide +kernel) (b_nil ?_)⟩)))
      refine b_cons (s_if (t_eqw (w_var 2 rfl ⟨_, rfl, ite_yes (by decide +kernel) ?_⟩)))
      refine b_one (s_ret (w_cmp op_in_seq (w_var 1 rfl (w_sliceT1 (w_var 0 rfl ⟨a, _, _, rfl, hsq, fun p hp => ⟨p, _, rfl, .inr (SqT.of upd_same), rfl, flat_words ss, ?_⟩⟩)))))
      rw [if_neg Bool.false_ne_true, inV_words, ← h4]
      exact hq _ (Ex.new hp)
  have told : ∀ (m : Nat) (G1 : Gv P w K mg base "_law_holds" (m + 1) f fd ["_law_sentence_here", "_law_lit"] (spHolds m)) (ps : List (V × (Wd → Bool) × Nat)), n = m + 1 → rest = ps.map (·.1) → ps.length ≤ 4 → (∀ q ∈ ps, SenAt L H m q.1 q.2.1 q.2.2) → ∀ D : Ends,
      (∀ p2 H', Ex H H' → H' p2 = some (.lst (ps.map fun q => V.bl (q.2.1 z))) → D.nx [some (.ref a), some (VS z), some (.str wd), none, some (.ref p2), none] H') →
      wS (cxOf CX0 P w K mg base nLawHolds "_law_holds" (defScope sLawHolds) f cdv A outer s H E).nox ((defBody sLawHolds).getD 4 (.Pass ⟨0, 0, 0, 0⟩)) D [some (.ref a), some (VS z), some (.str wd), none, none, none] H := by
    intro m G1 ps hn hps h4 hsen D kk
    subst hn hps
    refine s_setLcT 4 5 scLawHolds.nd rfl rfl (sw_true rfl rfl rfl (by decide +kernel)) (blkOk_by (N := nLawHolds) (sc := defScope sLawHolds) (by decide +kernel)) (w_sliceT1 (w_var 0 rfl ⟨a, _, _, rfl, hsq, fun p hp => ⟨p, _, rfl, SqT.of upd_same, ?_⟩⟩))
    have ex0 : Ex H (upd H p (.tup (ps.map (·.1)))) := Ex.new hp
    refine lcMap ps (·.1) (fun q => V.bl (q.2.1 z)) (small_lt (by omega)) (fun q hm H' ex R kk => ?_) (fun p2 H' hp2 ex e2 => kk p2 H' (ex0.trans ex) e2)
    intro s0 H0 C cl fp
    exact w_call G1 hr (Nat.le_refl _) (a_cons (w_var 5 rfl (a_cons (w_var 1 rfl (a_nil ⟨L, q.1, q.2.1, q.2.2, z, rfl, (hsen q hm).mono (ex0.trans ex), hL, hz, kk⟩)))))
  cases n with
  | zero =>
    obtain ⟨a', ev, hleaf, hk⟩ := hS
    cases ev
    exact leaf hleaf
  | succ m =>
    obtain ⟨a', ev, hS⟩ := hS
    cases ev
    rcases hS with ⟨hleaf, hk⟩ | ⟨w1, g1, j, h1, h2, h3, h4⟩ | ⟨b, ps, h1, h2, h3, h4, h5, h6⟩
    · exact leaf hleaf
    · rw [ha] at h1
      obtain ⟨rfl, rfl⟩ : wd = "not" ∧ rest = [w1] := by
        have e := HO.tup.inj (Option.some.inj h1)
        exact ⟨V.str.inj (List.cons.inj e).1, (List.cons.inj e).2⟩
      refine b_cons (s_if (t_eqw (w_var 2 rfl ⟨_, rfl, ite_no (by decide +kernel) (b_nil ?_)⟩)))
      refine b_cons (s_if (t_eqw (w_var 2 rfl ⟨_, rfl, ite_no (by decide +kernel) (b_nil ?_)⟩)))
      refine b_cons (s_if (t_eqw (w_var 2 rfl ⟨_, rfl, ite_no (by decide +kernel) (b_nil ?_)⟩)))
      obtain ⟨G1⟩ : Nonempty (Gv P w K mg base "_law_holds" (m + 1) f fd ["_law_sentence_here", "_law_lit"] (spHolds m)) := ⟨G m rfl⟩
      refine b_cons (told m G1 [(w1, g1, j)] rfl rfl (by show 1 ≤ 4; decide) (fun p hp => by rw [List.mem_singleton.mp hp]; exact h2) _ fun p2 H' ex2 e2 => ?_)
      refine b_cons (s_if (t_eqw (w_var 2 rfl ⟨_, rfl, ite_yes (by decide +kernel) ?_⟩)))
      refine b_one (s_ret (w_not (w_ix ix_list (w_var 4 rfl (w_int ⟨p2, _, 0, .bl (g1 z), rfl, rfl, SqL.of e2, at0, _, rfl, ?_⟩)))))
      rw [← h3]
      exact hq _ ex2
    · rw [ha] at h1
      obtain ⟨rfl, rfl⟩ : wd = andOr b ∧ rest = ps.map (·.1) := by
        have e := HO.tup.inj (Option.some.inj h1)
        exact ⟨V.str.inj (List.cons.inj e).1, (List.cons.inj e).2⟩
      obtain ⟨G1⟩ : Nonempty (Gv P w K mg base "_law_holds" (m + 1) f fd ["_law_sentence_here", "_law_lit"] (spHolds m)) := ⟨G m rfl⟩
      refine b_cons (s_if (t_eqw (w_var 2 rfl ⟨_, rfl, ite_no (by cases b <;> decide +kernel) (b_nil ?_)⟩)))
      refine b_cons (s_if (t_eqw (w_var 2 rfl ⟨_, rfl, ite_no (by cases b <;> decide +kernel) (b_nil ?_)⟩)))
      refine b_cons (s_if (t_eqw (w_var 2 rfl ⟨_, rfl, ite_no (by cases b <;> decide +kernel) (b_nil ?_)⟩)))
      refine b_cons (told m G1 ps rfl rfl h3 h4 _ fun p2 H' ex2 e2 => ?_)
      refine b_cons (s_if (t_eqw (w_var 2 rfl ⟨_, rfl, ite_no (by cases b <;> decide +kernel) (b_nil ?_)⟩)))
      have kk := hq _ ex2
      rw [h5] at kk
      refine b_one (s_ret (w_if (t_eqw (w_var 2 rfl ⟨_, rfl, ?_⟩))))
      cases b with
      | true =>
        refine ite_yes (by decide +kernel) (w_all rfl B.all (w_var 4 rfl ⟨p2, ps.map fun q => q.2.1 z, rfl, SqL.of (by rw [e2, List.map_map]; rfl), ?_⟩))
        rw [if_pos rfl] at kk
        simpa [List.all_map] using kk
      | false =>
        refine ite_no (by decide +kernel) (w_any rfl B.any (w_var 4 rfl ⟨p2, ps.map fun q => q.2.1 z, rfl, SqL.of (by rw [e2, List.map_map]; rfl), ?_⟩))
        rw [if_neg Bool.false_ne_true] at kk
        simpa [List.any_map] using kk
/-! ### _law_union, _law_renamed -/
abbrev sUnion : Stmt := top 39
abbrev sRenamed : Stmt := top 45
def unionM (ss : List Wd) : Wd := abc.filter fun c => ss.any fun s => s.contains c
def spUnion : Sp := fun vs H Q _ => ∃ (a : Addr) (ss : List Wd), vs = [.ref a] ∧ H a = some (.lst (ss.map VS)) ∧ ss.length ≤ 100 ∧ ∀ H', Ex H H' → Q (VS (unionM ss)) H'
abbrev nUnion : List Str := ["_law_sets_here", "_law_letter", "_law_lit"]
theorem scUnion : FnScope nUnion ["_law_sets_here"] (defScope sUnion) := ⟨rfl, rfl, rfl, by decide +kernel, rfl, by decide +kernel, by decide +kernel⟩
abbrev scLetter : Scope := { kind := .function, names := [(".0", .local), ("_law_letter", .cell), ("any", .globalImplicit), ("_law_sets_here", .free)], isGenerator := false, isCoroutine := false }
theorem ok_union {f : Addr} {fd : FuncData} (F : Fun K "_law_union" "_law_union" sUnion f fd) (B : Bt mg) : FnOk P w K mg base CX0 1 f fd ["_law_sets_here"] spUnion := by
  refine F.ok scUnion (fun vs H Q E h => ?_) (fun cdv A outer s H vs Q E hr h => ?_)
  · obtain ⟨a, ss, rfl, _⟩ := h
    rfl
  obtain ⟨a, ss, rfl, ha, hl, hq⟩ := h
  refine b_one (s_ret (w_join (w_lcS 1 scUnion.nd (blkOk_by (N := nUnion) (sc := defScope sUnion) (by decide +kernel)) (w_str ⟨_, rfl, ?_⟩))))
  rw [letters_S, signs_S]
  refine lcFil abc (fun c => VS [c]) (fun c => ss.any fun s => s.contains c) (small_lt (by decide)) (fun c hc H' ex R kk => ?_) (fun c H' R q s0 H0 C cl fp => w_var 1 rfl q) (fun p2 H' hp2 ex e => ?_)
  · intro s0 H0 C cl fp
    refine t_val (w_any rfl B.any (w_lcL 2 scUnion.nd (blkOk_by (N := nUnion) (sc := relS scLetter (defScope sUnion)) (by decide +kernel)) (w_var 0 rfl ⟨a, _, rfl, SqL.of (ex _ _ ha), ?_⟩)))
    refine lcMap ss VS (fun s => .bl (s.contains c)) (small_lt (by omega)) (fun s hs H6 ex6 R6 kk6 => ?_) (fun p5 H5 hp5 ex5 h5 => ⟨p5, ss.map fun s => s.contains c, rfl, SqL.of (by rw [h5, List.map_map]; rfl), _, rfl, ?_⟩)
    · intro s1 H1 C1 cl1 fp1
      exact w_in_sign (w_var 1 rfl (w_var 2 rfl ⟨c, s, rfl, rfl, kk6 _ (Ex.refl _)⟩))
    · have := kk _ ex5
      simpa [List.any_map] using this
  · refine ⟨p2, unionM ss, rfl, SqL.of e, ?_, hq _ ex⟩
    have := List.length_filter_le (fun c => ss.any fun s => s.contains c) abc
    have e26 : abc.length = 26 := rfl
    unfold unionM
    omega
def spRenamed : Sp := fun vs H Q _ => ∃ (d : Addr) (kvs : List (Key × V)) (ρ : Nat → Nat) (l : Wd), vs = [.ref d, VS l] ∧ H d = some (.dK kvs) ∧ l.length ≤ 100 ∧ (∀ c ∈ l, valV kvs (kS [c]) = some (VS [ρ c])) ∧ ∀ H', Ex H H' → Q (VS (l.map ρ)) H'
abbrev nRenamed : List Str := ["_law_table", "_law_lit", "_law_lamp"]
theorem scRenamed : FnScope nRenamed ["_law_table", "_law_lit"] (defScope sRenamed) := ⟨rfl, rfl, rfl, by decide +kernel, rfl, by decide +kernel, by decide +kernel⟩
theorem ok_renamed {f : Addr} {fd : FuncData} (F : Fun K "_law_renamed" "_law_renamed" sRenamed f fd) : FnOk P w K mg base CX0 1 f fd ["_law_table", "_law_lit"] spRenamed := by
  refine F.ok scRenamed (fun vs H Q E h => ?_) (fun cdv A outer s H vs Q E hr h => ?_)
  · obtain ⟨d, kvs, ρ, l, rfl, _⟩ := h
    rfl
  obtain ⟨d, kvs, ρ, l, rfl, hd, hl, hv, hq⟩ := h
  refine b_one (s_ret (w_join (w_lcS 2 scRenamed.nd (blkOk_by (N := nRenamed) (sc := defScope sRenamed) (by decide +kernel)) (w_var 1 rfl ⟨_, rfl, ?_⟩))))
  rw [signs_S]
  refine lcMap l (fun c => VS [c]) (fun c => VS [ρ c]) (small_lt (by omega)) (fun c hc H' ex R kk => ?_) (fun p2 H' hp2 ex e => ?_)
  · intro s0 H0 C cl fp
    exact w_dget hr (w_var 0 rfl (w_var 2 rfl ⟨d, kvs, [c], _, rfl, rfl, ex _ _ hd, hv c hc, kk _ (Ex.refl _)⟩))
  · exact ⟨p2, l.map ρ, rfl, SqL.of (by rw [e, List.map_map]; rfl), by rw [List.length_map]; omega, hq _ ex⟩
end
end RG

end

section
set_option Elab.async false
set_option linter.all false
set_option maxRecDepth 100000
set_option maxHeartbeats 4000000
namespace RG
open PySem L2 Evl
def KK : Nat → Nat
  | 0 => 1
  | 1 => 4
  | _ => 17
theorem leafAt {L : Wd} {H : Hp} {a : Addr} {f : Wd → Bool} (h : SenLeaf L H a f) : ∀ n, SenAt L H n (.ref a) f 1
  | 0 => ⟨a, rfl, h, rfl⟩
  | _ + 1 => ⟨a, rfl, .inl ⟨h, rfl⟩⟩
theorem Ex1.trans {b c : Addr} {H H1 H2 : Hp} (x : Ex1 b c H H1) (y : Ex1 b c H1 H2) : Ex1 b c H H2 := ⟨x.1.trans y.1, y.2⟩
theorem Ex1.new {b c p : Addr} {H H1 : Hp} {o : HO} (x : Ex1 b c H H1) (hp : H1 p = none) : Ex1 b c H (upd H1 p o) := ⟨x.1.trans (.of (Ex.new hp)), x.2.ex (Ex.new hp)⟩
section
variable {P : Program} {w : World} {K : PySem.W.Frag} {mg : Str → Option Value} {base : Heap}
abbrev sSent : Stmt := top 42
def spSent (n : Nat) : Sp := fun vs H Q _ => ∃ (b c : Addr) (L : Wd), vs = [.ref b, VS L, .int n] ∧ BagAt H b c ∧ GoodL L ∧ ∀ v f k H', SenAt L H' n v f k → k ≤ KK n → Ex1 b c H H' → Q v H'
abbrev nSent : List Str := ["_law_bag_here", "_law_lamps_here", "_law_deep", "_law_way", "_law_word", "_law_many", "_law_k"]
theorem scSent : FnScope nSent ["_law_bag_here", "_law_lamps_here", "_law_deep"] (defScope sSent) := ⟨rfl, rfl, rfl, by decide +kernel, rfl, by decide +kernel, by decide +kernel⟩
/-- [e for k in range(n)], e changing the bag: Pv by the turn -/
theorem w_lcRange {X : Cx} {σ : L2.St} {H : Hp} {Q : VK} {elt a : Expr} {scope : Scope} {pos px p rp : Pos} {x : Str} (j : Nat) (hN : X.N.Nodup) (ok : BlkOk X.N X.env.scope scope [(x, j)]) (hm : X.mg "range" = none)
    (q : wA X [a] σ H fun vs H1 => ∃ n : Nat, vs = [.int n] ∧ n ≤ 100 ∧ ∀ D, H1 D = none → ∃ Pv : Nat → List V → Hp → Prop, Pv 0 [] (upd H1 D (.lst [])) ∧ (∀ i acc H', Pv i acc H' → H' D = some (.lst acc) ∧ acc.length ≤ i) ∧
      (∀ i acc H', i < n → Pv i acc H' → bE X scope elt (σ.set j (some (.int i))) H' fun v H2 => H2 D = some (.lst acc) ∧ Pv (i + 1) (acc ++ [v]) (upd H2 D (.lst (acc ++ [v])))) ∧ ∀ acc H', Pv n acc H' → Q (.ref D) H')
    (hx : scope.names.lookup x = some .local ∨ scope.names.lookup x = some .cell := by first | exact Or.inl rfl | exact Or.inr rfl) (hc : X.calm = true := by rfl) (hg : Gl X "range" := by rfl) (hs1 : starEach [a] X.env = [(false, eval a X.env)] := by rfl)
    (hs : ∀ x, foldedSetIterable (.Call (.Name "range" p) [a] [] rp) X.env x = pure x := by intro _; rfl) :
    wE X (.ListComp elt [⟨.Name x px, .Call (.Name "range" p) [a] [] rp, [], 0⟩] scope pos) σ H Q := by
  refine w_lc hc hN ok gm_name (by decide) (pg_own hN ok hx) (i_range1 hm (wA_mono q fun vs H1 ⟨n, ev, hn, h⟩ => ⟨n, ev, by omega, by omega, ?_⟩) hg hs1) hs
  refine ⟨n, _, _, (show Walk (Itr 0 ((n : Int).toNat)) n _ _ from walk_range (lo := 0) (n := n)), fun D hD => ?_⟩
  obtain ⟨Pv, h0, hG, hs', hd⟩ := h D hD
  refine ⟨Pv, h0, fun i acc H' hi p => ⟨trivial, (hG i acc H' p).1, small_lt (by have := (hG i acc H' p).2; omega)⟩, ?_, hd⟩
  rintro i v acc H' H'' hi p ⟨rfl, rfl⟩
  have w0 : wipe ((wipe σ [j]).set j (some (V.int ((0 : Int) + (i : Int))))) [j] = wipe σ [j] := by
    show (((σ.set j none).set j _).set j none) = σ.set j none
    rw [List.set_set, List.set_set]
  refine ⟨w0, ?_⟩
  have e2 : (wipe σ [j]).set j (some (V.int ((0 : Int) + (i : Int)))) = σ.set j (some (.int i)) := by
    show (σ.set j none).set j _ = _
    rw [List.set_set, Int.zero_add]
  show bBody X scope [] elt ((wipe σ [j]).set j (some (V.int ((0 : Int) + (i : Int))))) H'' _
  rw [e2]
  exact hs' i acc H'' hi p
theorem sent_step {f g1 g2 g3 : Addr} {fd gd1 gd2 gd3 : FuncData} (F : Fun K "_law_sentence" "_law_sentence" sSent f fd) (B : Bt mg) (GP : Gv P w K mg base "_law_pull" 1 g1 gd1 ["_law_bag_here", "_law_many"] spPull) (GO : Gv P w K mg base "_law_of" 2 g2 gd2 ["_law_bag_here", "_law_some"] spOf)
    (GL : Gv P w K mg base "_law_lits" 2 g3 gd3 ["_law_bag_here", "_law_lamps_here"] spLits) (n : Nat) (hn2 : n ≤ 2) (G : ∀ m, n = m + 1 → Gv P w K mg base "_law_sentence" (m + 3) f fd ["_law_bag_here", "_law_lamps_here", "_law_deep"] (spSent m)) :
    FnOk P w K mg base CX0 (n + 3) f fd ["_law_bag_here", "_law_lamps_here", "_law_deep"] (spSent n) := by
  refine F.ok (k := n + 2) scSent (fun vs H Q E h => ?_) (fun cdv A outer s H vs Q E hr h => ?_)
  · obtain ⟨b, c, L, rfl, _⟩ := h
    rfl
  obtain ⟨b, c, L, rfl, hB, gl, hq⟩ := h
  have hlen := gl.len
  have k1 : 1 ≤ KK n := by
    unfold KK
    split <;> omega
  have main : ∀ (d : Int) (H1 : Hp), 0 ≤ d → (d < 3 ∨ 0 < n) → Ex1 b c H H1 → wB (cxOf CX0 P w K mg base nSent "_law_sentence" (defScope sSent) f cdv A outer s H E).nox ((defBody sSent).drop 1) { nx := fun x H' => Q V.non H', rt := Q }
      [some (.ref b), some (VS L), some (.int n), some (.int d), none, none, none] H1 := by
    intro d H1 d0 d1 ex1
    refine b_cons (s_if (t_eqi (w_var 3 rfl ⟨d, rfl, ?_⟩)))
    by_cases hd : d = 0
    · refine ite_yes (decide_eq_true hd) (b_one (s_ret (w_tup (a_cons (w_str (a_cons (w_call GO hr (by omega) (a_cons (w_var 0 rfl (a_cons (w_var 1 rfl (a_nil ⟨b, c, VS L, rfl, ex1.2, .inl ⟨L, rfl, hlen.1, by omega, fun x hx H2 ex2 => a_nil ⟨by show 2 ≤ sizeLine; decide, fun p hp => ?_⟩⟩⟩))))))))))))
      exact hq _ _ 1 _ (leafAt (f := fun l => l.contains x) (.inl ⟨x, hx, upd_same, fun l => rfl⟩) n) k1 ((ex1.trans ex2).new hp)
    refine ite_no (decide_eq_false hd) (b_nil ?_)
    refine b_cons (s_if (t_eqi (w_var 3 rfl ⟨d, rfl, ?_⟩)))
    by_cases hd1 : d = 1
    · refine ite_yes (decide_eq_true hd1) (b_one (s_ret (w_tup (a_cons (w_str (a_cons (w_op op_add (w_int (w_call GP hr (by omega) (a_cons (w_var 0 rfl (a_cons (w_int (a_nil ⟨b, c, 4, rfl, ex1.2, by decide, by decide, fun e H2 e0 e1 ex2 => ⟨1, e, rfl, rfl, ?_⟩⟩))))))))))))))
      refine a_cons (w_call GL hr (by omega) (a_cons (w_var 0 rfl (a_cons (w_var 1 rfl (a_nil ⟨b, c, L, rfl, ex2.2, hlen.2, fun st hst H3 ex3 => a_nil ⟨by show 3 ≤ sizeLine; decide, fun p hp => ?_⟩⟩))))))
      exact hq _ _ 1 _ (leafAt (f := fun l => decide (1 + e ≤ ((st.filter fun c => l.contains c).length : Int))) (.inr (.inl ⟨1 + e, st, by omega, by omega, hst, upd_same, fun l => rfl⟩)) n) k1 (((ex1.trans ex2).trans ex3).new hp)
    refine ite_no (decide_eq_false hd1) (b_nil ?_)
    refine b_cons (s_if (t_eqi (w_var 3 rfl ⟨d, rfl, ?_⟩)))
    by_cases hd2 : d = 2
    · refine ite_yes (decide_eq_true hd2) (b_one (s_ret (w_op op_catT (w_tup (a_cons (w_str (a_nil ⟨by show 1 ≤ sizeLine; decide, fun p hp => ?_⟩)))))))
      have exp := ex1.new (o := .tup [V.str "sets"]) hp
      refine w_callTy call_tuple_of B.tuple (by decide +kernel) (a_cons (w_lcRange 6 scSent.nd (blkOk_by (N := nSent) (sc := defScope sSent) (by decide +kernel)) B.range (a_cons (w_call GP hr (by omega) (a_cons (w_var 0 rfl (a_cons (w_int (a_nil ⟨b, c, 4, rfl, exp.2, by decide, by decide, fun e H2 e0 e1 ex2 => a_nil ?_⟩)))))))))
      obtain ⟨ne, rfl⟩ : ∃ ne : Nat, e = ne := ⟨e.toNat, by omega⟩
      refine ⟨ne, rfl, by omega, fun D hD => ?_⟩
      obtain ⟨xs, hb2⟩ := ex2.2.lstAt
      obtain ⟨hcb, ys, hcc⟩ := ex2.2.cell
      have nD : D ≠ b := fun e => by rw [e, hb2] at hD; cases hD
      have nDc : D ≠ c := fun e => by rw [e, hcc] at hD; cases hD
      have hp2 : H2 p = some (.tup [V.str "sets"]) := ex2.1.tup exp.2.lstAt upd_same
      refine ⟨fun i acc H' => ∃ ss : List Wd, ss.length = i ∧ (∀ s ∈ ss, s ∈ setsOf L) ∧ acc = ss.map VS ∧ ExB b H2 H' ∧ BagAt H' b c ∧ H' D = some (.lst acc), ⟨[], rfl, fun s hs => absurd hs List.not_mem_nil, rfl, .of (Ex.new hD), ex2.2.ex (Ex.new hD), upd_same⟩, ?_, ?_, ?_⟩
      · rintro i acc H' ⟨ss, hl, _, rfl, _, _, hd⟩
        exact ⟨hd, by rw [List.length_map]; omega⟩
      · rintro i acc H' hi ⟨ss, hl, hss, rfl, eb, hB', hd⟩ s0 H0 C cl fp
        refine w_call GL hr (by omega) (a_cons (w_var 0 rfl (a_cons (w_var 1 rfl (a_nil ⟨b, c, L, rfl, hB', hlen.2, fun st hst H3 ex3 => ?_⟩)))))
        exact ⟨ex3.1 _ _ nD hd, ss ++ [st], by rw [List.length_append]; simp [hl], fun s hs => (List.mem_append.mp hs).elim (hss s) fun z => by rw [List.mem_singleton.mp z]; exact hst, by rw [List.map_append]; rfl, (eb.trans ex3.1).mut hD, ex3.2.put nD nDc, upd_same⟩
      · rintro acc H' ⟨ss, hl, hss, rfl, eb, hB', hd⟩
        refine a_nil ⟨D, _, rfl, .inl ⟨SqL.of hd, fun p2 hp2' => ?_⟩⟩
        have hp' : H' p = some (.tup [V.str "sets"]) := eb.tup ex2.2.lstAt hp2
        have exA : Ex1 b c H H' := (exp.trans ex2).trans ⟨eb, hB'⟩
        have exB := exA.new (o := .tup (ss.map VS)) hp2'
        have hpB : (upd H' p2 (.tup (ss.map VS))) p = some (.tup [V.str "sets"]) := Ex.new hp2' _ _ hp'
        have hlss : ss.length ≤ 16 := by omega
        refine ⟨p, p2, [V.str "sets"], ss.map VS, rfl, rfl, SqT.of hpB, SqT.of upd_same, by simp, by rw [List.length_map]; exact small_line (by simp only [List.length_singleton]; omega), fun hnil => ?_, fun _ p3 hp3 => ?_⟩
        · have hs0 : ss = [] := by simpa using hnil
          subst hs0
          exact hq _ _ 1 _ (leafAt (f := fun l => ([] : List Wd).contains l) (.inr (.inr ⟨[], by decide, hss, hpB, fun l => rfl⟩)) n) k1 exB
        · exact hq _ _ 1 _ (leafAt (f := fun l => ss.contains l) (.inr (.inr ⟨ss, hlss, hss, by rw [upd_same]; rfl, fun l => rfl⟩)) n) k1 (exB.new hp3)
    refine ite_no (decide_eq_false hd2) (b_nil ?_)
    obtain ⟨m, rfl⟩ : ∃ m, n = m + 1 := ⟨n - 1, by omega⟩
    have Gm := G m rfl
    have em : ((m + 1 : Nat) : Int) - 1 = (m : Int) := by omega
    refine b_cons (s_if (t_eqi (w_var 3 rfl ⟨d, rfl, ?_⟩)))
    by_cases hd3 : d = 3
    · refine ite_yes (decide_eq_true hd3) (b_one (s_ret (w_tup (a_cons (w_str (a_cons (w_call Gm hr (by omega) (a_cons (w_var 0 rfl (a_cons (w_var 1 rfl (a_cons (w_op op_sub (w_var 2 rfl (w_int ⟨_, 1, rfl, rfl, ?_⟩)))))))))))))))
      refine a_nil ⟨b, c, L, (by show [V.ref b, VS L, V.int (((m + 1 : Nat) : Int) - 1)] = _; rw [em]), ex1.2, gl, fun v g k H2 hS hk ex2 => a_nil ⟨by show 2 ≤ sizeLine; decide, fun p hp => ?_⟩⟩
      refine hq _ (fun l => !g l) (k + 1) _ ⟨p, rfl, .inr (.inl ⟨v, g, k, upd_same, hS.mono (Ex.new hp), fun l => rfl, rfl⟩)⟩ ?_ ((ex1.trans ex2).new hp)
      have : m ≤ 1 := by omega
      match m, this with
      | 0, _ => have : k ≤ 1 := hk; show k + 1 ≤ 4; omega
      | 1, _ => have : k ≤ 4 := hk; show k + 1 ≤ 17; omega
    refine ite_no (decide_eq_false hd3) (b_nil ?_)
    have e1 : ("and" : Str) = S [97, 110, 100] := by decide +kernel
    have e2 : ("or" : Str) = S [111, 114] := by decide +kernel
    refine b_cons (s_swap2 4 5 scSent.nd rfl rfl rfl rfl (w_tup (a_cons (w_call GO hr (by omega) (a_cons (w_var 0 rfl (a_cons (w_lst (a_cons (w_str (a_cons (w_str (a_nil ⟨by show 2 ≤ sizeLine; decide, fun p hp => ?_⟩)))))))))))))
    have exp := ex1.new (o := .lst [V.str "and", V.str "or"]) hp
    have npb : p ≠ b := fun e => by obtain ⟨xs, h⟩ := ex1.2.lstAt; rw [e, h] at hp; cases hp
    refine a_nil ⟨b, c, .ref p, rfl, exp.2, .inr ⟨p, [[97, 110, 100], [111, 114]], rfl, npb, by rw [upd_same, e1, e2]; rfl, by decide, by decide, fun wd hwd H2 ex2 => ?_⟩⟩
    obtain ⟨ab, hab⟩ : ∃ ab, VS wd = V.str (andOr ab) := by
      simp only [List.mem_cons, List.not_mem_nil, or_false] at hwd
      rcases hwd with rfl | rfl
      · exact ⟨true, by show V.str (S _) = V.str "and"; rw [e1]⟩
      · exact ⟨false, by show V.str (S _) = V.str "or"; rw [e2]⟩
    rw [hab]
    have after : ∀ (e : Int) (H3 : Hp), 0 ≤ e → e < (if m = 1 then 3 else 2) → Ex1 b c H2 H3 → ∀ p2, H3 p2 = none → wB (cxOf CX0 P w K mg base nSent "_law_sentence" (defScope sSent) f cdv A outer s H E).nox ((defBody sSent).drop 6) { nx := fun x H' => Q V.non H', rt := Q }
        [some (.ref b), some (VS L), some (.int (m + 1 : Nat)), some (.int d), some (.str (andOr ab)), some (.int (2 + e)), none] (upd H3 p2 (.tup [.str (andOr ab), .int (2 + e)])) := by
      intro e H3 e0 e1 ex3 p2 hp2
      have exq := ((exp.trans ex2).trans ex3).new (o := .tup [.str (andOr ab), .int (2 + e)]) hp2
      refine b_one (s_ret (w_op op_catT (w_tup (a_cons (w_var 4 rfl (a_nil ⟨by show 1 ≤ sizeLine; decide, fun p3 hp3 => ?_⟩))))))
      have exr := exq.new (o := .tup [.str (andOr ab)]) hp3
      generalize hH4 : upd (upd H3 p2 (.tup [.str (andOr ab), .int (2 + e)])) p3 (.tup [.str (andOr ab)]) = H4 at exr
      have hp34 : H4 p3 = some (.tup [.str (andOr ab)]) := by rw [← hH4, upd_same]
      obtain ⟨ne, hne⟩ : ∃ ne : Nat, 2 + e = ne := ⟨(2 + e).toNat, by omega⟩
      have hne4 : 2 ≤ ne ∧ ne ≤ 4 ∧ (m = 0 → ne ≤ 3) := by
        split at e1 <;> omega
      refine w_callTy call_tuple_of B.tuple (by decide +kernel) (a_cons (w_lcRange 6 scSent.nd (blkOk_by (N := nSent) (sc := defScope sSent) (by decide +kernel)) B.range (a_cons (w_var 5 rfl (a_nil ⟨ne, by rw [hne], by omega, fun D hD => ?_⟩)))))
      obtain ⟨xs, hb4⟩ := exr.2.lstAt
      obtain ⟨hcb, ys, hcc⟩ := exr.2.cell
      have nD : D ≠ b := fun e => by rw [e, hb4] at hD; cases hD
      have nDc : D ≠ c := fun e => by rw [e, hcc] at hD; cases hD
      refine ⟨fun i acc H' => ∃ ps : List Kid, ps.length = i ∧ (∀ q ∈ ps, SenAt L H' m q.1 q.2.1 q.2.2 ∧ q.2.2 ≤ KK m) ∧ acc = ps.map (·.1) ∧ ExB b H4 H' ∧ BagAt H' b c ∧ H' D = some (.lst acc), ⟨[], rfl, fun s hs => absurd hs List.not_mem_nil, rfl, .of (Ex.new hD), exr.2.ex (Ex.new hD), upd_same⟩, ?_, ?_, ?_⟩
      · rintro i acc H' ⟨ps, hl, _, rfl, _, _, hd⟩
        exact ⟨hd, by rw [List.length_map]; omega⟩
      · rintro i acc H' hi ⟨ps, hl, hps, rfl, eb, hB', hd⟩ s0 H0 C cl fp
        refine w_call Gm hr (by omega) (a_cons (w_var 0 rfl (a_cons (w_var 1 rfl (a_cons (w_op op_sub (w_var 2 rfl (w_int ⟨_, 1, rfl, rfl, ?_⟩))))))))
        refine a_nil ⟨b, c, L, (by show [V.ref b, VS L, V.int (((m + 1 : Nat) : Int) - 1)] = _; rw [em]), hB', gl, fun v g k H5 hS hk ex5 => ?_⟩
        have hd5 := ex5.1 _ _ nD hd
        have t5 : ∀ {x zs}, H5 x = some (.tup zs) → (upd H5 D (.lst (ps.map (·.1) ++ [v]))) x = some (.tup zs) := fun {x zs} h => by
          rw [upd_ne (fun e => by rw [e, hd5] at h; cases h)]
          exact h
        refine ⟨hd5, ps ++ [(v, g, k)], by rw [List.length_append]; simp [hl], fun q hq => ?_, by rw [List.map_append]; rfl, (eb.trans ex5.1).mut hD, ex5.2.put nD nDc, upd_same⟩
        rcases List.mem_append.mp hq with h | h
        · exact ⟨((hps q h).1.tmono (ex5.1.tup hB'.lstAt)).tmono t5, (hps q h).2⟩
        · rw [List.mem_singleton.mp h]
          exact ⟨hS.tmono t5, hk⟩
      · rintro acc H' ⟨ps, hl, hps, rfl, eb, hB', hd⟩
        refine a_nil ⟨D, _, rfl, .inl ⟨SqL.of hd, fun p5 hp5 => ?_⟩⟩
        have hp' : H' p3 = some (.tup [.str (andOr ab)]) := eb.tup exr.2.lstAt hp34
        have exA : Ex1 b c H H' := exr.trans ⟨eb, hB'⟩
        have exB := exA.new (o := .tup (ps.map (·.1))) hp5
        have hpB : (upd H' p5 (.tup (ps.map (·.1)))) p3 = some (.tup [.str (andOr ab)]) := Ex.new hp5 _ _ hp'
        refine ⟨p3, p5, _, ps.map (·.1), rfl, rfl, SqT.of hpB, SqT.of upd_same, by simp, by rw [List.length_map]; exact small_line (by simp only [List.length_singleton]; omega), fun hnil => ?_, fun _ p6 hp6 => ?_⟩
        · have : ps.length = 0 := by have := congrArg List.length hnil; simpa using this
          omega
        · have hk : ∀ (qs : List Kid), (∀ q ∈ qs, q.2.2 ≤ KK m) → (qs.map (·.2.2)).sum ≤ qs.length * KK m := by
            intro qs
            induction qs with
            | nil => intro _; simp
            | cons q r ih =>
              intro h
              have h1 := ih fun x hx => h x (List.mem_cons_of_mem _ hx)
              have h2 := h q List.mem_cons_self
              simp only [List.map_cons, List.sum_cons, List.length_cons, Nat.add_mul, Nat.one_mul]
              omega
          have hk2 := hk ps fun q hq => (hps q hq).2
          have hSen : SenAt L (upd (upd H' p5 (.tup (ps.map (·.1)))) p6 (.tup ([V.str (andOr ab)] ++ ps.map (·.1)))) (m + 1) (.ref p6) (fun l => if ab = true then ps.all (fun p => p.2.1 l) else ps.any fun p => p.2.1 l) ((ps.map (·.2.2)).sum + 1) :=
            ⟨p6, rfl, .inr (.inr ⟨ab, ps, by rw [upd_same]; rfl, by omega, by omega, fun q hq => ((hps q hq).1.mono (Ex.new hp5)).mono (Ex.new hp6), fun l => rfl, rfl⟩)⟩
          refine hq _ _ _ _ hSen ?_ (exB.new hp6)
          obtain rfl | rfl : m = 0 ∨ m = 1 := by omega
          · have h1 : KK 0 = 1 := rfl
            rw [h1] at hk2
            have := hne4.2.2 rfl
            show _ ≤ 4
            omega
          · have h1 : KK 1 = 4 := rfl
            rw [h1] at hk2
            show _ ≤ 17
            omega
    refine a_cons (w_op op_add (w_int (w_call GP hr (by omega) (a_cons (w_var 0 rfl (a_cons (w_if (t_eqi (w_var 2 rfl ⟨_, rfl, ?_⟩)))))))))
    by_cases hm1 : m = 1
    · refine ite_yes (decide_eq_true (by omega)) (w_int (a_nil ⟨b, c, 3, rfl, ex2.2, by decide, by decide, fun e H3 e0 e1 ex3 => ⟨2, e, rfl, rfl, a_nil ⟨by show 2 ≤ sizeLine; decide, fun p2 hp2 => ⟨p2, _, _, rfl, SqT.of upd_same, ?_⟩⟩⟩⟩))
      exact after e H3 e0 (by rw [if_pos hm1]; exact e1) ex3 p2 hp2
    · refine ite_no (decide_eq_false (by omega)) (w_int (a_nil ⟨b, c, 2, rfl, ex2.2, by decide, by decide, fun e H3 e0 e1 ex3 => ⟨2, e, rfl, rfl, a_nil ⟨by show 2 ≤ sizeLine; decide, fun p2 hp2 => ⟨p2, _, _, rfl, SqT.of upd_same, ?_⟩⟩⟩⟩))
      exact after e H3 e0 (by rw [if_neg hm1]; exact e1) ex3 p2 hp2
  refine b_cons (s_set 3 scSent.nd (w_call GP hr (by omega) (a_cons (w_var 0 rfl (a_cons (w_if (t_cmp op_gt (w_var 2 rfl (w_int ⟨n, 0, rfl, rfl, _, rfl, ?_⟩)) (nomark _))))))))
  by_cases hn0 : 0 < n
  · refine ite_yes (decide_eq_true (by omega)) (w_int (a_nil ⟨b, c, 7, rfl, hB, by decide, by decide, fun d H1 d0 d1 ex1 => main d H1 d0 (.inr hn0) ex1⟩))
  · refine ite_no (decide_eq_false (by omega)) (w_int (a_nil ⟨b, c, 3, rfl, hB, by decide, by decide, fun d H1 d0 d1 ex1 => main d H1 d0 (.inl d1) ex1⟩))
end
end RG

end

section
set_option Elab.async false
set_option linter.all false
set_option maxRecDepth 100000
set_option maxHeartbeats 4000000
namespace RG
open PySem L2 Evl
/-- all but the bag and the tables stays -/
def ExBN (b : Addr) (H H' : Hp) : Prop := ∀ a o, a ≠ b → (∀ ps, o ≠ .tbl ps) → H a = some o → H' a = some o
theorem ExBN.ofB {b : Addr} {H H' : Hp} (h : ExB b H H') : ExBN b H H' := fun a o n _ e => h a o n e
theorem ExBN.ofN {b : Addr} {H H' : Hp} (h : ExN H H') : ExBN b H H' := fun a o _ n e => h a o e n
theorem ExBN.trans {b : Addr} {H H1 H2 : Hp} (x : ExBN b H H1) (y : ExBN b H1 H2) : ExBN b H H2 := fun a o n m e => y a o n m (x a o n m e)
theorem ExBN.lst {b a : Addr} {H H' : Hp} {xs} (x : ExBN b H H') (n : a ≠ b) (h : H a = some (.lst xs)) : H' a = some (.lst xs) := x a _ n (fun _ z => by cases z) h
theorem ExBN.tup {b a : Addr} {H H' : Hp} {xs} (x : ExBN b H H') (hb : ∃ ys, H b = some (.lst ys)) (h : H a = some (.tup xs)) : H' a = some (.tup xs) := by
  obtain ⟨ys, hb⟩ := hb
  exact x a _ (fun e => by rw [e, hb] at h; cases h) (fun _ z => by cases z) h
theorem tabs_exb {T : List (Addr × Str)} {b : Addr} {H H' : Hp} (h : ExB b H H') (hb : ∃ ys, H b = some (.lst ys)) (t : LamX.Tabs T H) : LamX.Tabs T H' := fun p hp => by
  obtain ⟨ys, hb⟩ := hb
  obtain ⟨ps, h1, h2, h3⟩ := t p hp
  refine ⟨ps, h _ _ (fun e => by rw [e, hb] at h1; cases h1) h1, h2, fun pos cv hc => ?_⟩
  obtain ⟨c, e1, e2⟩ := h3 pos cv hc
  exact ⟨c, e1, h _ _ (fun e => by rw [e, hb] at e2; cases e2) e2⟩
theorem tabs_ex {T : List (Addr × Str)} {H H' : Hp} (h : Ex H H') (t : LamX.Tabs T H) : LamX.Tabs T H' := fun p hp => (t p hp).ext h
theorem BagAt.exn {H H' : Hp} {b c : Addr} (e : ExN H H') (h : BagAt H b c) : BagAt H' b c := by
  obtain ⟨cs, pos, big, small, h1, h2, h3, h4⟩ := h
  exact ⟨cs, pos, big, small, e _ _ h1 (fun _ z => by cases z), h2, e _ _ h3 (fun _ z => by cases z), h4⟩
section
variable {P : Program} {w : World} {K : PySem.W.Frag} {mg : Str → Option Value} {base : Heap} {Pt : Addr}
abbrev sAim : Stmt := top 44
abbrev TT (Pt : Addr) : List (Addr × Str) := [(Pt, lamName)]
def spAim (Pt : Addr) : Sp := fun vs H Q _ => ∃ (b c : Addr) (L : Wd), vs = [.ref b, VS L] ∧ BagAt H b c ∧ GoodL L ∧ LamX.Tabs (TT Pt) H ∧ ∀ p q v f k H', FreshN H q → q ≠ b → H' p = some (.tup [v, .ref q]) → H' q = some (.lst (((setsOf L).filter f).map VS)) → SenAt L H' 2 v f k → k ≤ 20 → ExBN b H H' → BagAt H' b c → LamX.Tabs (TT Pt) H' → Q (.ref p) H'
abbrev nAim : List Str := ["_law_bag_here", "_law_lamps_here", "_law_sentence_here", "_law_lit"]
theorem scAim : FnScope nAim ["_law_bag_here", "_law_lamps_here"] (defScope sAim) := ⟨rfl, rfl, rfl, by decide +kernel, rfl, by decide +kernel, by decide +kernel⟩
theorem ok_aim {f g1 g2 g3 g4 : Addr} {fd gd1 gd2 gd3 gd4 : FuncData} (F : Fun K "_law_aim" "_law_aim" sAim f fd) (B : Bt mg) (GP : Gv P w K mg base "_law_pull" 1 g1 gd1 ["_law_bag_here", "_law_many"] spPull) (GS : Gv P w K mg base "_law_sets" 4 g2 gd2 ["_law_lamps_here"] (spLawSets Pt))
    (GN : Gv P w K mg base "_law_sentence" 5 g3 gd3 ["_law_bag_here", "_law_lamps_here", "_law_deep"] (spSent 2)) (GH : Gv P w K mg base "_law_holds" 3 g4 gd4 ["_law_sentence_here", "_law_lit"] (spHolds 2)) : FnOk P w K mg base CX0 6 f fd ["_law_bag_here", "_law_lamps_here"] (spAim Pt) := by
  refine F.ok scAim (fun vs H Q E h => ?_) (fun cdv A outer s H vs Q E hr h => ?_)
  · obtain ⟨b, c, L, rfl, _⟩ := h
    rfl
  obtain ⟨b, c, L, rfl, hB, gl, hT, hq⟩ := h
  have hlen := gl.len
  have hsz := len_setsOf4 hlen.2
  -- the end
  have fin : ∀ (v : V) (g : Wd → Bool) (k : Nat) (H1 : Hp), SenAt L H1 2 v g k → k ≤ 20 → ExBN b H H1 → BagAt H1 b c → LamX.Tabs (TT Pt) H1 → (∀ q, FreshN H1 q → FreshN H q) →
      wB (cxOf CX0 P w K mg base nAim "_law_aim" (defScope sAim) f cdv A outer s H E).nox ((defBody sAim).drop 1) { nx := fun x H' => Q V.non H', rt := Q } [some (.ref b), some (VS L), some v, none] H1 := by
    intro v g k H1 hS hk ex1 hB1 hT1 hfr
    obtain ⟨xs, hb1⟩ := hB1.lstAt
    refine b_one (s_ret (w_tup (a_cons (w_var 2 rfl (a_cons (w_lcL 3 scAim.nd (blkOk_by (N := nAim) (sc := defScope sAim) (by decide +kernel)) (w_call GS hr (by decide) (a_cons (w_var 1 rfl (a_nil ⟨L, rfl, hlen.2, hT1, fun p H2 hp ex2 hT2 h2 => ⟨p, _, rfl, SqL.of h2, ?_⟩⟩))))))))))
    have npb : p ≠ b := fun e => by obtain ⟨ps, z⟩ := hp _ (by rw [e]; exact hb1); cases z
    have tm : ∀ {x zs}, H1 x = some (.tup zs) → H2 x = some (.tup zs) := fun {x zs} h => ex2 _ _ h (fun _ z => by cases z)
    have hS2 := hS.tmono tm
    refine lcFil (setsOf L) VS g (small_lt (by omega)) (fun z hz H' ex R kk => ?_) (fun z H' R q s0 H0 C cl fp => w_var 3 rfl q) (fun p3 H3 hp3 ex3 h3 => ?_)
    · intro s0 H0 C cl fp
      have := mem_len4 gl hz
      exact t_val (w_call GH hr (by decide) (a_cons (w_var 2 rfl (a_cons (w_var 3 rfl (a_nil ⟨L, v, g, k, z, rfl, hS2.mono ex, hlen.2, by omega, fun H5 ex5 => ⟨_, rfl, kk _ ex5⟩⟩))))))
    · refine a_nil ⟨by show 2 ≤ sizeLine; decide, fun p4 hp4 => ?_⟩
      have exn : Ex H3 (upd H3 p4 (.tup [v, .ref p3])) := Ex.new hp4
      have ex24 := ex3.trans exn
      have n3 : p3 ≠ b := fun e => by
        have := ex2 _ _ hb1 (fun _ z => by cases z)
        rw [← e, hp3] at this
        cases this
      refine hq p4 p3 v g k _ (hfr p3 ((FreshN.of hp3).back ex2)) n3 upd_same (exn _ _ h3) (hS2.mono ex24) hk (ex1.trans ((ExBN.ofN ex2).trans (.ofN (ExN.of ex24)))) ((hB1.exn ex2).ex ex24) (tabs_ex ex24 hT2)
  refine b_cons (s_if (t_eqi (w_call GP hr (by decide) (a_cons (w_var 0 rfl (a_cons (w_int (a_nil ⟨b, c, 3, rfl, hB, by decide, by decide, fun d H1 d0 d1 ex1 => ⟨d, rfl, ?_⟩⟩))))))))
  have hT1 : LamX.Tabs (TT Pt) H1 := tabs_exb ex1.1 hB.lstAt hT
  have fr1 : ∀ q, FreshN H1 q → FreshN H q := fun q h o ho => by
    obtain ⟨xs, hb⟩ := hB.lstAt
    obtain ⟨xs1, hb1⟩ := ex1.2.lstAt
    by_cases e : q = b
    · subst e
      obtain ⟨ps, z⟩ := h _ hb1
      cases z
    · exact h o (ex1.1 _ _ e ho)
  by_cases hd : d = 0
  · refine ite_yes (decide_eq_true hd) (b_one (s_set 2 scAim.nd (w_op op_catT (w_tup (a_cons (w_str (a_nil ⟨by show 1 ≤ sizeLine; decide, fun p hp => ?_⟩)))))))
    have exp := ex1.new (o := .tup [V.str "sets"]) hp
    have hTp := tabs_ex (Ex.new (o := .tup [V.str "sets"]) hp) hT1
    refine w_callTy call_tuple_of B.tuple (by decide +kernel) (a_cons (w_lc rfl scAim.nd (blkOk_by (N := nAim) (sc := defScope sAim) (own := [("_law_lit", 3)]) (by decide +kernel)) gm_name (by decide) (pg_own (j := 3) scAim.nd (blkOk_by (N := nAim) (sc := defScope sAim) (by decide +kernel)) (.inl rfl)) (i_list (w_call GS hr (by decide) (a_cons (w_var 1 rfl (a_nil ⟨L, rfl, hlen.2, hTp, fun q H2 hq' ex2 hT2 h2 => ⟨q, _, rfl, SqL.of h2, _, _, _, walk_list (xs := (setsOf L).map VS), ?_⟩⟩)))))))
    have hp2 : H2 p = some (.tup [V.str "sets"]) := ex2 _ _ upd_same (fun _ z => by cases z)
    have hB2 := exp.2.exn ex2
    obtain ⟨xs, hb2⟩ := hB2.lstAt
    obtain ⟨hcb, ys, hcc⟩ := hB2.cell
    have nq : q ≠ b := fun e => by
      obtain ⟨xs, hbp⟩ := exp.2.lstAt
      obtain ⟨ps, z⟩ := hq' _ (by rw [e]; exact hbp)
      cases z
    intro D hD
    have nD : D ≠ b := fun e => by rw [e, hb2] at hD; cases hD
    have nDc : D ≠ c := fun e => by rw [e, hcc] at hD; cases hD
    have nDq : q ≠ D := fun e => by rw [← e, h2] at hD; cases hD
    rw [List.length_map]
    refine ⟨fun i acc H' => ∃ ss : List Wd, ss.Sublist ((setsOf L).take i) ∧ acc = ss.map VS ∧ ExB b H2 H' ∧ BagAt H' b c ∧ H' D = some (.lst acc), ⟨[], List.nil_sublist _, rfl, .of (Ex.new hD), hB2.ex (Ex.new hD), upd_same⟩, ?_, ?_, ?_⟩
    · rintro i acc H' hi ⟨ss, hs, rfl, eb, _, hd⟩
      refine ⟨SqL.of (eb _ _ nq h2), hd, ?_⟩
      rw [List.length_map]
      have := hs.length_le
      rw [List.length_take] at this
      exact small_lt (by omega)
    · rintro i x acc H' H'' hi ⟨ss, hs, rfl, eb, hB', hd⟩ ⟨rfl, hx⟩
      obtain ⟨z, hz, rfl⟩ : ∃ z, (setsOf L)[i]? = some z ∧ x = VS z := by
        rw [List.getElem?_map] at hx
        cases q : (setsOf L)[i]? with
        | none => rw [q] at hx; cases hx
        | some c => rw [q] at hx; exact ⟨c, rfl, (Option.some.inj hx).symm⟩
      refine ⟨rfl, ?_⟩
      intro s0 H0 C cl fp
      refine t_eqi (w_call GP hr (by decide) (a_cons (w_var 0 rfl (a_cons (w_int (a_nil ⟨b, c, 2, rfl, hB', by decide, by decide, fun d H3 d0 d1 ex3 => ⟨d, rfl, ?_⟩⟩))))))
      have hd3 := ex3.1 _ _ nD hd
      cases decide (d = 0) with
      | true =>
        refine iteT fun s0 H0 C cl fp => w_var 3 rfl ⟨hd3, ss ++ [z], ?_, by rw [List.map_append]; rfl, (eb.trans ex3.1).mut hD, ex3.2.put nD nDc, upd_same⟩
        rw [List.take_add_one, hz]
        exact hs.append (List.Sublist.refl _)
      | false =>
        refine iteF ⟨ss, ?_, rfl, eb.trans ex3.1, ex3.2, hd3⟩
        rw [List.take_add_one, hz]
        exact hs.trans (List.sublist_append_left _ _)
    · rintro acc H' ⟨ss, hs, rfl, eb, hB', hd⟩
      rw [List.take_length] at hs
      refine a_nil ⟨D, _, rfl, .inl ⟨SqL.of hd, fun p2 hp2' => ?_⟩⟩
      have hp' : H' p = some (.tup [V.str "sets"]) := eb.tup hB2.lstAt hp2
      have hlss : ss.length ≤ 16 := by have := hs.length_le; omega
      have hss : ∀ s ∈ ss, s ∈ setsOf L := fun s h => hs.subset h
      have ex2' : Ex H' (upd H' p2 (.tup (ss.map VS))) := Ex.new hp2'
      have exA : ExBN b H H' := (ExBN.ofB exp.1).trans ((ExBN.ofN ex2).trans (.ofB eb))
      have hT' : LamX.Tabs (TT Pt) H' := tabs_exb eb hB2.lstAt hT2
      have frA : ∀ q, FreshN H' q → FreshN H q := fun q h => by
        have h2 : FreshN H2 q := fun o ho => by
          by_cases e : q = b
          · subst e
            obtain ⟨xs', hb'⟩ := hB'.lstAt
            obtain ⟨ps, z⟩ := h _ hb'
            cases z
          · exact h o (eb _ _ e ho)
        have h1 : FreshN (upd H1 p (.tup [V.str "sets"])) q := h2.back ex2
        exact fr1 q (h1.back (ExN.of (Ex.new hp)))
      refine ⟨p, p2, [V.str "sets"], ss.map VS, rfl, rfl, SqT.of (ex2' _ _ hp'), SqT.of upd_same, by simp, by rw [List.length_map]; exact small_line (by simp only [List.length_singleton]; omega), fun hnil => ?_, fun _ p3 hp3 => ?_⟩
      · have hs0 : ss = [] := by simpa using hnil
        subst hs0
        exact fin _ (fun l => ([] : List Wd).contains l) 1 _ (leafAt (.inr (.inr ⟨[], by decide, hss, ex2' _ _ hp', fun l => rfl⟩)) 2) (by decide) (exA.trans (.ofN (ExN.of ex2'))) (hB'.ex ex2') (tabs_ex ex2' hT') fun q h => frA q (h.back (ExN.of ex2'))
      · have ex3' := ex2'.trans (Ex.new (o := .tup ([V.str "sets"] ++ ss.map VS)) hp3)
        exact fin _ (fun l => ss.contains l) 1 _ (leafAt (.inr (.inr ⟨ss, hlss, hss, by rw [upd_same]; rfl, fun l => rfl⟩)) 2) (by decide) (exA.trans (.ofN (ExN.of ex3'))) (hB'.ex ex3') (tabs_ex ex3' hT') fun q h => frA q (h.back (ExN.of ex3'))
  · refine ite_no (decide_eq_false hd) (b_one (s_set 2 scAim.nd (w_call GN hr (by decide) (a_cons (w_var 0 rfl (a_cons (w_var 1 rfl (a_cons (w_int (a_nil ⟨b, c, L, rfl, ex1.2, gl, fun v g k H2 hS hk ex2 => ?_⟩))))))))))
    refine fin v g k H2 hS (Nat.le_trans hk (by decide)) (.ofB (ex1.1.trans ex2.1)) ex2.2 (tabs_exb ex2.1 ex1.2.lstAt hT1) fun q h => fr1 q fun o ho => ?_
    by_cases e : q = b
    · subst e
      obtain ⟨xs', hb'⟩ := ex2.2.lstAt
      obtain ⟨ps, z⟩ := h _ hb'
      cases z
    · exact h o (ex2.1 _ _ e ho)
end
end RG

end

section
set_option Elab.async false
set_option linter.all false
set_option maxRecDepth 100000
set_option maxHeartbeats 4000000
namespace RG
/-! # The law in plain words -/
theorem contains_fil {L : Wd} {f : Wd → Bool} {z : Wd} (h : z ∈ setsOf L) : ((setsOf L).filter f).contains z = f z := by
  rw [Bool.eq_iff_iff, List.contains_iff_mem, List.mem_filter]
  simp [h]
/-! ## the opposite -/
def oppM (L : Wd) (O : List Wd) : List Wd := (setsOf L).filter fun z => !O.contains z
theorem opp_unlike {L : Wd} {O : List Wd} {lit : Wd} (h : lit ∈ setsOf L) : unlikeM (oppM L O) lit = unlikeM O lit := by
  refine List.filter_congr fun one ho => ?_
  have h1 : (oppM L O).contains one = !O.contains one := contains_fil (setsOf_trans ho h)
  have h2 : (oppM L O).contains lit = !O.contains lit := contains_fil h
  rw [h1, h2]
  cases O.contains one <;> cases O.contains lit <;> rfl
theorem opp_parts {L : Wd} {O : List Wd} {lit : Wd} (h : lit ∈ setsOf L) : partsM (oppM L O) lit = partsM O lit := by
  unfold partsM
  rw [opp_unlike h]
theorem opp_branches {L : Wd} {O : List Wd} : ∀ (n : Nat) (lit : Wd), lit ∈ setsOf L → branchesM (oppM L O) n lit = branchesM O n lit
  | 0, _, _ => rfl
  | n + 1, lit, h => by
    unfold branchesM
    rw [opp_parts h]
    split
    · rfl
    · have : ∀ ps : List Wd, (∀ p ∈ ps, p ∈ setsOf L) → (ps.flatMap fun p => (branchesM (oppM L O) n p).map fun r => lit :: r) = ps.flatMap fun p => (branchesM O n p).map fun r => lit :: r := by
        intro ps
        induction ps with
        | nil => intro _; rfl
        | cons a r ih =>
          intro hp
          rw [List.flatMap_cons, List.flatMap_cons, ih fun p h => hp p (List.mem_cons_of_mem _ h), opp_branches n a (hp a List.mem_cons_self)]
      exact this _ fun p hp => setsOf_trans (mem_partsM hp).1 h
theorem opp_height {L : Wd} {O : List Wd} (n : Nat) : heightM (oppM L O) n L = heightM O n L := by
  unfold heightM
  rw [opp_branches n L (self_mem_setsOf L)]
theorem opp_worth {L : Wd} {O : List Wd} (one : Bool) : ∀ (n : Nat) (lit : Wd), lit ∈ setsOf L → worthM (oppM L O) one n lit = worthM O (!one) n lit
  | 0, _, _ => rfl
  | n + 1, lit, h => by
    unfold worthM
    rw [opp_parts h]
    have e : (partsM O lit).map (worthM (oppM L O) one n) = (partsM O lit).map (worthM O (!one) n) := List.map_congr_left fun p hp => opp_worth one n p (setsOf_trans (mem_partsM hp).1 h)
    have h2 : (oppM L O).contains lit = !O.contains lit := contains_fil h
    rw [e, h2]
    have e3 : ((!O.contains lit) == one) = (O.contains lit == !one) := by cases O.contains lit <;> cases one <;> rfl
    rw [e3]
/-! ## other names -/
theorem insBy_map {α : Type} {le le' : Wd → Wd → Bool} (f : Wd → Wd) (x : Wd) : ∀ l : List Wd, (∀ y ∈ l, le' (f x) (f y) = le x y) → insBy le' (f x) (l.map f) = (insBy le x l).map f
  | [], _ => rfl
  | y :: r, h => by
    have h1 := h y List.mem_cons_self
    have ih := insBy_map (α := α) f x r fun z hz => h z (List.mem_cons_of_mem _ hz)
    rw [List.map_cons]
    unfold insBy
    rw [h1]
    split
    · rfl
    · rw [ih]
      rfl
theorem isort_map {le le' : Wd → Wd → Bool} (f : Wd → Wd) : ∀ l : List Wd, (∀ x ∈ l, ∀ y ∈ l, le' (f x) (f y) = le x y) → isort le' (l.map f) = (isort le l).map f
  | [], _ => rfl
  | x :: r, h => by
    have ih := isort_map f r fun a ha b hb => h a (List.mem_cons_of_mem _ ha) b (List.mem_cons_of_mem _ hb)
    rw [List.map_cons, isort, ih, isort]
    exact insBy_map (α := Nat) f x _ fun y hy => h x List.mem_cons_self y (List.mem_cons_of_mem _ ((isort_perm r).mem_iff.mp hy))
/-- ρ keeps the order of the letters of L -/
def Mono (ρ : Nat → Nat) (L : Wd) : Prop := ∀ a ∈ L, ∀ b ∈ L, (a < b ↔ ρ a < ρ b)
theorem Mono.inj {ρ : Nat → Nat} {L : Wd} (m : Mono ρ L) {a b : Nat} (ha : a ∈ L) (hb : b ∈ L) : (ρ a = ρ b) ↔ a = b := by
  have h1 := m a ha b hb
  have h2 := m b hb a ha
  constructor
  · intro e
    omega
  · intro e
    rw [e]
theorem lex_map {ρ : Nat → Nat} {L : Wd} (m : Mono ρ L) : ∀ a b : Wd, (∀ c ∈ a, c ∈ L) → (∀ c ∈ b, c ∈ L) → leLex (a.map ρ) (b.map ρ) = leLex a b
  | [], _, _, _ => by simp [leLex]
  | _ :: _, [], _, _ => by simp [leLex]
  | a :: r, b :: t, ha, hb => by
    have ih := lex_map m r t (fun c h => ha c (List.mem_cons_of_mem _ h)) fun c h => hb c (List.mem_cons_of_mem _ h)
    have ma := ha a List.mem_cons_self
    have mb := hb b List.mem_cons_self
    simp only [List.map_cons, leLex]
    by_cases e : a = b
    · rw [if_pos e, if_pos ((m.inj ma mb).mpr e), ih]
    · rw [if_neg e, if_neg (fun h => e ((m.inj ma mb).mp h))]
      exact decide_eq_decide.mpr (m a ma b mb).symm
theorem sz_map {ρ : Nat → Nat} {L : Wd} (m : Mono ρ L) (a b : Wd) (ha : ∀ c ∈ a, c ∈ L) (hb : ∀ c ∈ b, c ∈ L) : leSz (a.map ρ) (b.map ρ) = leSz a b := by
  unfold leSz
  rw [List.length_map, List.length_map, lex_map m a b ha hb]
theorem raw_map (ρ : Nat → Nat) : ∀ (l : Wd) (acc : List Wd), rawFrom (acc.map (·.map ρ)) (l.map ρ) = (rawFrom acc l).map (·.map ρ)
  | [], acc => rfl
  | c :: r, acc => by
    rw [List.map_cons, rawFrom, rawFrom, ← raw_map ρ r]
    congr 1
    rw [List.map_append, List.map_map, List.map_map]
    congr 1
    refine List.map_congr_left fun x _ => ?_
    simp
theorem sub_mem {a L : Wd} (h : a ∈ setsOf L) : ∀ c ∈ a, c ∈ L := fun c hc => (mem_setsOf.mp h).subset hc
theorem sets_map {ρ : Nat → Nat} {L lit : Wd} (m : Mono ρ L) (h : lit ∈ setsOf L) : setsOf (lit.map ρ) = (setsOf lit).map (·.map ρ) := by
  unfold setsOf rawSets
  have e := raw_map ρ lit [[]]
  rw [show ([[]] : List Wd).map (·.map ρ) = [[]] from rfl] at e
  rw [e]
  refine isort_map _ _ fun x hx y hy => sz_map m x y ?_ ?_
  · exact sub_mem (setsOf_trans (show x ∈ setsOf lit from (isort_perm _).mem_iff.mpr hx) h)
  · exact sub_mem (setsOf_trans (show y ∈ setsOf lit from (isort_perm _).mem_iff.mpr hy) h)
theorem within_map {ρ : Nat → Nat} {L : Wd} (m : Mono ρ L) {a b : Wd} (ha : ∀ c ∈ a, c ∈ L) (hb : ∀ c ∈ b, c ∈ L) : withinM (a.map ρ) (b.map ρ) = withinM a b := by
  unfold withinM
  rw [List.all_map]
  rw [Bool.eq_iff_iff, List.all_eq_true, List.all_eq_true]
  refine ⟨fun h c hc => ?_, fun h c hc => ?_⟩
  · have := h c hc
    simp only [Function.comp, List.contains_iff_mem, List.mem_map] at this
    obtain ⟨d, hd, e⟩ := this
    rw [List.contains_iff_mem, ← (m.inj (hb d hd) (ha c hc)).mp e]
    exact hd
  · have := h c hc
    simp only [Function.comp, List.contains_iff_mem, List.mem_map] at this ⊢
    exact ⟨c, this, rfl⟩
theorem map_inj {ρ : Nat → Nat} {L : Wd} (m : Mono ρ L) : ∀ a b : Wd, (∀ c ∈ a, c ∈ L) → (∀ c ∈ b, c ∈ L) → (a.map ρ = b.map ρ ↔ a = b)
  | [], [], _, _ => by simp
  | [], _ :: _, _, _ => by simp
  | _ :: _, [], _, _ => by simp
  | a :: r, b :: t, ha, hb => by
    have ih := map_inj m r t (fun c h => ha c (List.mem_cons_of_mem _ h)) fun c h => hb c (List.mem_cons_of_mem _ h)
    simp only [List.map_cons, List.cons.injEq, ih, m.inj (ha a List.mem_cons_self) (hb b List.mem_cons_self)]
/-- O' says of a renamed set what O says of the set -/
def Alike (ρ : Nat → Nat) (L : Wd) (O O' : List Wd) : Prop := ∀ s ∈ setsOf L, O'.contains (s.map ρ) = O.contains s
section
variable {ρ : Nat → Nat} {L : Wd} {O O' : List Wd}
theorem ren_unlike (m : Mono ρ L) (k : Alike ρ L O O') {lit : Wd} (h : lit ∈ setsOf L) : unlikeM O' (lit.map ρ) = (unlikeM O lit).map (·.map ρ) := by
  unfold unlikeM
  rw [sets_map m h, List.filter_map]
  congr 1
  refine List.filter_congr fun one ho => ?_
  show (O'.contains (one.map ρ) != O'.contains (lit.map ρ)) = _
  rw [k one (setsOf_trans ho h), k lit h]
theorem ren_parts (m : Mono ρ L) (k : Alike ρ L O O') {lit : Wd} (h : lit ∈ setsOf L) : partsM O' (lit.map ρ) = (partsM O lit).map (·.map ρ) := by
  have hu : ∀ x ∈ unlikeM O lit, ∀ c ∈ x, c ∈ L := fun x hx => sub_mem (setsOf_trans (List.mem_filter.mp hx).1 h)
  unfold partsM
  rw [ren_unlike m k h, List.filter_map]
  have e : (unlikeM O lit).filter ((fun one => !(List.any ((unlikeM O lit).map (·.map ρ)) fun two => (one != two) && withinM one two)) ∘ (·.map ρ)) = (unlikeM O lit).filter fun one => !(unlikeM O lit).any fun two => (one != two) && withinM one two := by
    refine List.filter_congr fun one ho => ?_
    simp only [Function.comp, List.any_map]
    congr 1
    rw [Bool.eq_iff_iff, List.any_eq_true, List.any_eq_true]
    refine exists_congr fun two => and_congr_right fun ht => ?_
    have e1 : ((one.map ρ) != (two.map ρ)) = (one != two) := by
      by_cases c : one = two
      · subst c; simp
      · have c' : ¬ one.map ρ = two.map ρ := fun q => c ((map_inj m one two (hu one ho) (hu two ht)).mp q)
        rw [bne_iff_ne.mpr c, bne_iff_ne.mpr c']
    simp only [Function.comp]
    rw [e1, within_map m (hu one ho) (hu two ht)]
  rw [e]
  exact isort_map _ _ fun x hx y hy => lex_map m x y (hu x (List.mem_filter.mp hx).1) (hu y (List.mem_filter.mp hy).1)
theorem ren_branches (m : Mono ρ L) (k : Alike ρ L O O') : ∀ (n : Nat) (lit : Wd), lit ∈ setsOf L → branchesM O' n (lit.map ρ) = (branchesM O n lit).map (·.map (·.map ρ))
  | 0, _, _ => rfl
  | n + 1, lit, h => by
    unfold branchesM
    rw [ren_parts m k h]
    cases e : partsM O lit with
    | nil => rfl
    | cons a r =>
      rw [← e]
      have ne : ¬ (List.map (·.map ρ) (partsM O lit)).isEmpty = true := by rw [e]; simp
      have ne2 : ¬ (partsM O lit).isEmpty = true := by rw [e]; simp
      rw [if_neg ne, if_neg ne2, List.flatMap_map, List.map_flatMap]
      have : ∀ ps : List Wd, (∀ p ∈ ps, p ∈ setsOf L) → (ps.flatMap fun p => (branchesM O' n (p.map ρ)).map fun r => lit.map ρ :: r) = ps.flatMap fun p => ((branchesM O n p).map fun r => lit :: r).map (·.map (·.map ρ)) := by
        intro ps
        induction ps with
        | nil => intro _; rfl
        | cons a r ih =>
          intro hp
          rw [List.flatMap_cons, List.flatMap_cons, ih fun p h => hp p (List.mem_cons_of_mem _ h), ren_branches m k n a (hp a List.mem_cons_self)]
          congr 1
          rw [List.map_map, List.map_map]
          rfl
      exact this _ fun p hp => setsOf_trans (mem_partsM hp).1 h
theorem ren_worth (m : Mono ρ L) (k : Alike ρ L O O') (one : Bool) : ∀ (n : Nat) (lit : Wd), lit ∈ setsOf L → worthM O' one n (lit.map ρ) = worthM O one n lit
  | 0, _, _ => rfl
  | n + 1, lit, h => by
    unfold worthM
    rw [ren_parts m k h, k lit h, List.map_map]
    have e : (partsM O lit).map (worthM O' one n ∘ (·.map ρ)) = (partsM O lit).map (worthM O one n) := List.map_congr_left fun p hp => ren_worth m k one n p (setsOf_trans (mem_partsM hp).1 h)
    rw [e]
    have e2 : (List.map (·.map ρ) (partsM O lit)).isEmpty = (partsM O lit).isEmpty := by cases partsM O lit <;> rfl
    rw [e2]
end
end RG

end

section
set_option Elab.async false
set_option linter.all false
set_option maxRecDepth 100000
set_option maxHeartbeats 4000000
namespace RG
/-! ## a lamp that does not matter -/
structure Idle (ins : Wd → Wd) (L W : Wd) : Prop where
  top : ins L = W
  subA : ∀ s ∈ setsOf L, ∀ q ∈ setsOf (ins s), q ∈ setsOf s ∨ q ∈ (setsOf s).map ins
  subB : ∀ s ∈ setsOf L, ∀ q ∈ setsOf s, q ∈ setsOf (ins s) ∧ ins q ∈ setsOf (ins s)
  both : ∀ s ∈ setsOf L, ∀ t ∈ setsOf L, withinM (ins s) (ins t) = withinM s t ∧ withinM (ins s) t = false ∧ (ins s = ins t → s = t) ∧ ins s ≠ t
  up : ∀ s ∈ setsOf L, withinM s (ins s) = true
  nd : ∀ s ∈ setsOf L, (setsOf s).Nodup ∧ (setsOf (ins s)).Nodup
def AlikeI (ins : Wd → Wd) (L : Wd) (O O3 : List Wd) : Prop := ∀ s ∈ setsOf L, O3.contains s = O.contains s ∧ O3.contains (ins s) = O.contains s
theorem mem_parts_iff {O : List Wd} {lit p : Wd} : p ∈ partsM O lit ↔ (p ∈ setsOf lit ∧ (O.contains p != O.contains lit) = true) ∧ ∀ two ∈ setsOf lit, (O.contains two != O.contains lit) = true → p ≠ two → withinM p two = false := by
  unfold partsM
  rw [(isort_perm _).mem_iff, List.mem_filter]
  unfold unlikeM
  rw [List.mem_filter]
  refine and_congr_right fun _ => ?_
  simp only [Bool.not_eq_true', List.any_eq_false, List.mem_filter, Bool.and_eq_true, not_and, bne_iff_ne, and_imp, Bool.not_eq_true]
theorem parts_nodup {O : List Wd} {lit : Wd} (h : (setsOf lit).Nodup) : (partsM O lit).Nodup := by
  unfold partsM unlikeM
  exact (isort_perm _).nodup_iff.mpr ((h.filter _).filter _)
section
variable {ins : Wd → Wd} {L W : Wd} {O O3 : List Wd}
theorem idle_parts (I : Idle ins L W) (k : AlikeI ins L O O3) {lit : Wd} (h : lit ∈ setsOf L) : (partsM O3 (ins lit)).Perm ((partsM O lit).map ins) := by
  have sub : ∀ {s}, s ∈ setsOf lit → s ∈ setsOf L := fun hs => setsOf_trans hs h
  have nd2 : ((partsM O lit).map ins).Nodup := by
    have := parts_nodup (O := O) (I.nd lit h).1
    rw [List.nodup_iff_pairwise_ne] at this ⊢
    rw [List.pairwise_map]
    refine this.imp_of_mem fun {a b} ha hb ne e => ne ((I.both a (sub (mem_partsM ha).1) b (sub (mem_partsM hb).1)).2.2.1 e)
  refine (List.perm_ext_iff_of_nodup (parts_nodup (I.nd lit h).2) nd2).mpr fun q => ?_
  have kl := (k lit h).2
  rw [mem_parts_iff, List.mem_map]
  constructor
  · rintro ⟨⟨hq, hun⟩, hmax⟩
    rcases I.subA lit h q hq with hs | hs
    · exfalso
      have hqL := sub hs
      have h1 := (k q hqL).1
      have h2 := (k q hqL).2
      have := hmax (ins q) (I.subB lit h q hs).2 (by rw [h2, ← h1]; exact hun) (fun e => (I.both q hqL q hqL).2.2.2 e.symm)
      rw [I.up q hqL] at this
      cases this
    · obtain ⟨p, hp, rfl⟩ := List.mem_map.mp hs
      have hpL := sub hp
      refine ⟨p, mem_parts_iff.mpr ⟨⟨hp, by rw [← (k p hpL).2, ← kl]; exact hun⟩, fun two ht hu ne => ?_⟩, rfl⟩
      have htL := sub ht
      have := hmax (ins two) (I.subB lit h two ht).2 (by rw [(k two htL).2, kl]; exact hu) (fun e => ne ((I.both p hpL two htL).2.2.1 e))
      rw [(I.both p hpL two htL).1] at this
      exact this
  · rintro ⟨p, hp, rfl⟩
    obtain ⟨⟨hp1, hun⟩, hmax⟩ := mem_parts_iff.mp hp
    have hpL := sub hp1
    refine ⟨⟨(I.subB lit h p hp1).2, by rw [(k p hpL).2, kl]; exact hun⟩, fun two ht hu ne => ?_⟩
    rcases I.subA lit h two ht with hs | hs
    · exact (I.both p hpL two (sub hs)).2.1
    · obtain ⟨t, ht', rfl⟩ := List.mem_map.mp hs
      have htL := sub ht'
      rw [(I.both p hpL t htL).1]
      exact hmax t ht' (by rw [← (k t htL).2, ← kl]; exact hu) (fun e => ne (by rw [e]))
theorem sum_perm : ∀ {l m : List Int}, l.Perm m → l.sum = m.sum := by
  intro l m h
  induction h with
  | nil => rfl
  | cons a _ ih => rw [List.sum_cons, List.sum_cons, ih]
  | swap a b l => simp only [List.sum_cons]; omega
  | trans _ _ h1 h2 => exact h1.trans h2
theorem max_perm {l m : List Int} (h : l.Perm m) : maxM l = maxM m := by
  cases l with
  | nil => rw [List.nil_perm.mp h]
  | cons a r =>
    exact maxM_is (h.mem_iff.mp (maxM_mem (a :: r) (Nat.succ_pos _))) fun y hy => maxM_ge (a :: r) y (h.mem_iff.mpr hy)
theorem idle_worth (I : Idle ins L W) (k : AlikeI ins L O O3) (one : Bool) : ∀ (n : Nat) (lit : Wd), lit ∈ setsOf L → worthM O3 one n (ins lit) = worthM O one n lit
  | 0, _, _ => rfl
  | n + 1, lit, h => by
    have hp := idle_parts I k h
    have ih : ((partsM O lit).map ins).map (worthM O3 one n) = (partsM O lit).map (worthM O one n) := by
      rw [List.map_map]
      exact List.map_congr_left fun p hp => idle_worth I k one n p (setsOf_trans (mem_partsM hp).1 h)
    have hm : ((partsM O3 (ins lit)).map (worthM O3 one n)).Perm ((partsM O lit).map (worthM O one n)) := by
      rw [← ih]
      exact hp.map _
    have he : (partsM O3 (ins lit)).isEmpty = (partsM O lit).isEmpty := by
      have := hp.length_eq
      rw [List.length_map] at this
      cases e1 : partsM O3 (ins lit) <;> cases e2 : partsM O lit <;> rw [e1, e2] at this <;> simp_all
    unfold worthM
    rw [he, (k lit h).2, sum_perm hm, max_perm hm]
end
/-! ## the law's lamps -/
def wideM (L : Wd) : Wd := if L = [120, 121, 122] then 119 :: L else L ++ [122]
def insM (L s : Wd) : Wd := if L = [120, 121, 122] then 119 :: s else s ++ [122]
def zM (L : Wd) : Wd := if L = [120, 121, 122] then [119] else [122]
end RG

end

section
set_option Elab.async false
set_option linter.all false
set_option maxRecDepth 100000
set_option maxHeartbeats 4000000
namespace RG
/-! ## the law's lamps: what is decided -/
abbrev names3 : List Wd := [[112, 113, 114], [100, 110, 122], [107, 108, 109]]
def goodB (L : Wd) : Bool := isLampsM L && (setsOf L).all fun p => isSetM p L
theorem goodL_of {L : Wd} (h : goodB L = true) : GoodL L := by
  unfold goodB at h
  rw [Bool.and_eq_true, List.all_eq_true] at h
  exact ⟨h.1, h.2⟩
theorem good7 : ∀ L ∈ lamps7, goodB L = true ∧ goodB (wideM L) = true ∧ ∀ M ∈ names3, goodB (M.take L.length) = true := by decide +kernel
theorem idle7 : ∀ L ∈ lamps7, Idle (insM L) L (wideM L) := fun L hL => by
  have a : ∀ L ∈ lamps7, insM L L = wideM L := by decide +kernel
  have b : ∀ L ∈ lamps7, ∀ s ∈ setsOf L, ∀ q ∈ setsOf (insM L s), q ∈ setsOf s ∨ q ∈ (setsOf s).map (insM L) := by decide +kernel
  have c : ∀ L ∈ lamps7, ∀ s ∈ setsOf L, ∀ q ∈ setsOf s, q ∈ setsOf (insM L s) ∧ insM L q ∈ setsOf (insM L s) := by decide +kernel
  have d : ∀ L ∈ lamps7, ∀ s ∈ setsOf L, ∀ t ∈ setsOf L, withinM (insM L s) (insM L t) = withinM s t ∧ withinM (insM L s) t = false ∧ (insM L s = insM L t → s = t) ∧ insM L s ≠ t := by decide +kernel
  have e : ∀ L ∈ lamps7, ∀ s ∈ setsOf L, withinM s (insM L s) = true := by decide +kernel
  have f : ∀ L ∈ lamps7, ∀ s ∈ setsOf L, (setsOf s).Nodup ∧ (setsOf (insM L s)).Nodup := by decide +kernel
  exact ⟨a L hL, b L hL, c L hL, d L hL, e L hL, f L hL⟩
theorem union7 : ∀ L ∈ lamps7, ∀ s ∈ setsOf L, unionM [s, zM L] = insM L s := by decide +kernel
def rho (L M : Wd) (c : Nat) : Nat := ((L.zip M).lookup c).getD 0
theorem rho7 : ∀ L ∈ lamps7, ∀ M ∈ names3, L.map (rho L (M.take L.length)) = M.take L.length ∧ (∀ a ∈ L, ∀ b ∈ L, (a < b ↔ rho L (M.take L.length) a < rho L (M.take L.length) b)) := by decide +kernel
def kvsOf (L M : Wd) : List (L2.Key × L2.V) := (L.zip M).map fun q => (kS [q.1], VS [q.2])
theorem table7 : ∀ L ∈ lamps7, ∀ M ∈ names3, ∀ c ∈ L, L2.valV (L2.mergeK [] (kvsOf L (M.take L.length))) (kS [c]) = some (VS [rho L (M.take L.length) c]) := by decide +kernel
section
variable {L : Wd} {f : Wd → Bool}
theorem ren7 (hL : L ∈ lamps7) {M : Wd} (hM : M ∈ names3) (O : List Wd) (hO : ∀ s ∈ O, s ∈ setsOf L) :
    Mono (rho L (M.take L.length)) L ∧ Alike (rho L (M.take L.length)) L O ((setsOf (M.take L.length)).filter (O.map (·.map (rho L (M.take L.length)))).contains) := by
  obtain ⟨h1, h2⟩ := rho7 L hL M hM
  have m : Mono (rho L (M.take L.length)) L := h2
  refine ⟨m, fun s hs => ?_⟩
  have hin : s.map (rho L (M.take L.length)) ∈ setsOf (M.take L.length) := by
    have e := sets_map m (self_mem_setsOf L)
    rw [h1] at e
    rw [e]
    exact List.mem_map.mpr ⟨s, hs, rfl⟩
  rw [contains_fil hin, Bool.eq_iff_iff, List.contains_iff_mem, List.contains_iff_mem, List.mem_map]
  refine ⟨fun ⟨t, ht, e⟩ => ?_, fun h => ⟨s, h, rfl⟩⟩
  rw [← (map_inj m t s (sub_mem (hO t ht)) (sub_mem hs)).mp e]
  exact ht
theorem idle7a (hL : L ∈ lamps7) (O : List Wd) (hO : ∀ s ∈ O, s ∈ setsOf L) : AlikeI (insM L) L O ((setsOf (wideM L)).filter (O ++ O.map (insM L)).contains) := by
  have I := idle7 L hL
  refine fun s hs => ⟨?_, ?_⟩
  · have hin : s ∈ setsOf (wideM L) := by
      rw [← I.top]
      exact (I.subB L (self_mem_setsOf L) s hs).1
    rw [contains_fil hin, Bool.eq_iff_iff, List.contains_iff_mem, List.contains_iff_mem, List.mem_append, List.mem_map]
    refine ⟨fun h => h.elim id fun ⟨t, ht, e⟩ => absurd e (I.both t (hO t ht) s hs).2.2.2, .inl⟩
  · have hin : insM L s ∈ setsOf (wideM L) := by
      rw [← I.top]
      exact (I.subB L (self_mem_setsOf L) s hs).2
    rw [contains_fil hin, Bool.eq_iff_iff, List.contains_iff_mem, List.contains_iff_mem, List.mem_append, List.mem_map]
    refine ⟨fun h => h.elim (fun h => absurd rfl (I.both s hs _ (hO _ h)).2.2.2) fun ⟨t, ht, e⟩ => ?_, fun h => .inr ⟨s, h, rfl⟩⟩
    rw [← (I.both t (hO t ht) s hs).2.2.1 e]
    exact ht
end
end RG

end

section
set_option Elab.async false
set_option linter.all false
set_option maxRecDepth 100000
set_option maxHeartbeats 4000000
namespace RG
open PySem L2 Evl
/-! ## rules for law -/
section
variable {X : Cx} {σ : L2.St} {H : Hp} {R : Bool → Hp → Prop} {Q : VK} {a b e hi : Expr} {pos p2 : Pos} {k : Nat}
/-- x != y, both the same data -/
theorem t_ne_same (hr : Room k X.A) (q : wE X a σ H fun v H1 => wE X b σ H1 fun w H2 => ∃ d n, Dp X.K H2 v d ∧ Dp X.K H2 w d ∧ Fine n d ∧ n ≤ 60 ∧ R false H2) (hm : behindInMarks .NotEq b = false := by with_unfolding_all rfl) : wT X (.Compare a [.NotEq] [b] pos) σ H R := by
  refine t_cmp (op_neD hr.units) (wE_mono q fun v H1 h => wE_mono h fun w H2 ⟨d, n, h1, h2, h3, h4, h5⟩ => ?_) hm
  refine ⟨d, d, h1, h2, h3.shaped (by omega), h3.shaped (by omega), _, rfl, ?_⟩
  rw [PySem.SeqAt.eqv_refl d h3.lay]
  exact h5
/-- text[:n] -/
theorem w_cutS (q : wE X e σ H fun x H1 => wE X hi σ H1 fun y H2 => ∃ l : Wd, ∃ n : Nat, x = VS l ∧ y = .int n ∧ l.length ≤ 100000 ∧ Q (VS (l.take n)) H2) : wE X (.Subscript e (.Slice none (some hi) none p2) pos) σ H Q :=
  ⟨_, pe_slice sl_str pe_w po_none (po_some pe_w), wE_mono q fun x H1 h => wE_mono h fun y H2 ⟨l, n, ex, ey, hl, k⟩ => ⟨n, ey, S l, ex, by rw [S_len]; exact small_line hl, by rw [S_cut0]; exact k⟩⟩
end
/-- x, y = e, e a pair -/
theorem s_tup2 {X : Cx} {σ : L2.St} {H : Hp} {D : Ends} {e : Expr} {x y : Str} {px py pt pos : Pos} {kk : Nat} (i j : Nat) (hN : X.N.Nodup) (hi : X.N[i]? = some x) (hj : X.N[j]? = some y) (hx : Loc X.env.scope x) (hy : Loc X.env.scope y)
    (hfx : X.fn x = true ∨ X.env.scope.names.lookup x = some .local) (hfy : X.fn y = true ∨ X.env.scope.names.lookup y = some .local)
    (q : wE X e σ H fun v H1 => ∃ a u w, v = .ref a ∧ SqT X.K H1 a [u, w] ∧ D.nx ((σ.set i (some u)).set j (some w)) H1) (hc : X.calm = true := by rfl)
    (hs : swapsWithSole [.Tuple [.Name x px, .Name y py] kk pt] e pos.line X.env = pure false := by rfl) (hw : swappedStores [.Tuple [.Name x px, .Name y py] kk pt] e X.env = pure none := by rfl)
    (h1 : (assignEach [.Tuple [.Name x px, .Name y py] kk pt] X.env).map (·.2) = [assign (.Tuple [.Name x px, .Name y py] kk pt) X.env] := by rfl) : wS X (.Assign [.Tuple [.Name x px, .Name y py] kk pt] e pos) D σ H :=
  ⟨_, ps_asg pe_w (pg_tup hc (pgs_cons (pg_name hN hi hx hfx) (pgs_cons (pg_name hN hj hy hfy) pgs_nil))) hs hw h1, wE_mono q fun v H1 ⟨a, u, w, ev, hq, h⟩ => ⟨a, _, ev, hq, rfl, u, _, rfl, w, _, rfl, rfl, h⟩⟩
/-- [(x, y) for x, y in zip(a, b)] -/
theorem w_lcZT {X : Cx} {σ : L2.St} {H : Hp} {Q : VK} {elt e e2 : Expr} {scope : Scope} {pos px py pz p pt : Pos} {x y : Str} {kk : Nat} (i j : Nat) (hij : i ≠ j) (hN : X.N.Nodup) (ok : BlkOk X.N X.env.scope scope [(x, i), (y, j)]) (hc : X.calm = true) (hm : X.mg "zip" = none)
    (q : wA X [e, e2] σ H fun vs H1 => ∃ a b : Wd, vs = [VS a, VS b] ∧ a.length < 1000 ∧ (∀ c d H' (R : VK), (∀ r, H' r = none → R (.ref r) (upd H' r (.tup [VS [c], VS [d]]))) → bE X scope elt ((σ.set i (some (VS [c]))).set j (some (VS [d]))) H' R) ∧
      ∀ p H' (qs : List (Addr × Nat × Nat)), H1 p = none → Ex H1 H' → H' p = some (.lst (qs.map fun q => V.ref q.1)) → qs.map (·.2) = a.zip b → (∀ q ∈ qs, H' q.1 = some (.tup [VS [q.2.1], VS [q.2.2]])) → Q (.ref p) H')
    (hx : scope.names.lookup x = some .local) (hy : scope.names.lookup y = some .local) (hg : Gl X "zip" := by rfl)
    (hs : starEach [e, e2] X.env = (false, eval e X.env) :: starEach [e2] X.env := by rfl) (hpl : (backTo pz (starEach [e2] X.env)).any (·.1) = false := by rfl) (hf : ∀ v, foldedSetIterable (.Call (.Name "zip" p) [e, e2] [] pz) X.env v = pure v := by intro _; rfl) :
    wE X (.ListComp elt [⟨.Tuple [.Name x px, .Name y py] kk pt, .Call (.Name "zip" p) [e, e2] [] pz, [], 0⟩] scope pos) σ H Q := by
  have hi : X.N[i]? = some x := ok.ix (x, i) (by simp)
  have hj : X.N[j]? = some y := ok.ix (y, j) (by simp)
  have hx' := fun (s : Shared) (H : Hp) (C : Addr) (cl : List (Str × Addr)) (fp : List Addr) => lookup_relS_keep (sc := X.env.scope) (by decide) hx
  have hy' := fun (s : Shared) (H : Hp) (C : Addr) (cl : List (Str × Addr)) (fp : List Addr) => lookup_relS_keep (sc := X.env.scope) (by decide) hy
  refine w_lc (own := [(x, i), (y, j)]) hc hN ok gm_two (Nat.zero_le _) (g := gTup X.K 2 (gCons (gName i) (gCons (gName j) gNil))) (fun s H C cl fp => ?_) ?_ hf
  · refine pg_tup hc (pgs_cons (pg_name hN hi (.inl (hx' s H C cl fp)) (.inr (hx' s H C cl fp))) (pgs_cons (pg_name hN hj (.inl (hy' s H C cl fp)) (.inr (hy' s H C cl fp))) pgs_nil))
  refine i_zipS hm (wA_mono q ?_) hg hs hpl
  rintro vs H1 ⟨a, b, ev, hl, hb, hd⟩
  refine ⟨S a, S b, ev, _, _, _, walk_xy, fun D hD => ?_⟩
  refine ⟨fun n acc H => ∃ qs : List (Addr × Nat × Nat), acc = qs.map (fun q => V.ref q.1) ∧ qs.map (·.2) = (a.zip b).take n ∧ (∀ q ∈ qs, q.1 ≠ D ∧ H q.1 = some (.tup [VS [q.2.1], VS [q.2.2]])) ∧ Ex H1 H ∧ H D = some (.lst acc), ⟨[], rfl, by simp, fun q hq => absurd hq List.not_mem_nil, Ex.new hD, upd_same⟩, ?_, ?_, ?_⟩
  · rintro n acc H hn ⟨qs, rfl, h2, h3, ex, d⟩
    refine ⟨trivial, d, ?_⟩
    have := congrArg List.length h2
    rw [List.length_map, List.length_take, List.length_zip] at this
    rw [List.length_map]
    exact small_lt (by omega)
  · rintro n v acc H H' hn ⟨qs, rfl, h2, h3, ex, d⟩ ⟨T, c1, c2, rfl, hT, rfl, h1, h4⟩
    have ex1 : Ex H (upd H T (.tup [VS [c1], VS [c2]])) := Ex.new hT
    refine ⟨T, _, rfl, SqT.of upd_same, rfl, VS [c1], [VS [c2]], rfl, VS [c2], [], rfl, rfl, ?_, ?_⟩
    · exact wipe_two σ hij _ _
    · have w1 : ((wipe σ [i, j]).set i (some (VS [c1]))).set j (some (VS [c2])) = (σ.set i (some (VS [c1]))).set j (some (VS [c2])) := wipe_two' σ hij _ _
      show bE X scope elt (((wipe σ [i, j]).set i (some (VS [c1]))).set j (some (VS [c2]))) _ _
      rw [w1]
      refine hb c1 c2 _ _ fun r hr => ?_
      have ex3 := ex1.trans (Ex.new (o := .tup [VS [c1], VS [c2]]) hr)
      have hz : (a.zip b)[n]? = some (c1, c2) := by
        have q1 : a[n]? = some c1 := by simpa [S] using h1
        have q2 : b[n]? = some c2 := by simpa [S] using h4
        rw [List.getElem?_zip_eq_some]
        exact ⟨q1, q2⟩
      have rD : r ≠ D := fun e => by
        have h1 : (upd H T (.tup [VS [c1], VS [c2]])) D = none := e ▸ hr
        have h2 := ex1 _ _ d
        rw [h1] at h2
        cases h2
      refine ⟨ex3 _ _ d, qs ++ [(r, c1, c2)], by rw [List.map_append]; rfl, by rw [List.map_append, h2, List.take_add_one, hz]; rfl, fun q hq => ?_, (ex.trans ex3).mut hD, upd_same⟩
      rcases List.mem_append.mp hq with h | h
      · exact ⟨(h3 q h).1, by rw [upd_ne (h3 q h).1]; exact ex3 _ _ (h3 q h).2⟩
      · rw [List.mem_singleton.mp h]
        exact ⟨rD, by rw [upd_ne rD, upd_same]⟩
  · rintro acc H ⟨qs, rfl, h2, h3, ex, d⟩
    have hz : (a.zip b).take (min (S a).cps.size (S b).cps.size) = a.zip b := by
      rw [S_size, S_size, ← List.length_zip, List.take_length]
    rw [hz] at h2
    exact hd D H qs hD ex d h2 fun q hq => (h3 q hq).2
/-! ## data of branches -/
theorem branch_data {K : PySem.W.Frag} {L : Wd} (gl : GoodL L) : ∀ (bs : List (List Wd)), (∀ b ∈ bs, ∀ s ∈ b, s ∈ setsOf L) → ∃ d, Fine 2 d ∧ ∀ H p, BrAt H p bs → Dp K H (.ref p) d := fun bs hbs => by
  refine ⟨.list (bs.map fun b => .tuple (b.map fun s => .str (S s))), fine_lst fun d hd => ?_, fun H p hB => ?_⟩
  · obtain ⟨b, hb, rfl⟩ := List.mem_map.mp hd
    refine fine_tup fun d hd => ?_
    obtain ⟨s, hs, rfl⟩ := List.mem_map.mp hd
    exact fine_str (gl.ok (hbs b hb s hs))
  · obtain ⟨as, h1, rfl, h3⟩ := hB
    refine .lst (SqL.of h1) ?_
    rw [List.map_map]
    exact dp_all _ _ as fun q hq => .tup (SqT.of (h3 q hq).2) (dp_all VS (fun s => .str (S s)) q.2 fun s _ => .str _)
theorem branch_mem (O : List Wd) (L : Wd) : ∀ (n : Nat) (lit : Wd), lit ∈ setsOf L → ∀ b ∈ branchesM O n lit, ∀ s ∈ b, s ∈ setsOf L
  | 0, lit, h, b, hb, s, hs => by
    simp only [branchesM, List.mem_singleton] at hb
    subst hb
    rw [List.mem_singleton.mp hs]
    exact h
  | n + 1, lit, h, b, hb, s, hs => by
    unfold branchesM at hb
    split at hb
    · rw [List.mem_singleton.mp hb] at hs
      rw [List.mem_singleton.mp hs]
      exact h
    · obtain ⟨p, hp, h2⟩ := List.mem_flatMap.mp hb
      obtain ⟨r, hr, rfl⟩ := List.mem_map.mp h2
      rcases List.mem_cons.mp hs with e | e
      · rw [e]; exact h
      · exact branch_mem O L n p (setsOf_trans (mem_partsM hp).1 h) r hr s e
end RG

end

section
set_option Elab.async false
set_option linter.all false
set_option maxRecDepth 100000
set_option maxHeartbeats 4000000
namespace RG
open PySem L2 Evl
/-! ## goals and trees that law makes -/
theorem GoalAt.bag {CG : Addr} {L : Wd} {O : List Wd} {H H' : Hp} {g b : Addr} (e : ExB b H H') (hb : ∃ xs, H b = some (.lst xs)) (h : GoalAt CG L O H g) : GoalAt CG L O H' g := by
  obtain ⟨dx, fs, st, e1, e2, e3, e4⟩ := h
  exact ⟨dx, fs, st, e.bag hb e1, e2, e3, e.tup hb e4⟩
section
variable {X : Cx} {σ : L2.St} {H : Hp} {Q : VK} {e1 e2 e : Expr} {p pos : Pos} {CG CT f : Addr} {fd : FuncData} {k : Nat}
theorem w_mkGoal (G : Gk X.prog X.w X.K X.mg X.base "Goal" CG 5 f fd ["self", "lamps", "sentence"] (spGoalInit CG)) (hr : Room k X.A) (hk : 7 ≤ k)
    (q : wE X e1 σ H fun v1 H1 => wE X e2 σ H1 fun v2 H2 => ∃ (L : Wd) (f : Wd → Bool) (n : Nat), v1 = VS L ∧ GoodL L ∧ SenAt L H2 2 v2 f n ∧ n ≤ 20 ∧ ∀ g H', Ex H2 H' → GoalAt CG L ((setsOf L).filter f) H' g → Q (.ref g) H')
    (hg : Gl X "Goal" := by rfl) (hs1 : starEach [e1, e2] X.env = (false, eval e1 X.env) :: starEach [e2] X.env := by rfl) (hs2 : starEach [e2] X.env = (false, eval e2 X.env) :: starEach [] X.env := by rfl) (hpl : (backTo pos (starEach [e2] X.env)).any (·.1) = false := by rfl) : wE X (.Call (.Name "Goal" p) [e1, e2] [] pos) σ H Q := by
  refine w_make G hr (Nat.le_trans (by decide) hk) (a_cons (wE_mono q fun v1 H1 h => a_cons (wE_mono h fun v2 H2 ⟨L, f, n, ev, gl, hS, hn, hq⟩ => a_nil fun y dy hy hdy hne => ?_) hs2) hs1) hg (by decide) hs1 hpl
  have ex : Ex H2 (upd (upd H2 dy (.own y)) y (.ins CG dy [])) := (Ex.new hdy).trans (Ex.new (by rw [upd_ne (Ne.symm hne)]; exact hy))
  exact ⟨y, dy, L, v2, f, n, by rw [ev], gl, hS.mono ex, hn, upd_same, fun H' eb hG => ⟨rfl, hq y H' (eb.ex ex hy) hG⟩⟩
theorem w_mkTree (G : Gk X.prog X.w X.K X.mg X.base "Tree" CT 6 f fd ["self", "goal"] (spTreeInit CT CG)) (hr : Room k X.A) (hk : 7 ≤ k)
    (q : wE X e σ H fun v H1 => ∃ (g : Addr) (L : Wd) (O : List Wd), v = .ref g ∧ GoodL L ∧ GoalAt CG L O H1 g ∧ ∀ t H', Ex H1 H' → TreeAt CT CG L O H' t → Q (.ref t) H')
    (hg : Gl X "Tree" := by rfl) (hs1 : starEach [e] X.env = (false, eval e X.env) :: starEach [] X.env := by rfl) : wE X (.Call (.Name "Tree" p) [e] [] pos) σ H Q := by
  refine w_make G hr hk (a_cons (wE_mono q fun v H1 ⟨g, L, O, ev, gl, hG, hq⟩ => a_nil fun y dy hy hdy hne => ?_) hs1) hg (by decide) hs1 rfl
  have ex : Ex H1 (upd (upd H1 dy (.own y)) y (.ins CT dy [])) := (Ex.new hdy).trans (Ex.new (by rw [upd_ne (Ne.symm hne)]; exact hy))
  exact ⟨y, dy, g, L, O, by rw [ev], gl, hG.ex ex, upd_same, fun H' eb hT => ⟨rfl, hq y H' (eb.ex ex hy) hT⟩⟩
/-- ('sets',) + tuple(e) -/
theorem w_setsTup {j1} {p1 p2 p3 p4 : Pos} {x1 : Nat} (B : Bt X.mg) (q : ∀ H0, Ex H H0 → wE X e σ H0 fun v H1 => ∃ (a : Addr) (ss : List Wd) (L : Wd), v = .ref a ∧ Ex H0 H1 ∧ SqL X.K H1 a (ss.map VS) ∧ ss.length ≤ 16 ∧ (∀ s ∈ ss, s ∈ setsOf L) ∧ ∀ x H', Ex H1 H' → SenAt L H' 2 x ss.contains 1 → Q x H')
    (hg : Gl X "tuple" := by rfl) (hs1 : starEach [e] X.env = (false, eval e X.env) :: starEach [] X.env := by rfl) :
    wE X (.BinOp (.Tuple [.Constant (.str "sets") j1 p1] x1 p2) .Add (.Call (.Name "tuple" p3) [e] [] p4) pos) σ H Q := by
  refine w_op op_catT (w_tup (a_cons (w_str (a_nil ⟨by show 1 ≤ sizeLine; decide, fun p hp => ?_⟩)) rfl))
  have ex0 : Ex H (upd H p (.tup [V.str "sets"])) := Ex.new hp
  refine w_callTy call_tuple_of B.tuple (by decide +kernel) (a_cons (wE_mono (q _ ex0) fun v H1 ⟨a, ss, L, ev, ex1, ha, hl, hss, hq⟩ => a_nil ⟨a, _, by rw [ev], .inl ⟨ha, fun p2 hp2 => ?_⟩⟩) hs1) hg (by decide) (by decide) hs1 rfl
  have hp1 : H1 p = some (.tup [V.str "sets"]) := ex1 _ _ upd_same
  have ex2 : Ex H1 (upd H1 p2 (.tup (ss.map VS))) := Ex.new hp2
  refine ⟨p, p2, [V.str "sets"], ss.map VS, rfl, rfl, SqT.of (ex2 _ _ hp1), SqT.of upd_same, by simp, by rw [List.length_map]; exact small_line (by simp only [List.length_singleton]; omega), fun hnil => ?_, fun _ p3 hp3 => ?_⟩
  · have hs0 : ss = [] := by simpa using hnil
    subst hs0
    exact hq _ _ ex2 (leafAt (.inr (.inr ⟨[], by decide, hss, ex2 _ _ hp1, fun l => rfl⟩)) 2)
  · exact hq _ _ (ex2.trans (Ex.new hp3)) (leafAt (.inr (.inr ⟨ss, hl, hss, by rw [upd_same]; rfl, fun l => rfl⟩)) 2)
end
end RG

end

section
set_option Elab.async false
set_option linter.all false
set_option maxRecDepth 100000
set_option maxHeartbeats 4000000
namespace RG
open PySem L2 Evl
/-! # law -/
abbrev sLaw : Stmt := top 46
abbrev nLaw : List Str := ["_law_script", "_law_bag_here", "_law_turn", "_law_lamps_here", "_law_sentence_here", "_law_true", "_law_goal", "_law_names", "_law_tree", "_law_back", "_law_table", "_law_fresh", "_law_late", "_law_rows", "_law_wide", "_law_more", "_law_idle", "_law_branch", "_law_one", "_law_other", "_law_lit", "_law_hand"]
theorem scLaw : FnScope nLaw ["_law_script"] (defScope sLaw) := ⟨rfl, rfl, rfl, by decide +kernel, rfl, by decide +kernel, by decide +kernel⟩
def forBody : Stmt → List Stmt
  | .For _ _ b _ _ => b
  | _ => []
abbrev lawB : List Stmt := forBody ((defBody sLaw).getD 1 (.Pass ⟨0, 0, 0, 0⟩))
/-- what law calls -/
structure LG (P : Program) (w : World) (K : PySem.W.Frag) (mg : Str → Option Value) (base : Heap) (CT CG Pt : Addr) : Prop where
  B : Bt mg
  Cg : GoalC K CG
  CTc : TreeC K CT
  bag : ∃ f fd, Gv P w K mg base "_law_bag" 1 f fd ["_law_script"] (spBag (K := K))
  lamps : ∃ f fd, Gv P w K mg base "_law_lamps" 3 f fd ["_law_bag_here", "_law_most"] spLawLamps
  of : ∃ f fd, Gv P w K mg base "_law_of" 2 f fd ["_law_bag_here", "_law_some"] spOf
  aim : ∃ f fd, Gv P w K mg base "_law_aim" 6 f fd ["_law_bag_here", "_law_lamps_here"] (spAim Pt)
  renamed : ∃ f fd, Gv P w K mg base "_law_renamed" 1 f fd ["_law_table", "_law_lit"] spRenamed
  union : ∃ f fd, Gv P w K mg base "_law_union" 1 f fd ["_law_sets_here"] spUnion
  goal : ∃ f fd, Gk P w K mg base "Goal" CG 5 f fd ["self", "lamps", "sentence"] (spGoalInit CG)
  tree : ∃ f fd, Gk P w K mg base "Tree" CT 6 f fd ["self", "goal"] (spTreeInit CT CG)
  inv : ∃ f fd, Gi P w K mg base CG 8 f fd ["self"] (spInv CG)
  worth : ∃ f fd, Gm P w K mg base CT "worth" 11 f fd ["self", "hand"] (spWorth CT CG)
  height : ∃ f fd, Gm P w K mg base CT "height" 6 f fd ["self"] (spHeight CT CG)
  from_ : ∃ f fd, Gm P w K mg base CT "branches_from" 5 f fd ["self", "lit"] (spBranches CT CG 4)
  prop : ∃ p f fd, Gp P w K mg base CG "lamps" 1 p f fd ["self"] (spGoalLamps CG)
  branches : ∃ f, Gg K CT "branches" f sBranches
section
variable {P : Program} {w : World} {K : PySem.W.Frag} {mg : Str → Option Value} {base : Heap} {CT CG Pt f : Addr} {cdv : Value} {A : Around} {outer : List Env} {s : Shared} {H0 H : Hp} {E : XK} {D : Ends} {b c : Addr} {k : Nat}
  {s0 s2 s3 s4 s5 s6 s7 s8 s9 s10 s11 s12 s13 s14 s15 s16 s17 s18 s19 s20 s21 : Option V}
abbrev XL (P : Program) (w : World) (K : PySem.W.Frag) (mg : Str → Option Value) (base : Heap) (f : Addr) (cdv : Value) (A : Around) (outer : List Env) (s : Shared) (H0 : Hp) (E : XK) : Cx := (cxOf CX0 P w K mg base nLaw "law" (defScope sLaw) f cdv A outer s H0 E).nox
theorem seg0 (G : LG P w K mg base CT CG Pt) (hr : Room k (XL P w K mg base f cdv A outer s H0 E).A) (hk : 11 ≤ k) (hB : BagAt H b c) (hT : LamX.Tabs (TT Pt) H)
    (next : ∀ L ∈ lamps7, ∀ M ∈ names3, ∀ (g : Wd → Bool) q t u s4 s6 H2, H2 q = some (.lst (((setsOf L).filter g).map VS)) → TreeAt CT CG L ((setsOf L).filter g) H2 t → TreeAt CT CG L (oppM L ((setsOf L).filter g)) H2 u → BagAt H2 b c → LamX.Tabs (TT Pt) H2 →
      wB (XL P w K mg base f cdv A outer s H0 E) (lawB.drop 4) D [s0, some (.ref b), s2, some (VS L), s4, some (.ref q), s6, some (VS (M.take L.length)), some (.ref t), some (.ref u), s10, s11, s12, s13, s14, s15, s16, s17, s18, s19, s20, s21] H2) :
    wB (XL P w K mg base f cdv A outer s H0 E) lawB D [s0, some (.ref b), s2, s3, s4, s5, s6, s7, s8, s9, s10, s11, s12, s13, s14, s15, s16, s17, s18, s19, s20, s21] H := by
  obtain ⟨fl, gl_, GLa⟩ := G.lamps
  obtain ⟨fa, ga_, GA⟩ := G.aim
  obtain ⟨fg, gg_, GG⟩ := G.goal
  obtain ⟨ft, gt_, GT⟩ := G.tree
  obtain ⟨fi, gi_, GI⟩ := G.inv
  obtain ⟨fo, go_, GO⟩ := G.of
  refine b_cons (s_set 3 scLaw.nd (w_call GLa hr (by omega) (a_cons (w_var 1 rfl (a_cons (w_int (a_nil ⟨b, c, rfl, hB, fun L hL H2 ex2 => ?_⟩)))))))
  have hT2 := tabs_exb ex2.1 hB.lstAt hT
  have gl := goodL_of (good7 L hL).1
  have hlen := gl.len
  refine b_cons (s_tup2 4 5 scLaw.nd rfl rfl (.inl rfl) (.inl rfl) (.inr rfl) (.inr rfl) (w_call GA hr (by omega) (a_cons (w_var 1 rfl (a_cons (w_var 3 rfl (a_nil ⟨b, c, L, rfl, ex2.2, gl, hT2, fun p q v g n H3 fq nq hp hq hS hn ex3 hB3 hT3 => ⟨p, _, _, rfl, SqT.of hp, ?_⟩⟩)))))))
  have e1 : ("pqr" : Str) = S [112, 113, 114] := by decide +kernel
  have e2 : ("dnz" : Str) = S [100, 110, 122] := by decide +kernel
  have e3 : ("klm" : Str) = S [107, 108, 109] := by decide +kernel
  refine b_cons (s_swap2 6 7 scLaw.nd rfl rfl rfl rfl (w_tup (a_cons (w_mkGoal GG hr (by omega) (w_var 3 rfl (w_var 4 rfl ⟨L, g, n, rfl, gl, hS, hn, fun a H4 ex4 hG => ?_⟩))))))
  refine a_cons (w_cutS (w_call GO hr (by omega) (a_cons (w_var 1 rfl (a_cons (w_lst (a_cons (w_str (a_cons (w_str (a_cons (w_str (a_nil ⟨by show 3 ≤ sizeLine; decide, fun p5 hp5 => ?_⟩)))))))))))) )
  have ex5 : Ex H4 (upd H4 p5 (.lst [V.str "pqr", V.str "dnz", V.str "klm"])) := Ex.new hp5
  have hB4 := hB3.ex ex4
  have hB5 := hB4.ex ex5
  have n5 : p5 ≠ b := fun e => by obtain ⟨xs, h⟩ := hB4.lstAt; rw [e, h] at hp5; cases hp5
  refine a_nil ⟨b, c, .ref p5, rfl, hB5, .inr ⟨p5, names3, rfl, n5, by rw [upd_same, e1, e2, e3]; rfl, by decide, by decide, fun M hM H6 ex6 => ?_⟩⟩
  have hM3 : M.length ≤ 100000 := by
    have : ∀ M ∈ names3, M.length ≤ 100000 := by decide
    exact this M hM
  refine w_lenS G.B.len (w_var 3 rfl ⟨L, rfl, by omega, M, L.length, rfl, rfl, hM3, a_nil ⟨by show 2 ≤ sizeLine; decide, fun p7 hp7 => ⟨p7, _, _, rfl, SqT.of upd_same, ?_⟩⟩⟩)
  have hq6 : H6 q = some (.lst (((setsOf L).filter g).map VS)) := ex6.1 _ _ nq (ex5 _ _ (ex4 _ _ hq))
  have hG6 := ((hG.ex ex5).bag ex6.1 hB5.lstAt)
  have hT6 := tabs_exb ex6.1 hB5.lstAt (tabs_ex ex5 (tabs_ex ex4 hT3))
  have ex7 : Ex H6 (upd H6 p7 (.tup [.ref a, VS (M.take L.length)])) := Ex.new hp7
  refine b_cons (s_tup2 8 9 scLaw.nd rfl rfl (.inr rfl) (.inl rfl) (.inl rfl) (.inr rfl) (w_tup (a_cons (w_mkTree GT hr (by omega) (w_var 6 rfl ⟨a, L, (setsOf L).filter g, rfl, gl, hG6.ex ex7, fun t H9 ex9 hT9 => ?_⟩)))))
  have hG9 := (hG6.ex ex7).ex ex9
  obtain ⟨dx, fs, hg9⟩ := hG9.ins
  refine a_cons (w_mkTree GT hr (by omega) (w_un (un_inv GI hr (by omega)) (w_var 6 rfl ⟨a, dx, fs, rfl, hg9, a, L, (setsOf L).filter g, rfl, hG9, gl, fun y H10 hy ex10 hG10 => ⟨y, L, _, rfl, gl, hG10, fun u H11 ex11 hT11 => a_nil ⟨by show 2 ≤ sizeLine; decide, fun p hp => ⟨p, _, _, rfl, SqT.of upd_same, ?_⟩⟩⟩⟩)))
  have ex12 : Ex H11 (upd H11 p (.tup [.ref t, .ref u])) := Ex.new hp
  have exA := (((ex7.trans ex9).trans ex10).trans ex11).trans ex12
  exact next L hL M hM g q t u _ _ _ (exA _ _ hq6) (((hT9.ex ex10).ex ex11).ex ex12) (hT11.ex ex12) (ex6.2.ex exA) (tabs_ex exA hT6)
end
end RG

end

section
set_option Elab.async false
set_option linter.all false
set_option maxRecDepth 100000
set_option maxHeartbeats 4000000
namespace RG
open PySem L2 Evl
section
variable {P : Program} {w : World} {K : PySem.W.Frag} {mg : Str → Option Value} {base : Heap} {CT CG Pt f : Addr} {cdv : Value} {A : Around} {outer : List Env} {s : Shared} {H0 H : Hp} {E : XK} {D : Ends} {b c q t u : Addr} {k : Nat} {L N : Wd} {O : List Wd}
  {s0 s2 s3 s4 s5 s6 s7 s8 s9 s10 s11 s12 s13 s14 s15 s16 s17 s18 s19 s20 s21 : Option V}
theorem seg1 (G : LG P w K mg base CT CG Pt) (hr : Room k (XL P w K mg base f cdv A outer s H0 E).A) (hk : 11 ≤ k) (gl : GoodL L) (hTt : TreeAt CT CG L O H t) (hTu : TreeAt CT CG L (oppM L O) H u)
    (next : ∀ H', Ex H H' → wB (XL P w K mg base f cdv A outer s H0 E) (lawB.drop 6) D [s0, some (.ref b), s2, some (VS L), s4, some (.ref q), s6, some (VS N), some (.ref t), some (.ref u), s10, s11, s12, s13, s14, s15, s16, s17, s18, s19, s20, s21] H') :
    wB (XL P w K mg base f cdv A outer s H0 E) (lawB.drop 4) D [s0, some (.ref b), s2, some (VS L), s4, some (.ref q), s6, some (VS N), some (.ref t), some (.ref u), s10, s11, s12, s13, s14, s15, s16, s17, s18, s19, s20, s21] H := by
  obtain ⟨fw, gw_, GW⟩ := G.worth
  obtain ⟨fh, gh_, GH⟩ := G.height
  obtain ⟨fb, gb_, GB⟩ := G.from_
  obtain ⟨pp, fp_, gp_, GL⟩ := G.prop
  obtain ⟨fn, GG⟩ := G.branches
  have hself := self_mem_setsOf L
  obtain ⟨du, fu, gu, u1, u2, u3, u4, u5, u6, u7, u8, u9⟩ := hTu.goal
  obtain ⟨dt, ft, gt, t1, t2, t3, t4, t5, t6, t7, t8, t9⟩ := hTt.goal
  refine b_cons (s_if (t_or (u_or (t_ne_same hr (w_lst (a_cons (w_meth GW G.CTc.cls hr (by omega) (w_var 9 rfl ⟨u, du, fu, rfl, u1, u7, a_cons (w_int (a_nil ⟨u, L, _, 2, rfl, .inr rfl, gl, hTu, fun H1 ex1 => ?_⟩))⟩))))))))
  refine a_cons (w_meth GW G.CTc.cls hr (by omega) (w_var 9 rfl ⟨u, du, fu, rfl, ex1 _ _ u1, u7, a_cons (w_int (a_nil ⟨u, L, _, 1, rfl, .inl rfl, gl, hTu.ex ex1, fun H2 ex2 => a_nil ⟨by show 2 ≤ sizeLine; decide, fun p hp => ?_⟩⟩))⟩))
  have exp : Ex H _ := (ex1.trans ex2).trans (Ex.new (o := .lst [V.int (worthM (oppM L O) (decide ((2 : Int) = 1)) 4 L), V.int (worthM (oppM L O) (decide ((1 : Int) = 1)) 4 L)]) hp)
  refine w_lst (a_cons (w_meth GW G.CTc.cls hr (by omega) (w_var 8 rfl ⟨t, dt, ft, rfl, exp _ _ t1, t7, a_cons (w_int (a_nil ⟨t, L, _, 1, rfl, .inl rfl, gl, hTt.ex exp, fun H3 ex3 => ?_⟩))⟩)))
  refine a_cons (w_meth GW G.CTc.cls hr (by omega) (w_var 8 rfl ⟨t, dt, ft, rfl, ex3 _ _ (exp _ _ t1), t7, a_cons (w_int (a_nil ⟨t, L, _, 2, rfl, .inr rfl, gl, (hTt.ex exp).ex ex3, fun H4 ex4 => a_nil ⟨by show 2 ≤ sizeLine; decide, fun p2 hp2 => ?_⟩⟩))⟩))
  have exq := (ex3.trans ex4).trans (Ex.new (o := .lst [V.int (worthM O (decide ((1 : Int) = 1)) 4 L), V.int (worthM O (decide ((2 : Int) = 1)) 4 L)]) hp2)
  have x1 : decide ((1 : Int) = 1) = true := rfl
  have x2 : decide ((2 : Int) = 1) = false := rfl
  refine ⟨.list [.int (worthM O true 4 L), .int (worthM O false 4 L)], 1, ?_, ?_, fine_lst fun d hd => ?_, by decide, iteF (u_or1 ?_)⟩
  · refine .lst (SqL.of (exq _ _ upd_same)) ?_
    rw [x1, x2, opp_worth false 4 L hself, opp_worth true 4 L hself]
    exact .cons (.int _) (.cons (.int _) .nil)
  · refine .lst (SqL.of upd_same) ?_
    rw [x1, x2]
    exact .cons (.int _) (.cons (.int _) .nil)
  · rcases List.mem_cons.mp hd with rfl | hd
    · exact fine_int
    · rw [List.mem_singleton.mp hd]
      exact fine_int
  have exr := exp.trans exq
  refine t_ne_same hr (w_meth0 GH G.CTc.cls hr (by omega) (w_var 9 rfl ⟨u, du, fu, rfl, exr _ _ u1, u6, u, L, _, rfl, gl, hTu.ex exr, fun H5 ex5 => w_meth0 GH G.CTc.cls hr (by omega) (w_var 8 rfl ⟨t, dt, ft, rfl, ex5 _ _ (exr _ _ t1), t6, t, L, _, rfl, gl, (hTt.ex exr).ex ex5, fun H6 ex6 => ⟨.int (heightM O 4 L), 1, ?_, .int _, fine_int, by decide, iteF (b_nil ?_)⟩⟩)⟩))
  · rw [opp_height]
    exact .int _
  have exs := (exr.trans ex5).trans ex6
  obtain ⟨d, hd1, hd2⟩ := branch_data (K := K) gl (branchesM O 4 L) (branch_mem O L 4 L hself)
  refine b_cons (s_if (t_ne_same hr (w_lcGen 17 scLaw.nd (blkOk_by (N := nLaw) (sc := defScope sLaw) (by decide +kernel)) hr (by omega) G.Cg G.CTc GB GL GG (w_var 9 rfl ⟨u, L, oppM L O, id, rfl, gl, hTu.ex exs, fun br hb a H' ex ha R hR s0 H0 C cl fp => w_var 17 rfl (hR a H' (Ex.refl _) ha), fun p3 H7 hp3 ex7 hbr => ?_⟩))))
  refine w_lcGen 17 scLaw.nd (blkOk_by (N := nLaw) (sc := defScope sLaw) (by decide +kernel)) hr (by omega) G.Cg G.CTc GB GL GG (w_var 8 rfl ⟨t, L, O, id, rfl, gl, (hTt.ex exs).ex ex7, fun br hb a H' ex ha R hR s0 H0 C cl fp => w_var 17 rfl (hR a H' (Ex.refl _) ha), fun p4 H8 hp4 ex8 hbr2 => ⟨d, 2, hd2 _ _ ?_, hd2 _ _ ?_, hd1, by decide, iteF (b_nil (next H8 ((exs.trans ex7).trans ex8)))⟩⟩)
  · rw [List.map_id, opp_branches 4 L hself] at hbr
    exact hbr.ex ex8
  · rw [List.map_id] at hbr2
    exact hbr2
end
end RG

end

section
set_option Elab.async false
set_option linter.all false
set_option maxRecDepth 100000
set_option maxHeartbeats 4000000
namespace RG
open PySem L2 Evl PyProof.Rows
theorem paired_tab {K : PySem.W.Frag} {H : Hp} : ∀ (qs : List (Addr × Nat × Nat)), (∀ q ∈ qs, H q.1 = some (.tup [VS [q.2.1], VS [q.2.2]])) → Paired (fun p kv => SqT K H p [kV kv.1, kv.2]) (qs.map (·.1)) ((qs.map (·.2)).map fun q => ((kS [q.1], VS [q.2]) : Key × V))
  | [], _ => .nil
  | q :: r, h => .cons (SqT.of (h q List.mem_cons_self)) (paired_tab r fun x hx => h x (List.mem_cons_of_mem _ hx))
section
variable {P : Program} {w : World} {K : PySem.W.Frag} {mg : Str → Option Value} {base : Heap} {CT CG Pt f : Addr} {cdv : Value} {A : Around} {outer : List Env} {s : Shared} {H0 H : Hp} {E : XK} {D : Ends} {b c q t u : Addr} {k : Nat} {L M : Wd} {O : List Wd}
  {s0 s2 s3 s4 s5 s6 s7 s8 s9 s10 s11 s12 s13 s14 s15 s16 s17 s18 s19 s20 s21 : Option V}
theorem seg2 (G : LG P w K mg base CT CG Pt) (hr : Room k (XL P w K mg base f cdv A outer s H0 E).A) (hk : 11 ≤ k) (hL : L ∈ lamps7) (hM : M ∈ names3) (hO : ∀ s ∈ O, s ∈ setsOf L) (hOl : O.length ≤ 8) (hq : H q = some (.lst (O.map VS))) (hTt : TreeAt CT CG L O H t)
    (next : ∀ d p tt r H', Ex H H' → TreeAt CT CG (M.take L.length) ((setsOf (M.take L.length)).filter (O.map (·.map (rho L (M.take L.length)))).contains) H' tt → wB (XL P w K mg base f cdv A outer s H0 E) (lawB.drop 11) D [s0, some (.ref b), s2, some (VS L), s4, some (.ref q), s6, some (VS (M.take L.length)), some (.ref t), s9, some (.ref d), some (.ref p), some (.ref tt), some (.ref r), s14, s15, s16, s17, s18, s19, s20, s21] H') :
    wB (XL P w K mg base f cdv A outer s H0 E) (lawB.drop 6) D [s0, some (.ref b), s2, some (VS L), s4, some (.ref q), s6, some (VS (M.take L.length)), some (.ref t), s9, s10, s11, s12, s13, s14, s15, s16, s17, s18, s19, s20, s21] H := by
  obtain ⟨fb, gb_, GB⟩ := G.from_
  obtain ⟨pp, fp_, gp_, GL⟩ := G.prop
  obtain ⟨fn, GG⟩ := G.branches
  obtain ⟨fr, gr_, GR⟩ := G.renamed
  obtain ⟨fg, gg_, GG1⟩ := G.goal
  obtain ⟨ft, gt_, GT⟩ := G.tree
  have gl := goodL_of (good7 L hL).1
  have glN := goodL_of ((good7 L hL).2.2 M hM)
  have hlen := gl.len
  have hself := self_mem_setsOf L
  obtain ⟨hmono, halike⟩ := ren7 hL hM O hO
  have hren := (rho7 L hL M hM).1
  have htab := table7 L hL M hM
  generalize hN : M.take L.length = N at *
  generalize hρ : rho L N = ρ at *
  have hss : ∀ z ∈ setsOf L, z.map ρ ∈ setsOf N := fun z hz => by
    rw [← hren, sets_map hmono hself]
    exact List.mem_map.mpr ⟨z, hz, rfl⟩
  have hz100 : ∀ z ∈ setsOf L, z.length ≤ 100 := fun z hz => by
    have := mem_len4 gl hz
    omega
  refine b_cons (s_set 10 scLaw.nd (w_callTy (call_dictP rfl) G.B.dict (by decide +kernel) (a_cons (w_lcZT 18 19 (by decide) scLaw.nd (blkOk_by (N := nLaw) (sc := defScope sLaw) (by decide +kernel)) rfl G.B.zip (a_cons (w_var 3 rfl (a_cons (w_var 7 rfl (a_nil ⟨L, N, rfl, by omega, fun c d H' R hR s0 H0 C cl fp => w_tup (a_cons (w_var 18 rfl (a_cons (w_var 19 rfl (a_nil ⟨by show 2 ≤ sizeLine; decide, hR⟩))))), fun p H1 qs hp ex1 h1 h2 h3 => ?_⟩))))) rfl rfl))))
  refine a_nil ⟨p, qs.map (·.1), kvsOf L N, rfl, SqL.of (by rw [h1, List.map_map]; rfl), ?_, fun d hd => ?_⟩
  · have := paired_tab (K := K) qs h3
    rw [h2] at this
    exact this
  have ex2 : Ex H1 (upd H1 d (.dK (mergeK [] (kvsOf L N)))) := Ex.new hd
  have hd2 : (upd H1 d (.dK (mergeK [] (kvsOf L N)))) d = some (.dK (mergeK [] (kvsOf L N))) := upd_same
  generalize upd H1 d (.dK (mergeK [] (kvsOf L N))) = H2 at ex2 hd2
  have exA := ex1.trans ex2
  -- fresh
  refine b_cons (s_setLc 11 20 scLaw.nd rfl rfl (sw_true rfl rfl rfl (by decide +kernel)) (blkOk_by (N := nLaw) (sc := defScope sLaw) (by decide +kernel)) (w_var 5 rfl ⟨q, _, rfl, SqL.of (exA _ _ hq), ?_⟩))
  refine lcMap O VS (fun z => VS (z.map ρ)) (small_lt (by omega)) (fun z hz H' ex R kk => ?_) (fun p3 H3 hp3 ex3 h3 => ?_)
  · intro s0 H0 C cl fp
    exact w_call GR hr (by omega) (a_cons (w_var 10 rfl (a_cons (w_var 20 rfl (a_nil ⟨d, _, ρ, z, rfl, ex _ _ hd2, hz100 z (hO z hz), fun c hc => htab c (sub_mem (hO z hz) c hc), kk⟩)))))
  have hs3 : SqL K H3 p3 ((O.map (·.map ρ)).map VS) := SqL.of (by rw [h3, List.map_map]; rfl)
  have exB := exA.trans ex3
  -- late
  refine b_cons (s_set 12 scLaw.nd (w_mkTree GT hr (by omega) (w_mkGoal GG1 hr (by omega) (w_var 7 rfl (w_setsTup G.B fun H4 ex4 => w_var 11 rfl ⟨p3, (O.map fun z => List.map ρ z), N, rfl, Ex.refl _, ex_l ex4 hs3, by rw [List.length_map]; omega, fun z hz => ?_, fun x H5 ex5 hS => ⟨N, (O.map (·.map ρ)).contains, 1, rfl, glN, hS, by decide, fun g H6 ex6 hG => ⟨g, N, _, rfl, glN, hG, fun tt H7 ex7 hT => ?_⟩⟩⟩)))))
  · obtain ⟨y, hy, rfl⟩ := List.mem_map.mp hz
    exact hss y (hO y hy)
  have exC := (((exB.trans ex4).trans ex5).trans ex6).trans ex7
  have exC2 := (((ex3.trans ex4).trans ex5).trans ex6).trans ex7
  -- rows
  refine b_cons (s_setLcGen 13 rfl rfl 17 scLaw.nd (blkOk_by (N := nLaw) (sc := defScope sLaw) (by decide +kernel)) hr (by omega) G.Cg G.CTc GB GL GG (sw_true rfl rfl rfl (by decide +kernel)) (w_var 8 rfl ⟨t, L, O, fun br => br.map (·.map ρ), rfl, gl, hTt.ex exC, fun br hb a H' ex ha R hR s0 H0 C cl fp => ?_, fun r H8 hr8 ex8 hbr => ?_⟩))
  · have hb1 : ∀ z ∈ br, z ∈ setsOf L := branch_mem O L 4 L hself br hb
    have hb2 := (len_branch O 4 L br hb).2
    refine w_callTy call_tuple_of G.B.tuple (by decide +kernel) (a_cons (w_lcT 20 scLaw.nd (blkOk_by (N := nLaw) (sc := relS _ (defScope sLaw)) (by decide +kernel)) (w_var 17 rfl ⟨a, _, rfl, SqT.of ha, lcMap br VS (fun z => VS (z.map ρ)) (small_lt (by omega)) (fun z hz H' ex' R kk s1 H1 C1 cl1 fp1 => ?_) (fun p5 H5 hp5 ex5 h5 => a_nil ⟨p5, _, rfl, .inl ⟨SqL.of h5, fun p6 hp6 => hR p6 _ (ex5.trans (Ex.new hp6)) (by rw [upd_same, List.map_map]; rfl)⟩⟩)⟩)))
    exact w_call GR hr (by omega) (a_cons (w_var 10 rfl (a_cons (w_var 20 rfl (a_nil ⟨d, _, ρ, z, rfl, ex' _ _ (ex _ _ (exC2 _ _ hd2)), hz100 z (hb1 z hz), fun c hc => htab c (sub_mem (hb1 z hz) c hc), kk⟩)))))
  -- the branches
  have hbrs := ren_branches hmono halike 4 L hself
  rw [hren] at hbrs
  obtain ⟨bd, hd1, hd3⟩ := branch_data (K := K) glN _ (branch_mem ((setsOf N).filter (O.map (·.map ρ)).contains) N 4 N (self_mem_setsOf N))
  refine b_cons (s_if (t_ne_same hr (w_lcGen 17 scLaw.nd (blkOk_by (N := nLaw) (sc := defScope sLaw) (by decide +kernel)) hr (by omega) G.Cg G.CTc GB GL GG (w_var 12 rfl ⟨tt, N, _, id, rfl, glN, hT.ex ex8, fun br hb a H' ex ha R hR s0 H0 C cl fp => w_var 17 rfl (hR a H' (Ex.refl _) ha), fun p9 H9 hp9 ex9 hbr9 => ?_⟩))))
  rw [List.map_id] at hbr9
  rw [← hbrs] at hbr
  exact w_var 13 rfl ⟨bd, 2, hd3 _ _ hbr9, hd3 _ _ (hbr.ex ex9), hd1, by decide, iteF (b_nil (next d p3 tt r H9 ((exC.trans ex8).trans ex9) ((hT.ex ex8).ex ex9)))⟩
end
end RG

end

section
set_option Elab.async false
set_option linter.all false
set_option maxRecDepth 100000
set_option maxHeartbeats 4000000
namespace RG
open PySem L2 Evl PyProof.Rows
theorem worths_dp {K : PySem.W.Frag} {H : Hp} {p : Addr} (W : Int → Int) (h : H p = some (.lst ([(1 : Int), 2].map fun h => V.int (W h)))) : Dp K H (.ref p) (.list [.int (W 1), .int (W 2)]) := .lst (SqL.of h) (.cons (.int _) (.cons (.int _) .nil))
theorem fine_two {x y : Int} : Fine 1 (.list [.int x, .int y]) := fine_lst fun d hd => by
  rcases List.mem_cons.mp hd with rfl | hd
  · exact fine_int
  · rw [List.mem_singleton.mp hd]
    exact fine_int
theorem xyz7 : ∀ L ∈ lamps7, decide (V.str (S L) = V.str "xyz") = decide (L = [120, 121, 122]) := by decide +kernel
section
variable {P : Program} {w : World} {K : PySem.W.Frag} {mg : Str → Option Value} {base : Heap} {CT CG Pt f : Addr} {cdv : Value} {A : Around} {outer : List Env} {s : Shared} {H0 H : Hp} {E : XK} {D : Ends} {b c q t tt u : Addr} {k : Nat} {L M : Wd} {O : List Wd}
  {s0 s2 s3 s4 s5 s6 s7 s8 s9 s10 s11 s12 s13 s14 s15 s16 s17 s18 s19 s20 s21 : Option V}
theorem seg3 (G : LG P w K mg base CT CG Pt) (hr : Room k (XL P w K mg base f cdv A outer s H0 E).A) (hk : 11 ≤ k) (hL : L ∈ lamps7) (hM : M ∈ names3) (hO : ∀ s ∈ O, s ∈ setsOf L) (hOl : O.length ≤ 8) (hq : H q = some (.lst (O.map VS))) (hTt : TreeAt CT CG L O H t)
    (hTl : TreeAt CT CG (M.take L.length) ((setsOf (M.take L.length)).filter (O.map (·.map (rho L (M.take L.length)))).contains) H tt)
    (next : ∀ s14 s15 s16 H', Ex H H' → D.nx [s0, some (.ref b), s2, some (VS L), s4, some (.ref q), s6, s7, some (.ref t), s9, s10, s11, some (.ref tt), s13, s14, s15, s16, s17, s18, s19, s20, s21] H') :
    wB (XL P w K mg base f cdv A outer s H0 E) (lawB.drop 11) D [s0, some (.ref b), s2, some (VS L), s4, some (.ref q), s6, s7, some (.ref t), s9, s10, s11, some (.ref tt), s13, s14, s15, s16, s17, s18, s19, s20, s21] H := by
  obtain ⟨fw, gw_, GW⟩ := G.worth
  obtain ⟨fu_, gu_, GU⟩ := G.union
  obtain ⟨fg, gg_, GG1⟩ := G.goal
  obtain ⟨ft_, gt_, GT⟩ := G.tree
  have gl := goodL_of (good7 L hL).1
  have glN := goodL_of ((good7 L hL).2.2 M hM)
  have glW := goodL_of (good7 L hL).2.1
  have hlen := gl.len
  have hself := self_mem_setsOf L
  obtain ⟨hmono, halike⟩ := ren7 hL hM O hO
  have hren := (rho7 L hL M hM).1
  have I7 := idle7 L hL
  have K7 := idle7a hL O hO
  generalize hN : M.take L.length = N at *
  generalize hρ : rho L N = ρ at *
  generalize hO' : (setsOf N).filter (O.map (·.map ρ)).contains = O' at *
  generalize hO3 : (setsOf (wideM L)).filter (O ++ O.map (insM L)).contains = O3 at *
  have hw1 : ∀ one, worthM O' one 4 N = worthM O one 4 L := fun one => by
    have := ren_worth hmono halike one 4 L hself
    rw [hren] at this
    exact this
  have hw3 : ∀ one, worthM O3 one 4 (wideM L) = worthM O one 4 L := fun one => by
    have := idle_worth I7 K7 one 4 L hself
    rw [I7.top] at this
    exact this
  obtain ⟨dl, fl, gll, l1, l2, l3, l4, l5, l6, l7, l8, l9⟩ := hTl.goal
  obtain ⟨dt, ft, gt, t1, t2, t3, t4, t5, t6, t7, t8, t9⟩ := hTt.goal
  refine b_cons (s_if (t_ne_same hr (w_lcT 21 scLaw.nd (blkOk_by (N := nLaw) (sc := defScope sLaw) (by decide +kernel)) (w_tup (a_cons (w_int (a_cons (w_int (a_nil ⟨by show 2 ≤ sizeLine; decide, fun p hp => ⟨p, _, rfl, SqT.of upd_same, lcMap [(1 : Int), 2] V.int (fun h => V.int (worthM O' (decide (h = 1)) 4 N)) (small_lt (by decide)) (fun h hh H' ex R kk s0 H0 C cl fp => w_meth GW G.CTc.cls hr (by omega) (w_var 12 rfl ⟨tt, dl, fl, rfl, ex _ _ (Ex.new hp _ _ (l1)), l7, a_cons (w_var 21 rfl (a_nil ⟨tt, N, _, h, rfl, (by simpa using hh), glN, (hTl.ex (Ex.new hp)).ex ex, kk⟩))⟩)) (fun p2 H2 hp2 ex2 h2 => ?_)⟩⟩)))))))))
  have exa := (Ex.new (o := .tup [V.int 1, V.int 2]) hp).trans ex2
  generalize upd H p (.tup [V.int 1, V.int 2]) = Hx at *
  refine w_lcT 21 scLaw.nd (blkOk_by (N := nLaw) (sc := defScope sLaw) (by decide +kernel)) (w_tup (a_cons (w_int (a_cons (w_int (a_nil ⟨by show 2 ≤ sizeLine; decide, fun p3 hp3 => ⟨p3, _, rfl, SqT.of upd_same, lcMap [(1 : Int), 2] V.int (fun h => V.int (worthM O (decide (h = 1)) 4 L)) (small_lt (by decide)) (fun h hh H' ex R kk s0 H0 C cl fp => w_meth GW G.CTc.cls hr (by omega) (w_var 8 rfl ⟨t, dt, ft, rfl, ex _ _ (Ex.new hp3 _ _ (exa _ _ t1)), t7, a_cons (w_var 21 rfl (a_nil ⟨t, L, _, h, rfl, (by simpa using hh), gl, ((hTt.ex exa).ex (Ex.new hp3)).ex ex, kk⟩))⟩)) (fun p4 H4 hp4 ex4 h4 => ?_)⟩⟩))))))
  have exb := exa.trans ((Ex.new (o := .tup [V.int 1, V.int 2]) hp3).trans ex4)
  have h2' := ((Ex.new (o := .tup [V.int 1, V.int 2]) hp3).trans ex4) _ _ h2
  simp only [hw1] at h2'
  refine ⟨_, 1, worths_dp (fun h => worthM O (decide (h = 1)) 4 L) h2', worths_dp (fun h => worthM O (decide (h = 1)) 4 L) h4, fine_two, by decide, iteF (b_nil ?_)⟩
  clear h2' h2 h4
  generalize upd H2 p3 (.tup [V.int 1, V.int 2]) = Hy at *
  have hT4 := hTt.ex exb
  have hq4 := exb _ _ hq
  have t14 := exb _ _ t1
  -- wide
  have wide : ∀ {H5 : Hp} {D5 : Ends}, (D5.nx [s0, some (.ref b), s2, some (VS L), s4, some (.ref q), s6, s7, some (.ref t), s9, s10, s11, some (.ref tt), s13, some (VS (wideM L)), s15, s16, s17, s18, s19, s20, s21] H5) → wS (XL P w K mg base f cdv A outer s H0 E) (lawB.getD 12 (.Pass ⟨0, 0, 0, 0⟩)) D5 [s0, some (.ref b), s2, some (VS L), s4, some (.ref q), s6, s7, some (.ref t), s9, s10, s11, some (.ref tt), s13, s14, s15, s16, s17, s18, s19, s20, s21] H5 := fun {H5 D5} hn => by
    refine s_set 14 scLaw.nd (w_if (t_eqw (w_var 3 rfl ⟨S L, rfl, ?_⟩)))
    rw [xyz7 L hL]
    have e1 : ("wxyz" : Str) = S [119, 120, 121, 122] := by decide +kernel
    have e2 : ("z" : Str) = S [122] := by decide +kernel
    by_cases hx : L = [120, 121, 122]
    · refine ite_yes (decide_eq_true hx) (w_str ?_)
      have ew : wideM L = [119, 120, 121, 122] := by rw [hx]; rfl
      rw [ew] at hn
      rw [e1]
      exact hn
    · refine ite_no (decide_eq_false hx) (w_add_str (w_var 3 rfl (w_str ⟨L, [122], rfl, by rw [e2], by simp only [List.length_singleton]; omega, ?_⟩)))
      have ew : wideM L = L ++ [122] := by unfold wideM; rw [if_neg hx]
      rw [ew] at hn
      exact hn
  refine b_cons (wide ?_)
  -- more
  refine b_cons (s_setLc 15 20 scLaw.nd rfl rfl (sw_true rfl rfl rfl (by decide +kernel)) (blkOk_by (N := nLaw) (sc := defScope sLaw) (by decide +kernel)) (w_var 5 rfl ⟨q, _, rfl, SqL.of hq4, ?_⟩))
  refine lcMap O VS (fun z => VS (insM L z)) (small_lt (by omega)) (fun z hz H' ex R kk => ?_) (fun p5 H5 hp5 ex5 h5 => ?_)
  · intro s0 H0 C cl fp
    have fin : ∀ p H6, H6 p = none → Ex H' H6 → spUnion [.ref p] (upd H6 p (.lst [VS z, VS (zM L)])) (fun v H7 => R v H7) E0 := fun p H6 hp6 ex6 => ⟨p, [z, zM L], rfl, upd_same, by show 2 ≤ 100; decide, fun H7 ex7 => by
      rw [union7 L hL z (hO z hz)]
      exact kk _ ((ex6.trans (Ex.new hp6)).trans ex7)⟩
    refine w_call GU hr (by omega) (a_cons (w_lst (a_cons (w_var 20 rfl (a_cons (w_if (t_eqw (w_var 3 rfl ⟨S L, rfl, ?_⟩)))))))) 
    rw [xyz7 L hL]
    have e2 : ("z" : Str) = S [122] := by decide +kernel
    by_cases hx : L = [120, 121, 122]
    · have ew : wideM L = [119, 120, 121, 122] := by rw [hx]; rfl
      have ez : zM L = [119] := by rw [hx]; rfl
      rw [ez] at fin
      refine ite_yes (decide_eq_true hx) (w_ix ix_str (w_var 14 rfl (w_int ⟨S (wideM L), 0, 119, rfl, rfl, by rw [S_len, ew]; exact small_line (by decide), by rw [S_list, ew]; rfl, a_nil ⟨by show 2 ≤ sizeLine; decide, fun p hp => a_nil (fin p _ hp (Ex.refl _))⟩⟩)))
    · have ez : zM L = [122] := by unfold zM; rw [if_neg hx]
      rw [ez] at fin
      refine ite_no (decide_eq_false hx) (w_str (a_nil ⟨by show 2 ≤ sizeLine; decide, fun p hp => a_nil ?_⟩))
      rw [e2]
      exact fin p _ hp (Ex.refl _)
  -- idle
  have h5' : H5 p5 = some (.lst ((O.map (insM L)).map VS)) := by rw [h5, List.map_map]; rfl
  refine b_cons (s_set 16 scLaw.nd (w_mkTree GT hr (by omega) (w_mkGoal GG1 hr (by omega) (w_var 14 rfl (w_setsTup G.B fun H6 ex6 => w_op op_cat (w_var 5 rfl (w_var 15 rfl ⟨q, p5, _, _, rfl, rfl, ex6 _ _ (ex5 _ _ hq4), ex6 _ _ h5', by rw [List.length_map, List.length_map, List.length_map]; exact small_line (by omega), fun r hr6 => ⟨r, O ++ O.map (insM L), wideM L, rfl, Ex.new hr6, SqL.of (by rw [upd_same, List.map_append]), by rw [List.length_append, List.length_map]; omega, fun z hz => ?_, fun x H7 ex7 hS => ⟨wideM L, (O ++ O.map (insM L)).contains, 1, rfl, glW, hS, by decide, fun g H8 ex8 hG => ⟨g, wideM L, _, rfl, glW, hG, fun ti H9 ex9 hT => ?_⟩⟩⟩⟩)))))))
  · rw [← I7.top]
    rcases List.mem_append.mp hz with h | h
    · exact (I7.subB L hself z (hO z h)).1
    · obtain ⟨y, hy, rfl⟩ := List.mem_map.mp h
      exact (I7.subB L hself y (hO y hy)).2
  have exc := ((((ex5.trans ex6).trans (Ex.new (o := .lst (O.map VS ++ (O.map (insM L)).map VS)) hr6)).trans ex7).trans ex8).trans ex9
  have hT9 := hT4.ex exc
  have t19 := exc _ _ t14
  have exd := exb.trans exc
  rw [hO3] at hT
  obtain ⟨di, fi, gi, i1, i2, i3, i4, i5, i6, i7, i8, i9⟩ := hT.goal
  refine b_one (s_if (t_ne_same hr (w_lcT 21 scLaw.nd (blkOk_by (N := nLaw) (sc := defScope sLaw) (by decide +kernel)) (w_tup (a_cons (w_int (a_cons (w_int (a_nil ⟨by show 2 ≤ sizeLine; decide, fun p hp => ⟨p, _, rfl, SqT.of upd_same, lcMap [(1 : Int), 2] V.int (fun h => V.int (worthM O3 (decide (h = 1)) 4 (wideM L))) (small_lt (by decide)) (fun h hh H' ex R kk s0 H0 C cl fp => w_meth GW G.CTc.cls hr (by omega) (w_var 16 rfl ⟨ti, di, fi, rfl, ex _ _ (Ex.new hp _ _ (i1)), i7, a_cons (w_var 21 rfl (a_nil ⟨ti, (wideM L), _, h, rfl, (by simpa using hh), glW, (hT.ex (Ex.new hp)).ex ex, kk⟩))⟩)) (fun p2 H10 hp2 ex10 h2 => ?_)⟩⟩)))))))))
  have exa2 := (Ex.new (o := .tup [V.int 1, V.int 2]) hp).trans ex10
  generalize upd H9 p (.tup [V.int 1, V.int 2]) = Hz at *
  refine w_lcT 21 scLaw.nd (blkOk_by (N := nLaw) (sc := defScope sLaw) (by decide +kernel)) (w_tup (a_cons (w_int (a_cons (w_int (a_nil ⟨by show 2 ≤ sizeLine; decide, fun p3 hp3 => ⟨p3, _, rfl, SqT.of upd_same, lcMap [(1 : Int), 2] V.int (fun h => V.int (worthM O (decide (h = 1)) 4 L)) (small_lt (by decide)) (fun h hh H' ex R kk s0 H0 C cl fp => w_meth GW G.CTc.cls hr (by omega) (w_var 8 rfl ⟨t, dt, ft, rfl, ex _ _ (Ex.new hp3 _ _ (exa2 _ _ t19)), t7, a_cons (w_var 21 rfl (a_nil ⟨t, L, _, h, rfl, (by simpa using hh), gl, ((hT9.ex exa2).ex (Ex.new hp3)).ex ex, kk⟩))⟩)) (fun p4 H11 hp4 ex11 h4 => ?_)⟩⟩))))))
  have exe := (Ex.new (o := .tup [V.int 1, V.int 2]) hp3).trans ex11
  have h2' := exe _ _ h2
  simp only [hw3] at h2'
  exact ⟨_, 1, worths_dp (fun h => worthM O (decide (h = 1)) 4 L) h2', worths_dp (fun h => worthM O (decide (h = 1)) 4 L) h4, fine_two, by decide, iteF (b_nil (next _ _ _ H11 ((exd.trans exa2).trans exe)))⟩
end
end RG

end

section
set_option Elab.async false
set_option linter.all false
set_option maxRecDepth 100000
set_option maxHeartbeats 4000000
namespace RG
open PySem L2 Evl PyProof.Rows
theorem len7 : ∀ L ∈ lamps7, (setsOf L).length ≤ 8 := by decide +kernel
section
variable {P : Program} {w : World} {K : PySem.W.Frag} {mg : Str → Option Value} {base : Heap} {CT CG Pt : Addr}
def spLaw (K : PySem.W.Frag) (Pt : Addr) : Sp := fun vs H Q _ => ∃ (a : Addr) (ns : List Int), vs = [.ref a] ∧ SqL K H a (ns.map V.int) ∧ ns.length ≤ 63 ∧ LamX.Tabs (TT Pt) H ∧ ∀ H', Q (.bl true) H'
theorem ok_law {f : Addr} {fd : FuncData} (F : Fun K "law" "law" sLaw f fd) (G : LG P w K mg base CT CG Pt) : FnOk P w K mg base CX0 12 f fd ["_law_script"] (spLaw K Pt) := by
  refine F.ok (k := 11) scLaw (fun vs H Q E h => ?_) (fun cdv A outer s H vs Q E hr h => ?_)
  · obtain ⟨a, ns, rfl, _⟩ := h
    rfl
  obtain ⟨a, ns, rfl, hs, hl, hT, hq⟩ := h
  obtain ⟨fb, gb_, GB⟩ := G.bag
  refine b_cons (s_set 1 scLaw.nd (w_call GB hr (by decide) (a_cons (w_var 0 rfl (a_nil ⟨a, ns, rfl, hs, hl, fun b c H1 hb hc ex1 hB => ?_⟩)))))
  have hT1 := tabs_ex ex1 hT
  refine b_cons (s_for (g := gName 2) (pg_name scLaw.nd rfl (.inl rfl) (.inr rfl)) (i_range1 G.B.range (a_cons (w_int (a_nil ⟨6, rfl, by decide, by decide, 6, _, _, walk_range (lo := 0) (n := 6), fun _ σ' H' => (∃ s0 s2 s3 s4 s5 s6 s7 s8 s9 s10 s11 s12 s13 s14 s15 s16 s17 s18 s19 s20 s21, σ' = [s0, some (.ref b), s2, s3, s4, s5, s6, s7, s8, s9, s10, s11, s12, s13, s14, s15, s16, s17, s18, s19, s20, s21]) ∧ BagAt H' b c ∧ LamX.Tabs (TT Pt) H', ?_, fun _ _ _ _ _ => trivial, ?_, ?_⟩)))))
  · exact ⟨⟨_, _, _, _, _, _, _, _, _, _, _, _, _, _, _, _, _, _, _, _, _, rfl⟩, hB, hT1⟩
  · rintro i x σ' H' H2 hi ⟨⟨s0, s2, s3, s4, s5, s6, s7, s8, s9, s10, s11, s12, s13, s14, s15, s16, s17, s18, s19, s20, s21, rfl⟩, hB', hT'⟩ ⟨rfl, rfl⟩
    refine seg0 G hr (by decide) hB' hT' fun L hL M hM g q t u s4 s6 H3 hq3 hTt hTu hB3 hT3 => ?_
    have hO : ∀ s ∈ (setsOf L).filter g, s ∈ setsOf L := fun s h => (List.mem_filter.mp h).1
    have hOl : ((setsOf L).filter g).length ≤ 8 := Nat.le_trans (List.length_filter_le _ _) (len7 L hL)
    refine seg1 G hr (by decide) (goodL_of (good7 L hL).1) hTt hTu fun H4 ex4 => ?_
    refine seg2 G hr (by decide) hL hM hO hOl (ex4 _ _ hq3) (hTt.ex ex4) fun d p tt r H5 ex5 hTl => ?_
    refine seg3 G hr (by decide) hL hM hO hOl ((ex4.trans ex5) _ _ hq3) (hTt.ex (ex4.trans ex5)) hTl fun s14 s15 s16 H6 ex6 => ?_
    have ex := (ex4.trans ex5).trans ex6
    exact ⟨⟨_, _, _, _, _, _, _, _, _, _, _, _, _, _, _, _, _, _, _, _, _, rfl⟩, hB3.ex ex, tabs_ex ex hT3⟩
  · rintro σ' H' ⟨_, hB', hT'⟩
    exact b_one (s_ret (w_bl (hq H')))
end
end RG

end

section
set_option Elab.async false
set_option linter.all false
set_option maxRecDepth 100000
set_option maxHeartbeats 4000000
namespace RG
open PySem PySem.Spec L2 Evl PyProof.Rows
/-! # the end -/
theorem walk_end {l : PySem.W.OpenLaw} {q : Program} {loose : List Str} {XP : (Str → Option Value) → Heap → Prop} {YP : World → Heap → Prop} {d : DefRec} {K : Params → PySem.W.Frag} (most : l.most = some 63) (nodef : d.params.defaults = []) (isrec : ((recsOf q).find? fun e => e.name == ("_law_sets" : Str)).isSome = true)
    (inK : ∀ (w : World) (h : Heap), YP w h → (K w.params).In h)
    (F : ∀ (w : World) (mg : Str → Option Value) (fa : Addr) (h : Heap), (K w.params).In h → h.Ns mainGlobals mg → mg d.name = some (.ref fa) → ∃ c Pt, PySem.W.tabIn (K w.params) "_law_sets" = some (c, Pt) ∧ (K w.params).lookup Pt = none ∧
      ∃ fd : FuncData, (∀ (s : Shared) (u : Value), BindsTo s fd ⟨[u], []⟩ [("_law_script", u)]) ∧ ∀ base : Heap, (K w.params).In base → base.Ns mainGlobals mg → LamX.TabB base mg c Pt → FnOk l.prog w (K w.params) mg base CX0 12 fa fd ["_law_script"] (spLaw (K w.params) Pt)) :
    PySem.W.WalkO q loose XP YP l.row.toRowW d [] (fun f vs => PySem.call f vs) := by
  refine Att.attach_callB most nodef ?_
  intro wo sa sb names bl pf ob v1 v2 v3 ar us zs gr yy e1 e2 e3 e4 e5 e6 e7 e8 e9
  have kin := inK wo _ yy
  obtain ⟨c, Pt, ht, hno, fd, hb, hF⟩ := F wo names pf _ kin gr.T.g e4
  obtain ⟨d0, hd0⟩ := Option.isSome_iff_exists.mp isrec
  obtain ⟨hcode, htab⟩ := PySem.W.tab_of gr.T kin hd0 ht
  refine LamX.law_callTs (cs := [(c, Pt)]) (sp := spLaw (K wo.params) Pt) kin gr.T.g gr.T.b gr.T.builtins gr.T.nolimit e9 ?_ ?_ ?_ gr.T.bmain e5 e6 (Nat.le_trans e7 (by decide)) (k := 12) ⟨rfl, by decide, by decide⟩ (fun base x1 x2 x3 => hF base x1 x2 (x3 _ List.mem_cons_self)) hb (fun H hH hS => ⟨ar, zs, rfl, hS, e7, fun p hp => ?_, fun _ => rfl⟩) (CX := CX0) fun _ _ _ z => z
  · intro p hp
    rw [List.mem_singleton.mp hp]
    exact htab
  · intro p hp
    rw [List.mem_singleton.mp hp]
    exact hno
  · intro p hp
    rw [List.mem_singleton.mp hp]
    exact hcode
  · rw [List.mem_singleton.mp hp]
    exact ⟨#[], hH _ List.mem_cons_self, trivial, fun pos cv hc => by cases hc⟩
set_option maxHeartbeats 8000000
theorem all_mk {P : Program} {w : World} {K : PySem.W.Frag} {h : Heap} {mg : Str → Option Value} {fa CG CT c Pt : Addr} (X : K.In h) (G : h.Ns mainGlobals mg) (hfa : mg "law" = some (.ref fa))
    {f_isInteger : Addr} {od_isInteger an_isInteger : Option Addr} {sl_isInteger : Array (Option Value)} {oc_isInteger kV_isInteger dc_isInteger pm_isInteger ct_isInteger : Value}
    {cd_isInteger : Value}
    {f_isHand : Addr} {od_isHand an_isHand : Option Addr} {sl_isHand : Array (Option Value)} {oc_isHand kV_isHand dc_isHand pm_isHand ct_isHand : Value}
    {cd_isHand : Value}
    {f_needHand : Addr} {od_needHand an_needHand : Option Addr} {sl_needHand : Array (Option Value)} {oc_needHand kV_needHand dc_needHand pm_needHand ct_needHand : Value}
    {cd_needHand : Value}
    {f_isRising : Addr} {od_isRising an_isRising : Option Addr} {sl_isRising : Array (Option Value)} {oc_isRising kV_isRising dc_isRising pm_isRising ct_isRising : Value}
    {cd_isRising : Value}
    {f_isLamps : Addr} {od_isLamps an_isLamps : Option Addr} {sl_isLamps : Array (Option Value)} {oc_isLamps kV_isLamps dc_isLamps pm_isLamps ct_isLamps : Value}
    {cd_isLamps : Value}
    {f_isSet : Addr} {od_isSet an_isSet : Option Addr} {sl_isSet : Array (Option Value)} {oc_isSet kV_isSet dc_isSet pm_isSet ct_isSet : Value}
    {cd_isSet : Value}
    {f_needLamps : Addr} {od_needLamps an_needLamps : Option Addr} {sl_needLamps : Array (Option Value)} {oc_needLamps kV_needLamps dc_needLamps pm_needLamps ct_needLamps : Value}
    {cd_needLamps : Value}
    {f_key : Addr} {od_key an_key : Option Addr} {sl_key : Array (Option Value)} {oc_key kV_key dc_key pm_key ct_key : Value}
    {cd_key : Value}
    {f_setsOf : Addr} {od_setsOf an_setsOf : Option Addr} {sl_setsOf : Array (Option Value)} {oc_setsOf kV_setsOf dc_setsOf pm_setsOf ct_setsOf : Value}
    {cd_setsOf : Value}
    {f_within : Addr} {od_within an_within : Option Addr} {sl_within : Array (Option Value)} {oc_within kV_within dc_within pm_within ct_within : Value}
    {cd_within : Value}
    {f_isPart : Addr} {od_isPart an_isPart : Option Addr} {sl_isPart : Array (Option Value)} {oc_isPart kV_isPart dc_isPart pm_isPart ct_isPart : Value}
    {cd_isPart : Value}
    {f_inner : Addr} {od_inner an_inner : Option Addr} {sl_inner : Array (Option Value)} {oc_inner kV_inner dc_inner pm_inner ct_inner : Value}
    {cd_inner : Value}
    {f_check : Addr} {od_check an_check : Option Addr} {sl_check : Array (Option Value)} {oc_check kV_check dc_check pm_check ct_check : Value}
    {cd_check : Value}
    {f_holdsFor : Addr} {od_holdsFor an_holdsFor : Option Addr} {sl_holdsFor : Array (Option Value)} {oc_holdsFor kV_holdsFor dc_holdsFor pm_holdsFor ct_holdsFor : Value}
    {cd_holdsFor : Value}
    {f_holds : Addr} {od_holds an_holds : Option Addr} {sl_holds : Array (Option Value)} {oc_holds kV_holds dc_holds pm_holds ct_holds : Value}
    {cd_holds : Value}
    {f_parts : Addr} {od_parts an_parts : Option Addr} {sl_parts : Array (Option Value)} {oc_parts kV_parts dc_parts pm_parts ct_parts : Value}
    {cd_parts : Value}
    {f_bag : Addr} {od_bag an_bag : Option Addr} {sl_bag : Array (Option Value)} {oc_bag kV_bag dc_bag pm_bag ct_bag : Value}
    {cd_bag : Value}
    {f_pull : Addr} {od_pull an_pull : Option Addr} {sl_pull : Array (Option Value)} {oc_pull kV_pull dc_pull pm_pull ct_pull : Value}
    {cd_pull : Value}
    {f_of : Addr} {od_of an_of : Option Addr} {sl_of : Array (Option Value)} {oc_of kV_of dc_of pm_of ct_of : Value}
    {cd_of : Value}
    {f_lawSets : Addr} {od_lawSets an_lawSets : Option Addr} {sl_lawSets : Array (Option Value)} {oc_lawSets kV_lawSets dc_lawSets pm_lawSets ct_lawSets : Value}
    {f_union : Addr} {od_union an_union : Option Addr} {sl_union : Array (Option Value)} {oc_union kV_union dc_union pm_union ct_union : Value}
    {cd_union : Value}
    {f_lawLamps : Addr} {od_lawLamps an_lawLamps : Option Addr} {sl_lawLamps : Array (Option Value)} {oc_lawLamps kV_lawLamps dc_lawLamps pm_lawLamps ct_lawLamps : Value}
    {cd_lawLamps : Value}
    {f_lits : Addr} {od_lits an_lits : Option Addr} {sl_lits : Array (Option Value)} {oc_lits kV_lits dc_lits pm_lits ct_lits : Value}
    {cd_lits : Value}
    {f_sent : Addr} {od_sent an_sent : Option Addr} {sl_sent : Array (Option Value)} {oc_sent kV_sent dc_sent pm_sent ct_sent : Value}
    {cd_sent : Value}
    {f_lawHolds : Addr} {od_lawHolds an_lawHolds : Option Addr} {sl_lawHolds : Array (Option Value)} {oc_lawHolds kV_lawHolds dc_lawHolds pm_lawHolds ct_lawHolds : Value}
    {cd_lawHolds : Value}
    {f_aim : Addr} {od_aim an_aim : Option Addr} {sl_aim : Array (Option Value)} {oc_aim kV_aim dc_aim pm_aim ct_aim : Value}
    {cd_aim : Value}
    {f_renamed : Addr} {od_renamed an_renamed : Option Addr} {sl_renamed : Array (Option Value)} {oc_renamed kV_renamed dc_renamed pm_renamed ct_renamed : Value}
    {cd_renamed : Value}
    {f_law : Addr} {od_law an_law : Option Addr} {sl_law : Array (Option Value)} {oc_law kV_law dc_law pm_law ct_law : Value}
    {cd_law : Value}
    {f_gInit : Addr} {od_gInit an_gInit : Option Addr} {sl_gInit : Array (Option Value)} {oc_gInit kV_gInit dc_gInit pm_gInit ct_gInit : Value}
    {cd_gInit : Value}
    {p_gSets : Addr} {r_gSets : List Value}
    {f_gSets : Addr} {od_gSets an_gSets : Option Addr} {sl_gSets : Array (Option Value)} {oc_gSets kV_gSets dc_gSets pm_gSets ct_gSets : Value}
    {cd_gSets : Value}
    {p_gLamps : Addr} {r_gLamps : List Value}
    {f_gLamps : Addr} {od_gLamps an_gLamps : Option Addr} {sl_gLamps : Array (Option Value)} {oc_gLamps kV_gLamps dc_gLamps pm_gLamps ct_gLamps : Value}
    {cd_gLamps : Value}
    {f_gCall : Addr} {od_gCall an_gCall : Option Addr} {sl_gCall : Array (Option Value)} {oc_gCall kV_gCall dc_gCall pm_gCall ct_gCall : Value}
    {cd_gCall : Value}
    {f_gInv : Addr} {od_gInv an_gInv : Option Addr} {sl_gInv : Array (Option Value)} {oc_gInv kV_gInv dc_gInv pm_gInv ct_gInv : Value}
    {cd_gInv : Value}
    {f_tInit : Addr} {od_tInit an_tInit : Option Addr} {sl_tInit : Array (Option Value)} {oc_tInit kV_tInit dc_tInit pm_tInit ct_tInit : Value}
    {cd_tInit : Value}
    {f_tFrom : Addr} {od_tFrom an_tFrom : Option Addr} {sl_tFrom : Array (Option Value)} {oc_tFrom kV_tFrom dc_tFrom pm_tFrom ct_tFrom : Value}
    {cd_tFrom : Value}
    {f_tBr : Addr} {od_tBr an_tBr : Option Addr} {sl_tBr : Array (Option Value)} {oc_tBr kV_tBr dc_tBr pm_tBr ct_tBr : Value}
    {cd_tBr : Value}
    {f_tHeight : Addr} {od_tHeight an_tHeight : Option Addr} {sl_tHeight : Array (Option Value)} {oc_tHeight kV_tHeight dc_tHeight pm_tHeight ct_tHeight : Value}
    {cd_tHeight : Value}
    {f_tFav : Addr} {od_tFav an_tFav : Option Addr} {sl_tFav : Array (Option Value)} {oc_tFav kV_tFav dc_tFav pm_tFav ct_tFav : Value}
    {cd_tFav : Value}
    {f_tWorthOf : Addr} {od_tWorthOf an_tWorthOf : Option Addr} {sl_tWorthOf : Array (Option Value)} {oc_tWorthOf kV_tWorthOf dc_tWorthOf pm_tWorthOf ct_tWorthOf : Value}
    {cd_tWorthOf : Value}
    {f_tWorth : Addr} {od_tWorth an_tWorth : Option Addr} {sl_tWorth : Array (Option Value)} {oc_tWorth kV_tWorth dc_tWorth pm_tWorth ct_tWorth : Value}
    {cd_tWorth : Value}
    {tk1 tk2 tk3 tk4 : Tok}
    {oc_t : Value} {od_t : Option Addr} {vs_t : Array Value} {sl_t : Array (Option Value)}
    (a_isInteger : PySem.W.nsIn K mainGlobals "is_integer" = some (some (.ref f_isInteger)))
    (l_isInteger : K.lookup f_isInteger = some ⟨oc_isInteger, od_isInteger, .func (PySem.W.fnOf "is_integer" "is_integer" (defArgs sIsInteger) (defBody sIsInteger) (defScope sIsInteger) .none kV_isInteger dc_isInteger pm_isInteger an_isInteger cd_isInteger ct_isInteger), sl_isInteger⟩)
    (c_isInteger : PySem.W.codeIn K cd_isInteger "is_integer" = true)
    (k_isInteger : PySem.W.keepIn K (.ref f_isInteger) = true)
    (a_isHand : PySem.W.nsIn K mainGlobals "is_hand" = some (some (.ref f_isHand)))
    (l_isHand : K.lookup f_isHand = some ⟨oc_isHand, od_isHand, .func (PySem.W.fnOf "is_hand" "is_hand" (defArgs sIsHand) (defBody sIsHand) (defScope sIsHand) .none kV_isHand dc_isHand pm_isHand an_isHand cd_isHand ct_isHand), sl_isHand⟩)
    (c_isHand : PySem.W.codeIn K cd_isHand "is_hand" = true)
    (k_isHand : PySem.W.keepIn K (.ref f_isHand) = true)
    (a_needHand : PySem.W.nsIn K mainGlobals "need_hand" = some (some (.ref f_needHand)))
    (l_needHand : K.lookup f_needHand = some ⟨oc_needHand, od_needHand, .func (PySem.W.fnOf "need_hand" "need_hand" (defArgs sNeedHand) (defBody sNeedHand) (defScope sNeedHand) .none kV_needHand dc_needHand pm_needHand an_needHand cd_needHand ct_needHand), sl_needHand⟩)
    (c_needHand : PySem.W.codeIn K cd_needHand "need_hand" = true)
    (k_needHand : PySem.W.keepIn K (.ref f_needHand) = true)
    (a_isRising : PySem.W.nsIn K mainGlobals "is_rising" = some (some (.ref f_isRising)))
    (l_isRising : K.lookup f_isRising = some ⟨oc_isRising, od_isRising, .func (PySem.W.fnOf "is_rising" "is_rising" (defArgs sIsRising) (defBody sIsRising) (defScope sIsRising) .none kV_isRising dc_isRising pm_isRising an_isRising cd_isRising ct_isRising), sl_isRising⟩)
    (c_isRising : PySem.W.codeIn K cd_isRising "is_rising" = true)
    (k_isRising : PySem.W.keepIn K (.ref f_isRising) = true)
    (a_isLamps : PySem.W.nsIn K mainGlobals "is_lamps" = some (some (.ref f_isLamps)))
    (l_isLamps : K.lookup f_isLamps = some ⟨oc_isLamps, od_isLamps, .func (PySem.W.fnOf "is_lamps" "is_lamps" (defArgs sIsLamps) (defBody sIsLamps) (defScope sIsLamps) .none kV_isLamps dc_isLamps pm_isLamps an_isLamps cd_isLamps ct_isLamps), sl_isLamps⟩)
    (c_isLamps : PySem.W.codeIn K cd_isLamps "is_lamps" = true)
    (k_isLamps : PySem.W.keepIn K (.ref f_isLamps) = true)
    (a_isSet : PySem.W.nsIn K mainGlobals "is_set" = some (some (.ref f_isSet)))
    (l_isSet : K.lookup f_isSet = some ⟨oc_isSet, od_isSet, .func (PySem.W.fnOf "is_set" "is_set" (defArgs sIsSet) (defBody sIsSet) (defScope sIsSet) .none kV_isSet dc_isSet pm_isSet an_isSet cd_isSet ct_isSet), sl_isSet⟩)
    (c_isSet : PySem.W.codeIn K cd_isSet "is_set" = true)
    (k_isSet : PySem.W.keepIn K (.ref f_isSet) = true)
    (a_needLamps : PySem.W.nsIn K mainGlobals "need_lamps" = some (some (.ref f_needLamps)))
    (l_needLamps : K.lookup f_needLamps = some ⟨oc_needLamps, od_needLamps, .func (PySem.W.fnOf "need_lamps" "need_lamps" (defArgs sNeedLamps) (defBody sNeedLamps) (defScope sNeedLamps) .none kV_needLamps dc_needLamps pm_needLamps an_needLamps cd_needLamps ct_needLamps), sl_needLamps⟩)
    (c_needLamps : PySem.W.codeIn K cd_needLamps "need_lamps" = true)
    (k_needLamps : PySem.W.keepIn K (.ref f_needLamps) = true)
    (a_key : PySem.W.nsIn K mainGlobals "size_and_letters" = some (some (.ref f_key)))
    (l_key : K.lookup f_key = some ⟨oc_key, od_key, .func (PySem.W.fnOf "size_and_letters" "size_and_letters" (defArgs sKey) (defBody sKey) (defScope sKey) .none kV_key dc_key pm_key an_key cd_key ct_key), sl_key⟩)
    (c_key : PySem.W.codeIn K cd_key "size_and_letters" = true)
    (k_key : PySem.W.keepIn K (.ref f_key) = true)
    (a_setsOf : PySem.W.nsIn K mainGlobals "sets_of" = some (some (.ref f_setsOf)))
    (l_setsOf : K.lookup f_setsOf = some ⟨oc_setsOf, od_setsOf, .func (PySem.W.fnOf "sets_of" "sets_of" (defArgs sSetsOf) (defBody sSetsOf) (defScope sSetsOf) .none kV_setsOf dc_setsOf pm_setsOf an_setsOf cd_setsOf ct_setsOf), sl_setsOf⟩)
    (c_setsOf : PySem.W.codeIn K cd_setsOf "sets_of" = true)
    (k_setsOf : PySem.W.keepIn K (.ref f_setsOf) = true)
    (a_within : PySem.W.nsIn K mainGlobals "is_within" = some (some (.ref f_within)))
    (l_within : K.lookup f_within = some ⟨oc_within, od_within, .func (PySem.W.fnOf "is_within" "is_within" (defArgs sIsWithin) (defBody sIsWithin) (defScope sIsWithin) .none kV_within dc_within pm_within an_within cd_within ct_within), sl_within⟩)
    (c_within : PySem.W.codeIn K cd_within "is_within" = true)
    (k_within : PySem.W.keepIn K (.ref f_within) = true)
    (a_isPart : PySem.W.nsIn K mainGlobals "is_part" = some (some (.ref f_isPart)))
    (l_isPart : K.lookup f_isPart = some ⟨oc_isPart, od_isPart, .func (PySem.W.fnOf "is_part" "is_part" (defArgs sIsPart) (defBody sIsPart) (defScope sIsPart) .none kV_isPart dc_isPart pm_isPart an_isPart cd_isPart ct_isPart), sl_isPart⟩)
    (c_isPart : PySem.W.codeIn K cd_isPart "is_part" = true)
    (k_isPart : PySem.W.keepIn K (.ref f_isPart) = true)
    (a_inner : PySem.W.nsIn K mainGlobals "inner" = some (some (.ref f_inner)))
    (l_inner : K.lookup f_inner = some ⟨oc_inner, od_inner, .func (PySem.W.fnOf "inner" "inner" (defArgs sInner) (defBody sInner) (defScope sInner) .none kV_inner dc_inner pm_inner an_inner cd_inner ct_inner), sl_inner⟩)
    (c_inner : PySem.W.codeIn K cd_inner "inner" = true)
    (k_inner : PySem.W.keepIn K (.ref f_inner) = true)
    (a_check : PySem.W.nsIn K mainGlobals "check_sentence" = some (some (.ref f_check)))
    (l_check : K.lookup f_check = some ⟨oc_check, od_check, .func (PySem.W.fnOf "check_sentence" "check_sentence" (defArgs sCheck) (defBody sCheck) (defScope sCheck) .none kV_check dc_check pm_check an_check cd_check ct_check), sl_check⟩)
    (c_check : PySem.W.codeIn K cd_check "check_sentence" = true)
    (k_check : PySem.W.keepIn K (.ref f_check) = true)
    (a_holdsFor : PySem.W.nsIn K mainGlobals "holds_for" = some (some (.ref f_holdsFor)))
    (l_holdsFor : K.lookup f_holdsFor = some ⟨oc_holdsFor, od_holdsFor, .func (PySem.W.fnOf "holds_for" "holds_for" (defArgs sHoldsFor) (defBody sHoldsFor) (defScope sHoldsFor) .none kV_holdsFor dc_holdsFor pm_holdsFor an_holdsFor cd_holdsFor ct_holdsFor), sl_holdsFor⟩)
    (c_holdsFor : PySem.W.codeIn K cd_holdsFor "holds_for" = true)
    (k_holdsFor : PySem.W.keepIn K (.ref f_holdsFor) = true)
    (a_holds : PySem.W.nsIn K mainGlobals "holds" = some (some (.ref f_holds)))
    (l_holds : K.lookup f_holds = some ⟨oc_holds, od_holds, .func (PySem.W.fnOf "holds" "holds" (defArgs sHoldsG) (defBody sHoldsG) (defScope sHoldsG) .none kV_holds dc_holds pm_holds an_holds cd_holds ct_holds), sl_holds⟩)
    (c_holds : PySem.W.codeIn K cd_holds "holds" = true)
    (k_holds : PySem.W.keepIn K (.ref f_holds) = true)
    (a_parts : PySem.W.nsIn K mainGlobals "parts_of_set" = some (some (.ref f_parts)))
    (l_parts : K.lookup f_parts = some ⟨oc_parts, od_parts, .func (PySem.W.fnOf "parts_of_set" "parts_of_set" (defArgs sParts) (defBody sParts) (defScope sParts) .none kV_parts dc_parts pm_parts an_parts cd_parts ct_parts), sl_parts⟩)
    (c_parts : PySem.W.codeIn K cd_parts "parts_of_set" = true)
    (k_parts : PySem.W.keepIn K (.ref f_parts) = true)
    (a_bag : PySem.W.nsIn K mainGlobals "_law_bag" = some (some (.ref f_bag)))
    (l_bag : K.lookup f_bag = some ⟨oc_bag, od_bag, .func (PySem.W.fnOf "_law_bag" "_law_bag" (defArgs sBag) (defBody sBag) (defScope sBag) .none kV_bag dc_bag pm_bag an_bag cd_bag ct_bag), sl_bag⟩)
    (c_bag : PySem.W.codeIn K cd_bag "_law_bag" = true)
    (k_bag : PySem.W.keepIn K (.ref f_bag) = true)
    (a_pull : PySem.W.nsIn K mainGlobals "_law_pull" = some (some (.ref f_pull)))
    (l_pull : K.lookup f_pull = some ⟨oc_pull, od_pull, .func (PySem.W.fnOf "_law_pull" "_law_pull" (defArgs sPull) (defBody sPull) (defScope sPull) .none kV_pull dc_pull pm_pull an_pull cd_pull ct_pull), sl_pull⟩)
    (c_pull : PySem.W.codeIn K cd_pull "_law_pull" = true)
    (k_pull : PySem.W.keepIn K (.ref f_pull) = true)
    (a_of : PySem.W.nsIn K mainGlobals "_law_of" = some (some (.ref f_of)))
    (l_of : K.lookup f_of = some ⟨oc_of, od_of, .func (PySem.W.fnOf "_law_of" "_law_of" (defArgs sOf) (defBody sOf) (defScope sOf) .none kV_of dc_of pm_of an_of cd_of ct_of), sl_of⟩)
    (c_of : PySem.W.codeIn K cd_of "_law_of" = true)
    (k_of : PySem.W.keepIn K (.ref f_of) = true)
    (a_lawSets : PySem.W.nsIn K mainGlobals "_law_sets" = some (some (.ref f_lawSets)))
    (l_lawSets : K.lookup f_lawSets = some ⟨oc_lawSets, od_lawSets, .func (PySem.W.fnOf "_law_sets" "_law_sets" (defArgs sLawSets) (defBody sLawSets) (defScope sLawSets) .none kV_lawSets dc_lawSets pm_lawSets an_lawSets (.ref c) ct_lawSets), sl_lawSets⟩)
    (c_lawSets : PySem.W.codeIn K (.ref c) "_law_sets" = true)
    (k_lawSets : PySem.W.keepIn K (.ref f_lawSets) = true)
    (a_union : PySem.W.nsIn K mainGlobals "_law_union" = some (some (.ref f_union)))
    (l_union : K.lookup f_union = some ⟨oc_union, od_union, .func (PySem.W.fnOf "_law_union" "_law_union" (defArgs sUnion) (defBody sUnion) (defScope sUnion) .none kV_union dc_union pm_union an_union cd_union ct_union), sl_union⟩)
    (c_union : PySem.W.codeIn K cd_union "_law_union" = true)
    (k_union : PySem.W.keepIn K (.ref f_union) = true)
    (a_lawLamps : PySem.W.nsIn K mainGlobals "_law_lamps" = some (some (.ref f_lawLamps)))
    (l_lawLamps : K.lookup f_lawLamps = some ⟨oc_lawLamps, od_lawLamps, .func (PySem.W.fnOf "_law_lamps" "_law_lamps" (defArgs sLawLamps) (defBody sLawLamps) (defScope sLawLamps) .none kV_lawLamps dc_lawLamps pm_lawLamps an_lawLamps cd_lawLamps ct_lawLamps), sl_lawLamps⟩)
    (c_lawLamps : PySem.W.codeIn K cd_lawLamps "_law_lamps" = true)
    (k_lawLamps : PySem.W.keepIn K (.ref f_lawLamps) = true)
    (a_lits : PySem.W.nsIn K mainGlobals "_law_lits" = some (some (.ref f_lits)))
    (l_lits : K.lookup f_lits = some ⟨oc_lits, od_lits, .func (PySem.W.fnOf "_law_lits" "_law_lits" (defArgs sLits) (defBody sLits) (defScope sLits) .none kV_lits dc_lits pm_lits an_lits cd_lits ct_lits), sl_lits⟩)
    (c_lits : PySem.W.codeIn K cd_lits "_law_lits" = true)
    (k_lits : PySem.W.keepIn K (.ref f_lits) = true)
    (a_sent : PySem.W.nsIn K mainGlobals "_law_sentence" = some (some (.ref f_sent)))
    (l_sent : K.lookup f_sent = some ⟨oc_sent, od_sent, .func (PySem.W.fnOf "_law_sentence" "_law_sentence" (defArgs sSent) (defBody sSent) (defScope sSent) .none kV_sent dc_sent pm_sent an_sent cd_sent ct_sent), sl_sent⟩)
    (c_sent : PySem.W.codeIn K cd_sent "_law_sentence" = true)
    (k_sent : PySem.W.keepIn K (.ref f_sent) = true)
    (a_lawHolds : PySem.W.nsIn K mainGlobals "_law_holds" = some (some (.ref f_lawHolds)))
    (l_lawHolds : K.lookup f_lawHolds = some ⟨oc_lawHolds, od_lawHolds, .func (PySem.W.fnOf "_law_holds" "_law_holds" (defArgs sLawHolds) (defBody sLawHolds) (defScope sLawHolds) .none kV_lawHolds dc_lawHolds pm_lawHolds an_lawHolds cd_lawHolds ct_lawHolds), sl_lawHolds⟩)
    (c_lawHolds : PySem.W.codeIn K cd_lawHolds "_law_holds" = true)
    (k_lawHolds : PySem.W.keepIn K (.ref f_lawHolds) = true)
    (a_aim : PySem.W.nsIn K mainGlobals "_law_aim" = some (some (.ref f_aim)))
    (l_aim : K.lookup f_aim = some ⟨oc_aim, od_aim, .func (PySem.W.fnOf "_law_aim" "_law_aim" (defArgs sAim) (defBody sAim) (defScope sAim) .none kV_aim dc_aim pm_aim an_aim cd_aim ct_aim), sl_aim⟩)
    (c_aim : PySem.W.codeIn K cd_aim "_law_aim" = true)
    (k_aim : PySem.W.keepIn K (.ref f_aim) = true)
    (a_renamed : PySem.W.nsIn K mainGlobals "_law_renamed" = some (some (.ref f_renamed)))
    (l_renamed : K.lookup f_renamed = some ⟨oc_renamed, od_renamed, .func (PySem.W.fnOf "_law_renamed" "_law_renamed" (defArgs sRenamed) (defBody sRenamed) (defScope sRenamed) .none kV_renamed dc_renamed pm_renamed an_renamed cd_renamed ct_renamed), sl_renamed⟩)
    (c_renamed : PySem.W.codeIn K cd_renamed "_law_renamed" = true)
    (k_renamed : PySem.W.keepIn K (.ref f_renamed) = true)
    (a_law : PySem.W.nsIn K mainGlobals "law" = some (some (.ref f_law)))
    (l_law : K.lookup f_law = some ⟨oc_law, od_law, .func (PySem.W.fnOf "law" "law" (defArgs sLaw) (defBody sLaw) (defScope sLaw) .none kV_law dc_law pm_law an_law cd_law ct_law), sl_law⟩)
    (c_law : PySem.W.codeIn K cd_law "law" = true)
    (k_law : PySem.W.keepIn K (.ref f_law) = true)
    (cG : PySem.W.nsIn K mainGlobals "Goal" = some (some (.ref CG)))
    (cT : PySem.W.nsIn K mainGlobals "Tree" = some (some (.ref CT)))
    (a_gInit : PySem.W.findIn K (.ref CG) "__init__" = some (some (.ref f_gInit)))
    (i_gInit : PySem.W.isFn K (.ref f_gInit) = true)
    (l_gInit : K.lookup f_gInit = some ⟨oc_gInit, od_gInit, .func (PySem.W.fnOf "__init__" "Goal.__init__" (defArgs sGoalInit) (defBody sGoalInit) (defScope sGoalInit) .none kV_gInit dc_gInit pm_gInit an_gInit cd_gInit ct_gInit), sl_gInit⟩)
    (c_gInit : PySem.W.codeIn K cd_gInit "Goal.__init__" = true)
    (k_gInit : PySem.W.keepIn K (.ref f_gInit) = true)
    (t_gSets : PySem.W.readsIn K CG (.type "type") = true)
    (a_gSets : PySem.W.findCls K (.ref CG) (.type "type") "of_sets" = some (.get (.builtin "staticmethod.__get__") (.ref p_gSets) .none (.ref CG)))
    (u_gSets : PySem.W.recIn K p_gSets "staticmethod" = some (.ref f_gSets :: r_gSets))
    (l_gSets : K.lookup f_gSets = some ⟨oc_gSets, od_gSets, .func (PySem.W.fnOf "of_sets" "Goal.of_sets" (defArgs sOfSets) (defBody sOfSets) (defScope sOfSets) .none kV_gSets dc_gSets pm_gSets an_gSets cd_gSets ct_gSets), sl_gSets⟩)
    (c_gSets : PySem.W.codeIn K cd_gSets "Goal.of_sets" = true)
    (k_gSets : PySem.W.keepIn K (.ref f_gSets) = true)
    (a_gLamps : PySem.W.findIn K (.ref CG) "lamps" = some (some (.ref p_gLamps)))
    (g_gLamps : PySem.W.specialIn K (.ref p_gLamps) "__get__" = some (some (.builtin "property.__get__")))
    (t_gLamps : PySem.W.takesIn K (.ref p_gLamps) = some true)
    (u_gLamps : PySem.W.recIn K p_gLamps "property" = some (.ref f_gLamps :: r_gLamps))
    (l_gLamps : K.lookup f_gLamps = some ⟨oc_gLamps, od_gLamps, .func (PySem.W.fnOf "lamps" "Goal.lamps" (defArgs sGoalLamps) (defBody sGoalLamps) (defScope sGoalLamps) .none kV_gLamps dc_gLamps pm_gLamps an_gLamps cd_gLamps ct_gLamps), sl_gLamps⟩)
    (c_gLamps : PySem.W.codeIn K cd_gLamps "Goal.lamps" = true)
    (k_gLamps : PySem.W.keepIn K (.ref f_gLamps) = true)
    (a_gCall : PySem.W.findIn K (.ref CG) "__call__" = some (some (.ref f_gCall)))
    (i_gCall : PySem.W.isFn K (.ref f_gCall) = true)
    (j_gCall : PySem.W.fnIn K f_gCall = true)
    (l_gCall : K.lookup f_gCall = some ⟨oc_gCall, od_gCall, .func (PySem.W.fnOf "__call__" "Goal.__call__" (defArgs sGoalCall) (defBody sGoalCall) (defScope sGoalCall) .none kV_gCall dc_gCall pm_gCall an_gCall cd_gCall ct_gCall), sl_gCall⟩)
    (c_gCall : PySem.W.codeIn K cd_gCall "Goal.__call__" = true)
    (k_gCall : PySem.W.keepIn K (.ref f_gCall) = true)
    (a_gInv : PySem.W.findIn K (.ref CG) "__invert__" = some (some (.ref f_gInv)))
    (i_gInv : PySem.W.isFn K (.ref f_gInv) = true)
    (l_gInv : K.lookup f_gInv = some ⟨oc_gInv, od_gInv, .func (PySem.W.fnOf "__invert__" "Goal.__invert__" (defArgs sGoalInv) (defBody sGoalInv) (defScope sGoalInv) .none kV_gInv dc_gInv pm_gInv an_gInv cd_gInv ct_gInv), sl_gInv⟩)
    (c_gInv : PySem.W.codeIn K cd_gInv "Goal.__invert__" = true)
    (k_gInv : PySem.W.keepIn K (.ref f_gInv) = true)
    (a_tInit : PySem.W.findIn K (.ref CT) "__init__" = some (some (.ref f_tInit)))
    (i_tInit : PySem.W.isFn K (.ref f_tInit) = true)
    (l_tInit : K.lookup f_tInit = some ⟨oc_tInit, od_tInit, .func (PySem.W.fnOf "__init__" "Tree.__init__" (defArgs sTreeInit) (defBody sTreeInit) (defScope sTreeInit) .none kV_tInit dc_tInit pm_tInit an_tInit cd_tInit ct_tInit), sl_tInit⟩)
    (c_tInit : PySem.W.codeIn K cd_tInit "Tree.__init__" = true)
    (k_tInit : PySem.W.keepIn K (.ref f_tInit) = true)
    (a_tFrom : PySem.W.findIn K (.ref CT) "branches_from" = some (some (.ref f_tFrom)))
    (i_tFrom : PySem.W.isFn K (.ref f_tFrom) = true)
    (l_tFrom : K.lookup f_tFrom = some ⟨oc_tFrom, od_tFrom, .func (PySem.W.fnOf "branches_from" "Tree.branches_from" (defArgs sBranchesFrom) (defBody sBranchesFrom) (defScope sBranchesFrom) .none kV_tFrom dc_tFrom pm_tFrom an_tFrom cd_tFrom ct_tFrom), sl_tFrom⟩)
    (c_tFrom : PySem.W.codeIn K cd_tFrom "Tree.branches_from" = true)
    (k_tFrom : PySem.W.keepIn K (.ref f_tFrom) = true)
    (a_tBr : PySem.W.findIn K (.ref CT) "branches" = some (some (.ref f_tBr)))
    (i_tBr : PySem.W.isFn K (.ref f_tBr) = true)
    (l_tBr : K.lookup f_tBr = some ⟨oc_tBr, od_tBr, .func (PySem.W.fnOf "branches" "Tree.branches" (defArgs sBranches) (defBody sBranches) (defScope sBranches) .none kV_tBr dc_tBr pm_tBr an_tBr cd_tBr ct_tBr), sl_tBr⟩)
    (c_tBr : PySem.W.codeIn K cd_tBr "Tree.branches" = true)
    (k_tBr : PySem.W.keepIn K (.ref f_tBr) = true)
    (a_tHeight : PySem.W.findIn K (.ref CT) "height" = some (some (.ref f_tHeight)))
    (i_tHeight : PySem.W.isFn K (.ref f_tHeight) = true)
    (l_tHeight : K.lookup f_tHeight = some ⟨oc_tHeight, od_tHeight, .func (PySem.W.fnOf "height" "Tree.height" (defArgs sHeight) (defBody sHeight) (defScope sHeight) .none kV_tHeight dc_tHeight pm_tHeight an_tHeight cd_tHeight ct_tHeight), sl_tHeight⟩)
    (c_tHeight : PySem.W.codeIn K cd_tHeight "Tree.height" = true)
    (k_tHeight : PySem.W.keepIn K (.ref f_tHeight) = true)
    (a_tFav : PySem.W.findIn K (.ref CT) "favours" = some (some (.ref f_tFav)))
    (i_tFav : PySem.W.isFn K (.ref f_tFav) = true)
    (l_tFav : K.lookup f_tFav = some ⟨oc_tFav, od_tFav, .func (PySem.W.fnOf "favours" "Tree.favours" (defArgs sFavours) (defBody sFavours) (defScope sFavours) .none kV_tFav dc_tFav pm_tFav an_tFav cd_tFav ct_tFav), sl_tFav⟩)
    (c_tFav : PySem.W.codeIn K cd_tFav "Tree.favours" = true)
    (k_tFav : PySem.W.keepIn K (.ref f_tFav) = true)
    (a_tWorthOf : PySem.W.findIn K (.ref CT) "worth_of" = some (some (.ref f_tWorthOf)))
    (i_tWorthOf : PySem.W.isFn K (.ref f_tWorthOf) = true)
    (l_tWorthOf : K.lookup f_tWorthOf = some ⟨oc_tWorthOf, od_tWorthOf, .func (PySem.W.fnOf "worth_of" "Tree.worth_of" (defArgs sWorthOf) (defBody sWorthOf) (defScope sWorthOf) .none kV_tWorthOf dc_tWorthOf pm_tWorthOf an_tWorthOf cd_tWorthOf ct_tWorthOf), sl_tWorthOf⟩)
    (c_tWorthOf : PySem.W.codeIn K cd_tWorthOf "Tree.worth_of" = true)
    (k_tWorthOf : PySem.W.keepIn K (.ref f_tWorthOf) = true)
    (a_tWorth : PySem.W.findIn K (.ref CT) "worth" = some (some (.ref f_tWorth)))
    (i_tWorth : PySem.W.isFn K (.ref f_tWorth) = true)
    (l_tWorth : K.lookup f_tWorth = some ⟨oc_tWorth, od_tWorth, .func (PySem.W.fnOf "worth" "Tree.worth" (defArgs sWorth) (defBody sWorth) (defScope sWorth) .none kV_tWorth dc_tWorth pm_tWorth an_tWorth cd_tWorth ct_tWorth), sl_tWorth⟩)
    (c_tWorth : PySem.W.codeIn K cd_tWorth "Tree.worth" = true)
    (k_tWorth : PySem.W.keepIn K (.ref f_tWorth) = true)
    (pg_CG : PySem.W.plainGet K CG Str.empty = true)
    (hd_CG : PySem.W.hasDictIn K CG = true)
    (po_CG : PySem.W.plainOver K CG = true)
    (sa_CG : PySem.W.findIn K (.ref CG) "__setattr__" = some (some (.builtin "object.__setattr__")))
    (mk_CG : PySem.W.makesIn K CG = true)
    (kc_CG : PySem.W.keepIn K (.ref CG) = true)
    (pg_CT : PySem.W.plainGet K CT Str.empty = true)
    (hd_CT : PySem.W.hasDictIn K CT = true)
    (po_CT : PySem.W.plainOver K CT = true)
    (sa_CT : PySem.W.findIn K (.ref CT) "__setattr__" = some (some (.builtin "object.__setattr__")))
    (mk_CT : PySem.W.makesIn K CT = true)
    (kc_CT : PySem.W.keepIn K (.ref CT) = true)
    (n0_CG : PySem.W.findIn K (.ref CG) "own_lamps" = some none)
    (n1_CG : PySem.W.findIn K (.ref CG) "own_sentence" = some none)
    (n2_CG : PySem.W.findIn K (.ref CG) "own_sets" = some none)
    (n0_CT : PySem.W.findIn K (.ref CT) "own_goal" = some none)
    (n1_CT : PySem.W.findIn K (.ref CT) "own_parts" = some none)
    (z_isinstance : PySem.W.nsIn K mainGlobals "isinstance" = some none)
    (z_int : PySem.W.nsIn K mainGlobals "int" = some none)
    (z_bool : PySem.W.nsIn K mainGlobals "bool" = some none)
    (z_str : PySem.W.nsIn K mainGlobals "str" = some none)
    (z_tuple : PySem.W.nsIn K mainGlobals "tuple" = some none)
    (z_list : PySem.W.nsIn K mainGlobals "list" = some none)
    (z_dict : PySem.W.nsIn K mainGlobals "dict" = some none)
    (z_len : PySem.W.nsIn K mainGlobals "len" = some none)
    (z_all : PySem.W.nsIn K mainGlobals "all" = some none)
    (z_any : PySem.W.nsIn K mainGlobals "any" = some none)
    (z_zip : PySem.W.nsIn K mainGlobals "zip" = some none)
    (z_sorted : PySem.W.nsIn K mainGlobals "sorted" = some none)
    (z_max : PySem.W.nsIn K mainGlobals "max" = some none)
    (z_sum : PySem.W.nsIn K mainGlobals "sum" = some none)
    (z_abs : PySem.W.nsIn K mainGlobals "abs" = some none)
    (z_range : PySem.W.nsIn K mainGlobals "range" = some none)
    (y_LETTERS : PySem.W.nsIn K mainGlobals "LETTERS" = some (some (.str "abcdefghijklmnopqrstuvwxyz" tk1)))
    (y_MOST_LAMPS : PySem.W.nsIn K mainGlobals "MOST_LAMPS" = some (some (.int 4 tk2)))
    (y_MOST_PARTS : PySem.W.nsIn K mainGlobals "MOST_PARTS" = some (some (.int 20 tk3)))
    (y_MOST_SETS : PySem.W.nsIn K mainGlobals "MOST_SETS" = some (some (.int 16 tk4)))
    (lt : K.lookup c = some ⟨oc_t, od_t, .fields vs_t, sl_t⟩)
    (ltb : (vs_t[11]? : Option Value) = some (.ref Pt))
    (lno : K.lookup Pt = none) :
    ∃ c Pt, PySem.W.tabIn K "_law_sets" = some (c, Pt) ∧ K.lookup Pt = none ∧
      ∃ fd : FuncData, (∀ (s : Shared) (u : Value), BindsTo s fd ⟨[u], []⟩ [("_law_script", u)]) ∧ ∀ base : Heap, K.In base → base.Ns mainGlobals mg → LamX.TabB base mg c Pt → FnOk P w K mg base CX0 12 fa fd ["_law_script"] (spLaw K Pt) := by
  have e := hfa.symm.trans (PySem.W.mg_of X G a_law)
  cases e
  refine ⟨c, Pt, ?_, lno, _, ?_, fun base x1 x2 TB => ok_law (CT := CT) (CG := CG) (fun_mk (st := sLaw) l_law c_law k_law) ?_⟩
  · unfold PySem.W.tabIn
    rw [a_lawSets]
    dsimp only
    rw [l_lawSets]
    dsimp only [PySem.W.fnOf]
    rw [lt]
    dsimp only
    rw [ltb]
  · exact fun s v => .of_eq rfl
  have F_isInteger := fun_mk (st := sIsInteger) l_isInteger c_isInteger k_isInteger
  have b_isInteger := F_isInteger.binds (ps := ["value", "least", "most"]) fun _ _ _ _ _ _ us hl => match us, hl with | [_, _, _], _ => rfl
  have g_isInteger := PySem.W.mg_of X G a_isInteger
  have F_isHand := fun_mk (st := sIsHand) l_isHand c_isHand k_isHand
  have b_isHand := F_isHand.binds (ps := ["value"]) fun _ _ _ _ _ _ us hl => match us, hl with | [_], _ => rfl
  have g_isHand := PySem.W.mg_of X G a_isHand
  have F_needHand := fun_mk (st := sNeedHand) l_needHand c_needHand k_needHand
  have b_needHand := F_needHand.binds (ps := ["hand"]) fun _ _ _ _ _ _ us hl => match us, hl with | [_], _ => rfl
  have g_needHand := PySem.W.mg_of X G a_needHand
  have F_isRising := fun_mk (st := sIsRising) l_isRising c_isRising k_isRising
  have b_isRising := F_isRising.binds (ps := ["value"]) fun _ _ _ _ _ _ us hl => match us, hl with | [_], _ => rfl
  have g_isRising := PySem.W.mg_of X G a_isRising
  have F_isLamps := fun_mk (st := sIsLamps) l_isLamps c_isLamps k_isLamps
  have b_isLamps := F_isLamps.binds (ps := ["value"]) fun _ _ _ _ _ _ us hl => match us, hl with | [_], _ => rfl
  have g_isLamps := PySem.W.mg_of X G a_isLamps
  have F_isSet := fun_mk (st := sIsSet) l_isSet c_isSet k_isSet
  have b_isSet := F_isSet.binds (ps := ["value", "lamps"]) fun _ _ _ _ _ _ us hl => match us, hl with | [_, _], _ => rfl
  have g_isSet := PySem.W.mg_of X G a_isSet
  have F_needLamps := fun_mk (st := sNeedLamps) l_needLamps c_needLamps k_needLamps
  have b_needLamps := F_needLamps.binds (ps := ["lamps"]) fun _ _ _ _ _ _ us hl => match us, hl with | [_], _ => rfl
  have g_needLamps := PySem.W.mg_of X G a_needLamps
  have F_key := fun_mk (st := sKey) l_key c_key k_key
  have b_key := F_key.binds (ps := ["lit"]) fun _ _ _ _ _ _ us hl => match us, hl with | [_], _ => rfl
  have g_key := PySem.W.mg_of X G a_key
  have F_setsOf := fun_mk (st := sSetsOf) l_setsOf c_setsOf k_setsOf
  have b_setsOf := F_setsOf.binds (ps := ["lamps"]) fun _ _ _ _ _ _ us hl => match us, hl with | [_], _ => rfl
  have g_setsOf := PySem.W.mg_of X G a_setsOf
  have F_within := fun_mk (st := sIsWithin) l_within c_within k_within
  have b_within := F_within.binds (ps := ["one", "other"]) fun _ _ _ _ _ _ us hl => match us, hl with | [_, _], _ => rfl
  have g_within := PySem.W.mg_of X G a_within
  have F_isPart := fun_mk (st := sIsPart) l_isPart c_isPart k_isPart
  have b_isPart := F_isPart.binds (ps := ["lamps", "value"]) fun _ _ _ _ _ _ us hl => match us, hl with | [_, _], _ => rfl
  have g_isPart := PySem.W.mg_of X G a_isPart
  have F_inner := fun_mk (st := sInner) l_inner c_inner k_inner
  have b_inner := F_inner.binds (ps := ["part"]) fun _ _ _ _ _ _ us hl => match us, hl with | [_], _ => rfl
  have g_inner := PySem.W.mg_of X G a_inner
  have F_check := fun_mk (st := sCheck) l_check c_check k_check
  have b_check := F_check.binds (ps := ["lamps", "value"]) fun _ _ _ _ _ _ us hl => match us, hl with | [_, _], _ => rfl
  have g_check := PySem.W.mg_of X G a_check
  have F_holdsFor := fun_mk (st := sHoldsFor) l_holdsFor c_holdsFor k_holdsFor
  have b_holdsFor := F_holdsFor.binds (ps := ["sentence", "lit"]) fun _ _ _ _ _ _ us hl => match us, hl with | [_, _], _ => rfl
  have g_holdsFor := PySem.W.mg_of X G a_holdsFor
  have F_holds := fun_mk (st := sHoldsG) l_holds c_holds k_holds
  have b_holds := F_holds.binds (ps := ["goal", "kept"]) fun _ _ _ _ _ _ us hl => match us, hl with | [_, _], _ => rfl
  have g_holds := PySem.W.mg_of X G a_holds
  have F_parts := fun_mk (st := sParts) l_parts c_parts k_parts
  have b_parts := F_parts.binds (ps := ["goal", "lit"]) fun _ _ _ _ _ _ us hl => match us, hl with | [_, _], _ => rfl
  have g_parts := PySem.W.mg_of X G a_parts
  have F_bag := fun_mk (st := sBag) l_bag c_bag k_bag
  have b_bag := F_bag.binds (ps := ["_law_script"]) fun _ _ _ _ _ _ us hl => match us, hl with | [_], _ => rfl
  have g_bag := PySem.W.mg_of X G a_bag
  have F_pull := fun_mk (st := sPull) l_pull c_pull k_pull
  have b_pull := F_pull.binds (ps := ["_law_bag_here", "_law_many"]) fun _ _ _ _ _ _ us hl => match us, hl with | [_, _], _ => rfl
  have g_pull := PySem.W.mg_of X G a_pull
  have F_of := fun_mk (st := sOf) l_of c_of k_of
  have b_of := F_of.binds (ps := ["_law_bag_here", "_law_some"]) fun _ _ _ _ _ _ us hl => match us, hl with | [_, _], _ => rfl
  have g_of := PySem.W.mg_of X G a_of
  have F_lawSets := fun_mk (st := sLawSets) l_lawSets c_lawSets k_lawSets
  have b_lawSets := F_lawSets.binds (ps := ["_law_lamps_here"]) fun _ _ _ _ _ _ us hl => match us, hl with | [_], _ => rfl
  have g_lawSets := PySem.W.mg_of X G a_lawSets
  have F_union := fun_mk (st := sUnion) l_union c_union k_union
  have b_union := F_union.binds (ps := ["_law_sets_here"]) fun _ _ _ _ _ _ us hl => match us, hl with | [_], _ => rfl
  have g_union := PySem.W.mg_of X G a_union
  have F_lawLamps := fun_mk (st := sLawLamps) l_lawLamps c_lawLamps k_lawLamps
  have b_lawLamps := F_lawLamps.binds (ps := ["_law_bag_here", "_law_most"]) fun _ _ _ _ _ _ us hl => match us, hl with | [_, _], _ => rfl
  have g_lawLamps := PySem.W.mg_of X G a_lawLamps
  have F_lits := fun_mk (st := sLits) l_lits c_lits k_lits
  have b_lits := F_lits.binds (ps := ["_law_bag_here", "_law_lamps_here"]) fun _ _ _ _ _ _ us hl => match us, hl with | [_, _], _ => rfl
  have g_lits := PySem.W.mg_of X G a_lits
  have F_sent := fun_mk (st := sSent) l_sent c_sent k_sent
  have b_sent := F_sent.binds (ps := ["_law_bag_here", "_law_lamps_here", "_law_deep"]) fun _ _ _ _ _ _ us hl => match us, hl with | [_, _, _], _ => rfl
  have g_sent := PySem.W.mg_of X G a_sent
  have F_lawHolds := fun_mk (st := sLawHolds) l_lawHolds c_lawHolds k_lawHolds
  have b_lawHolds := F_lawHolds.binds (ps := ["_law_sentence_here", "_law_lit"]) fun _ _ _ _ _ _ us hl => match us, hl with | [_, _], _ => rfl
  have g_lawHolds := PySem.W.mg_of X G a_lawHolds
  have F_aim := fun_mk (st := sAim) l_aim c_aim k_aim
  have b_aim := F_aim.binds (ps := ["_law_bag_here", "_law_lamps_here"]) fun _ _ _ _ _ _ us hl => match us, hl with | [_, _], _ => rfl
  have g_aim := PySem.W.mg_of X G a_aim
  have F_renamed := fun_mk (st := sRenamed) l_renamed c_renamed k_renamed
  have b_renamed := F_renamed.binds (ps := ["_law_table", "_law_lit"]) fun _ _ _ _ _ _ us hl => match us, hl with | [_, _], _ => rfl
  have g_renamed := PySem.W.mg_of X G a_renamed
  have F_law := fun_mk (st := sLaw) l_law c_law k_law
  have F_gInit := fun_mk (st := sGoalInit) l_gInit c_gInit k_gInit
  have b_gInit := F_gInit.binds (ps := ["self", "lamps", "sentence"]) fun _ _ _ _ _ _ us hl => match us, hl with | [_, _, _], _ => rfl
  have F_gSets := fun_mk (st := sOfSets) l_gSets c_gSets k_gSets
  have F_gLamps := fun_mk (st := sGoalLamps) l_gLamps c_gLamps k_gLamps
  have b_gLamps := F_gLamps.binds (ps := ["self"]) fun _ _ _ _ _ _ us hl => match us, hl with | [_], _ => rfl
  have F_gCall := fun_mk (st := sGoalCall) l_gCall c_gCall k_gCall
  have b_gCall := F_gCall.binds (ps := ["self", "kept"]) fun _ _ _ _ _ _ us hl => match us, hl with | [_, _], _ => rfl
  have F_gInv := fun_mk (st := sGoalInv) l_gInv c_gInv k_gInv
  have b_gInv := F_gInv.binds (ps := ["self"]) fun _ _ _ _ _ _ us hl => match us, hl with | [_], _ => rfl
  have F_tInit := fun_mk (st := sTreeInit) l_tInit c_tInit k_tInit
  have b_tInit := F_tInit.binds (ps := ["self", "goal"]) fun _ _ _ _ _ _ us hl => match us, hl with | [_, _], _ => rfl
  have F_tFrom := fun_mk (st := sBranchesFrom) l_tFrom c_tFrom k_tFrom
  have b_tFrom := F_tFrom.binds (ps := ["self", "lit"]) fun _ _ _ _ _ _ us hl => match us, hl with | [_, _], _ => rfl
  have F_tBr := fun_mk (st := sBranches) l_tBr c_tBr k_tBr
  have F_tHeight := fun_mk (st := sHeight) l_tHeight c_tHeight k_tHeight
  have b_tHeight := F_tHeight.binds (ps := ["self"]) fun _ _ _ _ _ _ us hl => match us, hl with | [_], _ => rfl
  have F_tFav := fun_mk (st := sFavours) l_tFav c_tFav k_tFav
  have b_tFav := F_tFav.binds (ps := ["self", "lit", "hand"]) fun _ _ _ _ _ _ us hl => match us, hl with | [_, _, _], _ => rfl
  have F_tWorthOf := fun_mk (st := sWorthOf) l_tWorthOf c_tWorthOf k_tWorthOf
  have b_tWorthOf := F_tWorthOf.binds (ps := ["self", "lit", "hand"]) fun _ _ _ _ _ _ us hl => match us, hl with | [_, _, _], _ => rfl
  have F_tWorth := fun_mk (st := sWorth) l_tWorth c_tWorth k_tWorth
  have b_tWorth := F_tWorth.binds (ps := ["self", "hand"]) fun _ _ _ _ _ _ us hl => match us, hl with | [_, _], _ => rfl
  have B : Bt mg := ⟨PySem.W.mg_none_of X G z_isinstance, PySem.W.mg_none_of X G z_int, PySem.W.mg_none_of X G z_bool, PySem.W.mg_none_of X G z_str, PySem.W.mg_none_of X G z_tuple, PySem.W.mg_none_of X G z_list, PySem.W.mg_none_of X G z_dict, PySem.W.mg_none_of X G z_len, PySem.W.mg_none_of X G z_all, PySem.W.mg_none_of X G z_any, PySem.W.mg_none_of X G z_zip, PySem.W.mg_none_of X G z_sorted, PySem.W.mg_none_of X G z_max, PySem.W.mg_none_of X G z_sum, PySem.W.mg_none_of X G z_abs, PySem.W.mg_none_of X G z_range, ⟨_, PySem.W.mg_of X G y_LETTERS⟩, ⟨_, PySem.W.mg_of X G y_MOST_LAMPS⟩, ⟨_, PySem.W.mg_of X G y_MOST_PARTS⟩, ⟨_, PySem.W.mg_of X G y_MOST_SETS⟩⟩
  have Cg : GoalC K CG := ⟨⟨pg_CG, hd_CG, po_CG, sa_CG⟩, n0_CG, n1_CG, n2_CG⟩
  have Ct : TreeC K CT := ⟨⟨pg_CT, hd_CT, po_CT, sa_CT⟩, n0_CT, n1_CT⟩
  have G_isInteger : Gv P w K mg base "is_integer" 1 f_isInteger _ ["value", "least", "most"] _ := ⟨ok_is_integer F_isInteger B, g_isInteger, k_isInteger, b_isInteger⟩
  have G_isHand : Gv P w K mg base "is_hand" 2 f_isHand _ ["value"] _ := ⟨ok_is_hand F_isHand G_isInteger, g_isHand, k_isHand, b_isHand⟩
  have G_needHand : Gv P w K mg base "need_hand" 3 f_needHand _ ["hand"] _ := ⟨ok_need_hand F_needHand G_isHand, g_needHand, k_needHand, b_needHand⟩
  have G_isRising : Gv P w K mg base "is_rising" 1 f_isRising _ ["value"] _ := ⟨ok_is_rising F_isRising B, g_isRising, k_isRising, b_isRising⟩
  have G_isLamps : Gv P w K mg base "is_lamps" 2 f_isLamps _ ["value"] _ := ⟨ok_is_lamps F_isLamps B G_isRising, g_isLamps, k_isLamps, b_isLamps⟩
  have G_isSet : Gv P w K mg base "is_set" 2 f_isSet _ ["value", "lamps"] _ := ⟨ok_is_set F_isSet B G_isRising, g_isSet, k_isSet, b_isSet⟩
  have G_needLamps : Gv P w K mg base "need_lamps" 3 f_needLamps _ ["lamps"] _ := ⟨ok_need_lamps F_needLamps G_isLamps, g_needLamps, k_needLamps, b_needLamps⟩
  have G_setsOf : Gv P w K mg base "sets_of" 3 f_setsOf _ ["lamps"] _ := ⟨ok_sets_of F_setsOf B F_key b_key g_key, g_setsOf, k_setsOf, b_setsOf⟩
  have G_within : Gv P w K mg base "is_within" 1 f_within _ ["one", "other"] _ := ⟨ok_is_within F_within B, g_within, k_within, b_within⟩
  have G_isPart : Gv P w K mg base "is_part" 3 f_isPart _ ["lamps", "value"] _ := ⟨ok_is_part F_isPart B G_isSet G_isInteger, g_isPart, k_isPart, b_isPart⟩
  have G_inner : Gv P w K mg base "inner" 1 f_inner _ ["part"] _ := ⟨ok_inner F_inner B, g_inner, k_inner, b_inner⟩
  have G_check : Gv P w K mg base "check_sentence" 4 f_check _ ["lamps", "value"] _ := ⟨ok_check F_check B G_needLamps G_isPart G_inner, g_check, k_check, b_check⟩
  have H0 : Gv P w K mg base "holds_for" 1 f_holdsFor _ ["sentence", "lit"] (spHolds 0) := ⟨holds_step F_holdsFor B 0 (fun m e => nomatch e), g_holdsFor, k_holdsFor, b_holdsFor⟩
  have H1 : Gv P w K mg base "holds_for" 2 f_holdsFor _ ["sentence", "lit"] (spHolds 1) := ⟨holds_step F_holdsFor B 1 (fun m e => by cases e; exact H0), g_holdsFor, k_holdsFor, b_holdsFor⟩
  have H2 : Gv P w K mg base "holds_for" 3 f_holdsFor _ ["sentence", "lit"] (spHolds 2) := ⟨holds_step F_holdsFor B 2 (fun m e => by cases e; exact H1), g_holdsFor, k_holdsFor, b_holdsFor⟩
  have GGi : Gk P w K mg base "Goal" CG 5 f_gInit _ ["self", "lamps", "sentence"] (spGoalInit CG) := ⟨ok_goal_init F_gInit B Cg G_check G_setsOf H2, ⟨mk_CG, a_gInit, i_gInit, kc_CG⟩, PySem.W.mg_of X G cG, b_gInit⟩
  have GL : Gp P w K mg base CG "lamps" 1 p_gLamps f_gLamps _ ["self"] (spGoalLamps CG) := ⟨ok_goal_lamps F_gLamps Cg, ⟨a_gLamps, g_gLamps, t_gLamps, ⟨_, u_gLamps⟩⟩, b_gLamps⟩
  have G_holds : Gv P w K mg base "holds" 3 f_holds _ ["goal", "kept"] _ := ⟨ok_holds F_holds Cg G_isSet GL, g_holds, k_holds, b_holds⟩
  have GC : Gc P w K mg base CG 4 f_gCall _ ["self", "kept"] (spHoldsG CG) := ⟨ok_goal_call F_gCall G_holds, ⟨a_gCall, i_gCall, j_gCall⟩, b_gCall⟩
  have GO : Gs P w K mg base "Goal" CG "of_sets" 7 p_gSets f_gSets (spOfSets CG) := ⟨ok_of_sets F_gSets Cg G_needLamps G_isSet G_setsOf GGi, ⟨t_gSets, a_gSets, ⟨_, u_gSets⟩, k_gSets⟩, PySem.W.mg_of X G cG⟩
  have GI : Gi P w K mg base CG 8 f_gInv _ ["self"] (spInv CG) := ⟨ok_inv F_gInv Cg G_setsOf GO, a_gInv, i_gInv, b_gInv⟩
  have G_parts : Gv P w K mg base "parts_of_set" 5 f_parts _ ["goal", "lit"] _ := ⟨ok_parts F_parts B G_setsOf G_within GC, g_parts, k_parts, b_parts⟩
  have GT : Gk P w K mg base "Tree" CT 6 f_tInit _ ["self", "goal"] (spTreeInit CT CG) := ⟨ok_tree_init F_tInit B Cg Ct G_parts G_setsOf GL, ⟨mk_CT, a_tInit, i_tInit, kc_CT⟩, PySem.W.mg_of X G cT, b_tInit⟩
  have B0 : Gm P w K mg base CT "branches_from" 1 f_tFrom _ ["self", "lit"] (spBranches CT CG 0) := ⟨branches_step F_tFrom Ct 0 (by decide) (fun m e => nomatch e), ⟨a_tFrom, i_tFrom, k_tFrom⟩, b_tFrom⟩
  have B1 : Gm P w K mg base CT "branches_from" 2 f_tFrom _ ["self", "lit"] (spBranches CT CG 1) := ⟨branches_step F_tFrom Ct 1 (by decide) (fun m e => by cases e; exact B0), ⟨a_tFrom, i_tFrom, k_tFrom⟩, b_tFrom⟩
  have B2 : Gm P w K mg base CT "branches_from" 3 f_tFrom _ ["self", "lit"] (spBranches CT CG 2) := ⟨branches_step F_tFrom Ct 2 (by decide) (fun m e => by cases e; exact B1), ⟨a_tFrom, i_tFrom, k_tFrom⟩, b_tFrom⟩
  have B3 : Gm P w K mg base CT "branches_from" 4 f_tFrom _ ["self", "lit"] (spBranches CT CG 3) := ⟨branches_step F_tFrom Ct 3 (by decide) (fun m e => by cases e; exact B2), ⟨a_tFrom, i_tFrom, k_tFrom⟩, b_tFrom⟩
  have B4 : Gm P w K mg base CT "branches_from" 5 f_tFrom _ ["self", "lit"] (spBranches CT CG 4) := ⟨branches_step F_tFrom Ct 4 (by decide) (fun m e => by cases e; exact B3), ⟨a_tFrom, i_tFrom, k_tFrom⟩, b_tFrom⟩
  have GH : Gm P w K mg base CT "height" 6 f_tHeight _ ["self"] (spHeight CT CG) := ⟨ok_height F_tHeight B Cg Ct B4 GL, ⟨a_tHeight, i_tHeight, k_tHeight⟩, b_tHeight⟩
  have GF : Gm P w K mg base CT "favours" 5 f_tFav _ ["self", "lit", "hand"] (spFavours CT CG) := ⟨ok_favours F_tFav Ct GC, ⟨a_tFav, i_tFav, k_tFav⟩, b_tFav⟩
  have W0 : Gm P w K mg base CT "worth_of" 6 f_tWorthOf _ ["self", "lit", "hand"] (spWorthOf CT CG 0) := ⟨worth_step F_tWorthOf B Ct GF 0 (fun m e => nomatch e), ⟨a_tWorthOf, i_tWorthOf, k_tWorthOf⟩, b_tWorthOf⟩
  have W1 : Gm P w K mg base CT "worth_of" 7 f_tWorthOf _ ["self", "lit", "hand"] (spWorthOf CT CG 1) := ⟨worth_step F_tWorthOf B Ct GF 1 (fun m e => by cases e; exact W0), ⟨a_tWorthOf, i_tWorthOf, k_tWorthOf⟩, b_tWorthOf⟩
  have W2 : Gm P w K mg base CT "worth_of" 8 f_tWorthOf _ ["self", "lit", "hand"] (spWorthOf CT CG 2) := ⟨worth_step F_tWorthOf B Ct GF 2 (fun m e => by cases e; exact W1), ⟨a_tWorthOf, i_tWorthOf, k_tWorthOf⟩, b_tWorthOf⟩
  have W3 : Gm P w K mg base CT "worth_of" 9 f_tWorthOf _ ["self", "lit", "hand"] (spWorthOf CT CG 3) := ⟨worth_step F_tWorthOf B Ct GF 3 (fun m e => by cases e; exact W2), ⟨a_tWorthOf, i_tWorthOf, k_tWorthOf⟩, b_tWorthOf⟩
  have W4 : Gm P w K mg base CT "worth_of" 10 f_tWorthOf _ ["self", "lit", "hand"] (spWorthOf CT CG 4) := ⟨worth_step F_tWorthOf B Ct GF 4 (fun m e => by cases e; exact W3), ⟨a_tWorthOf, i_tWorthOf, k_tWorthOf⟩, b_tWorthOf⟩
  have GW : Gm P w K mg base CT "worth" 11 f_tWorth _ ["self", "hand"] (spWorth CT CG) := ⟨ok_worth F_tWorth Cg Ct G_needHand W4 GL, ⟨a_tWorth, i_tWorth, k_tWorth⟩, b_tWorth⟩
  have GB : Gg K CT "branches" f_tBr sBranches := ⟨⟨_, _, _, F_tBr⟩, ⟨a_tBr, i_tBr, k_tBr⟩, fun _ _ _ _ _ _ _ _ us hl => match us, hl with | [_], _ => rfl, rfl, rfl, rfl, rfl⟩
  have G_bag : Gv P w K mg base "_law_bag" 1 f_bag _ ["_law_script"] _ := ⟨ok_bag F_bag B, g_bag, k_bag, b_bag⟩
  have G_pull : Gv P w K mg base "_law_pull" 1 f_pull _ ["_law_bag_here", "_law_many"] _ := ⟨ok_pull F_pull B, g_pull, k_pull, b_pull⟩
  have G_of : Gv P w K mg base "_law_of" 2 f_of _ ["_law_bag_here", "_law_some"] _ := ⟨ok_of F_of B G_pull, g_of, k_of, b_of⟩
  have G_lawLamps : Gv P w K mg base "_law_lamps" 3 f_lawLamps _ ["_law_bag_here", "_law_most"] _ := ⟨ok_law_lamps F_lawLamps B G_of, g_lawLamps, k_lawLamps, b_lawLamps⟩
  have G_lits : Gv P w K mg base "_law_lits" 2 f_lits _ ["_law_bag_here", "_law_lamps_here"] _ := ⟨ok_lits F_lits G_pull, g_lits, k_lits, b_lits⟩
  have S0 : Gv P w K mg base "_law_sentence" 3 f_sent _ ["_law_bag_here", "_law_lamps_here", "_law_deep"] (spSent 0) := ⟨sent_step F_sent B G_pull G_of G_lits 0 (by decide) (fun m e => nomatch e), g_sent, k_sent, b_sent⟩
  have S1 : Gv P w K mg base "_law_sentence" 4 f_sent _ ["_law_bag_here", "_law_lamps_here", "_law_deep"] (spSent 1) := ⟨sent_step F_sent B G_pull G_of G_lits 1 (by decide) (fun m e => by cases e; exact S0), g_sent, k_sent, b_sent⟩
  have S2 : Gv P w K mg base "_law_sentence" 5 f_sent _ ["_law_bag_here", "_law_lamps_here", "_law_deep"] (spSent 2) := ⟨sent_step F_sent B G_pull G_of G_lits 2 (by decide) (fun m e => by cases e; exact S1), g_sent, k_sent, b_sent⟩
  have L0 : Gv P w K mg base "_law_holds" 1 f_lawHolds _ ["_law_sentence_here", "_law_lit"] (spHolds 0) := ⟨law_holds_step F_lawHolds B 0 (fun m e => nomatch e), g_lawHolds, k_lawHolds, b_lawHolds⟩
  have L1 : Gv P w K mg base "_law_holds" 2 f_lawHolds _ ["_law_sentence_here", "_law_lit"] (spHolds 1) := ⟨law_holds_step F_lawHolds B 1 (fun m e => by cases e; exact L0), g_lawHolds, k_lawHolds, b_lawHolds⟩
  have L2 : Gv P w K mg base "_law_holds" 3 f_lawHolds _ ["_law_sentence_here", "_law_lit"] (spHolds 2) := ⟨law_holds_step F_lawHolds B 2 (fun m e => by cases e; exact L1), g_lawHolds, k_lawHolds, b_lawHolds⟩
  have FC : FunC K "_law_sets" sLawSets f_lawSets _ c := ⟨_, _, _, _, _, _, _, _, rfl, l_lawSets, c_lawSets⟩
  have G_lawSets : Gv P w K mg base "_law_sets" 4 f_lawSets _ ["_law_lamps_here"] _ := ⟨ok_law_sets (Pt := Pt) FC B TB, g_lawSets, k_lawSets, b_lawSets⟩
  have G_union : Gv P w K mg base "_law_union" 1 f_union _ ["_law_sets_here"] _ := ⟨ok_union F_union B, g_union, k_union, b_union⟩
  have G_renamed : Gv P w K mg base "_law_renamed" 1 f_renamed _ ["_law_table", "_law_lit"] _ := ⟨ok_renamed F_renamed, g_renamed, k_renamed, b_renamed⟩
  have G_aim : Gv P w K mg base "_law_aim" 6 f_aim _ ["_law_bag_here", "_law_lamps_here"] _ := ⟨ok_aim F_aim B G_pull G_lawSets S2 L2, g_aim, k_aim, b_aim⟩
  exact ⟨B, Cg, Ct, ⟨_, _, G_bag⟩, ⟨_, _, G_lawLamps⟩, ⟨_, _, G_of⟩, ⟨_, _, G_aim⟩, ⟨_, _, G_renamed⟩, ⟨_, _, G_union⟩, ⟨_, _, GGi⟩, ⟨_, _, GT⟩, ⟨_, _, GI⟩, ⟨_, _, GW⟩, ⟨_, _, GH⟩, ⟨_, _, B4⟩, ⟨_, _, _, GL⟩, ⟨_, GB⟩⟩
end RG

end

section
set_option Elab.async false
set_option maxRecDepth 100000
set_option maxHeartbeats 0
open PySem PySem.W PyProof.Rows
open_top rgHead for PySem.Challenge.rw_relitgoals_k11_whole_trees_renamed_and_o

end

section
set_option Elab.async false
set_option linter.all false
set_option maxRecDepth 100000
set_option maxHeartbeats 0
open PySem PySem.W PyProof.Rows
theorem PySem.Challenge.cw_relitgoals_k11_whole_trees_renamed_and_o_holds : PySem.Challenge.rw_relitgoals_k11_whole_trees_renamed_and_o.Holds :=
  rgHead (by
    k_fill
    refine RG.walk_end (l := PySem.Challenge.rw_relitgoals_k11_whole_trees_renamed_and_o) rfl rfl ?R (fun w h Y => PySem.W.km_in_of Y) ?F
    case R => with_unfolding_all rfl
    case F =>
      intro w mg fa h KX G hmg
      refine' RG.all_mk KX G hmg ?a_isInteger ?l_isInteger ?c_isInteger ?k_isInteger ?a_isHand ?l_isHand ?c_isHand ?k_isHand ?a_needHand ?l_needHand ?c_needHand ?k_needHand ?a_isRising ?l_isRising ?c_isRising ?k_isRising ?a_isLamps ?l_isLamps ?c_isLamps ?k_isLamps ?a_isSet ?l_isSet ?c_isSet ?k_isSet ?a_needLamps ?l_needLamps ?c_needLamps ?k_needLamps ?a_key ?l_key ?c_key ?k_key ?a_setsOf ?l_setsOf ?c_setsOf ?k_setsOf ?a_within ?l_within ?c_within ?k_within ?a_isPart ?l_isPart ?c_isPart ?k_isPart ?a_inner ?l_inner ?c_inner ?k_inner ?a_check ?l_check ?c_check ?k_check ?a_holdsFor ?l_holdsFor ?c_holdsFor ?k_holdsFor ?a_holds ?l_holds ?c_holds ?k_holds ?a_parts ?l_parts ?c_parts ?k_parts ?a_bag ?l_bag ?c_bag ?k_bag ?a_pull ?l_pull ?c_pull ?k_pull ?a_of ?l_of ?c_of ?k_of ?a_lawSets ?l_lawSets ?c_lawSets ?k_lawSets ?a_union ?l_union ?c_union ?k_union ?a_lawLamps ?l_lawLamps ?c_lawLamps ?k_lawLamps ?a_lits ?l_lits ?c_lits ?k_lits ?a_sent ?l_sent ?c_sent ?k_sent ?a_lawHolds ?l_lawHolds ?c_lawHolds ?k_lawHolds ?a_aim ?l_aim ?c_aim ?k_aim ?a_renamed ?l_renamed ?c_renamed ?k_renamed ?a_law ?l_law ?c_law ?k_law ?cG ?cT ?a_gInit ?i_gInit ?l_gInit ?c_gInit ?k_gInit ?t_gSets ?a_gSets ?u_gSets ?l_gSets ?c_gSets ?k_gSets ?a_gLamps ?g_gLamps ?t_gLamps ?u_gLamps ?l_gLamps ?c_gLamps ?k_gLamps ?a_gCall ?i_gCall ?j_gCall ?l_gCall ?c_gCall ?k_gCall ?a_gInv ?i_gInv ?l_gInv ?c_gInv ?k_gInv ?a_tInit ?i_tInit ?l_tInit ?c_tInit ?k_tInit ?a_tFrom ?i_tFrom ?l_tFrom ?c_tFrom ?k_tFrom ?a_tBr ?i_tBr ?l_tBr ?c_tBr ?k_tBr ?a_tHeight ?i_tHeight ?l_tHeight ?c_tHeight ?k_tHeight ?a_tFav ?i_tFav ?l_tFav ?c_tFav ?k_tFav ?a_tWorthOf ?i_tWorthOf ?l_tWorthOf ?c_tWorthOf ?k_tWorthOf ?a_tWorth ?i_tWorth ?l_tWorth ?c_tWorth ?k_tWorth ?pg_CG ?hd_CG ?po_CG ?sa_CG ?mk_CG ?kc_CG ?pg_CT ?hd_CT ?po_CT ?sa_CT ?mk_CT ?kc_CT ?n0_CG ?n1_CG ?n2_CG ?n0_CT ?n1_CT ?z_isinstance ?z_int ?z_bool ?z_str ?z_tuple ?z_list ?z_dict ?z_len ?z_all ?z_any ?z_zip ?z_sorted ?z_max ?z_sum ?z_abs ?z_range ?y_LETTERS ?y_MOST_LAMPS ?y_MOST_PARTS ?y_MOST_SETS ?lt ?ltb ?lno
      (case a_isInteger => k_is)
      (case l_isInteger => k_is)
      (case c_isInteger => k_is)
      (case k_isInteger => k_is)
      (case a_isHand => k_is)
      (case l_isHand => k_is)
      (case c_isHand => k_is)
      (case k_isHand => k_is)
      (case a_needHand => k_is)
      (case l_needHand => k_is)
      (case c_needHand => k_is)
      (case k_needHand => k_is)
      (case a_isRising => k_is)
      (case l_isRising => k_is)
      (case c_isRising => k_is)
      (case k_isRising => k_is)
      (case a_isLamps => k_is)
      (case l_isLamps => k_is)
      (case c_isLamps => k_is)
      (case k_isLamps => k_is)
      (case a_isSet => k_is)
      (case l_isSet => k_is)
      (case c_isSet => k_is)
      (case k_isSet => k_is)
      (case a_needLamps => k_is)
      (case l_needLamps => k_is)
      (case c_needLamps => k_is)
      (case k_needLamps => k_is)
      (case a_key => k_is)
      (case l_key => k_is)
      (case c_key => k_is)
      (case k_key => k_is)
      (case a_setsOf => k_is)
      (case l_setsOf => k_is)
      (case c_setsOf => k_is)
      (case k_setsOf => k_is)
      (case a_within => k_is)
      (case l_within => k_is)
      (case c_within => k_is)
      (case k_within => k_is)
      (case a_isPart => k_is)
      (case l_isPart => k_is)
      (case c_isPart => k_is)
      (case k_isPart => k_is)
      (case a_inner => k_is)
      (case l_inner => k_is)
      (case c_inner => k_is)
      (case k_inner => k_is)
      (case a_check => k_is)
      (case l_check => k_is)
      (case c_check => k_is)
      (case k_check => k_is)
      (case a_holdsFor => k_is)
      (case l_holdsFor => k_is)
      (case c_holdsFor => k_is)
      (case k_holdsFor => k_is)
      (case a_holds => k_is)
      (case l_holds => k_is)
      (case c_holds => k_is)
      (case k_holds => k_is)
      (case a_parts => k_is)
      (case l_parts => k_is)
      (case c_parts => k_is)
      (case k_parts => k_is)
      (case a_bag => k_is)
      (case l_bag => k_is)
      (case c_bag => k_is)
      (case k_bag => k_is)
      (case a_pull => k_is)
      (case l_pull => k_is)
      (case c_pull => k_is)
      (case k_pull => k_is)
      (case a_of => k_is)
      (case l_of => k_is)
      (case c_of => k_is)
      (case k_of => k_is)
      (case a_lawSets => k_is)
      (case l_lawSets => k_is)
      (case c_lawSets => k_is)
      (case k_lawSets => k_is)
      (case a_union => k_is)
      (case l_union => k_is)
      (case c_union => k_is)
      (case k_union => k_is)
      (case a_lawLamps => k_is)
      (case l_lawLamps => k_is)
      (case c_lawLamps => k_is)
      (case k_lawLamps => k_is)
      (case a_lits => k_is)
      (case l_lits => k_is)
      (case c_lits => k_is)
      (case k_lits => k_is)
      (case a_sent => k_is)
      (case l_sent => k_is)
      (case c_sent => k_is)
      (case k_sent => k_is)
      (case a_lawHolds => k_is)
      (case l_lawHolds => k_is)
      (case c_lawHolds => k_is)
      (case k_lawHolds => k_is)
      (case a_aim => k_is)
      (case l_aim => k_is)
      (case c_aim => k_is)
      (case k_aim => k_is)
      (case a_renamed => k_is)
      (case l_renamed => k_is)
      (case c_renamed => k_is)
      (case k_renamed => k_is)
      (case a_law => k_is)
      (case l_law => k_is)
      (case c_law => k_is)
      (case k_law => k_is)
      (case cG => k_is)
      (case cT => k_is)
      (case a_gInit => k_is)
      (case i_gInit => k_is)
      (case l_gInit => k_is)
      (case c_gInit => k_is)
      (case k_gInit => k_is)
      (case t_gSets => k_is)
      (case a_gSets => k_is)
      (case u_gSets => k_is)
      (case l_gSets => k_is)
      (case c_gSets => k_is)
      (case k_gSets => k_is)
      (case a_gLamps => k_is)
      (case g_gLamps => k_is)
      (case t_gLamps => k_is)
      (case u_gLamps => k_is)
      (case l_gLamps => k_is)
      (case c_gLamps => k_is)
      (case k_gLamps => k_is)
      (case a_gCall => k_is)
      (case i_gCall => k_is)
      (case j_gCall => k_is)
      (case l_gCall => k_is)
      (case c_gCall => k_is)
      (case k_gCall => k_is)
      (case a_gInv => k_is)
      (case i_gInv => k_is)
      (case l_gInv => k_is)
      (case c_gInv => k_is)
      (case k_gInv => k_is)
      (case a_tInit => k_is)
      (case i_tInit => k_is)
      (case l_tInit => k_is)
      (case c_tInit => k_is)
      (case k_tInit => k_is)
      (case a_tFrom => k_is)
      (case i_tFrom => k_is)
      (case l_tFrom => k_is)
      (case c_tFrom => k_is)
      (case k_tFrom => k_is)
      (case a_tBr => k_is)
      (case i_tBr => k_is)
      (case l_tBr => k_is)
      (case c_tBr => k_is)
      (case k_tBr => k_is)
      (case a_tHeight => k_is)
      (case i_tHeight => k_is)
      (case l_tHeight => k_is)
      (case c_tHeight => k_is)
      (case k_tHeight => k_is)
      (case a_tFav => k_is)
      (case i_tFav => k_is)
      (case l_tFav => k_is)
      (case c_tFav => k_is)
      (case k_tFav => k_is)
      (case a_tWorthOf => k_is)
      (case i_tWorthOf => k_is)
      (case l_tWorthOf => k_is)
      (case c_tWorthOf => k_is)
      (case k_tWorthOf => k_is)
      (case a_tWorth => k_is)
      (case i_tWorth => k_is)
      (case l_tWorth => k_is)
      (case c_tWorth => k_is)
      (case k_tWorth => k_is)
      (case pg_CG => k_is)
      (case hd_CG => k_is)
      (case po_CG => k_is)
      (case sa_CG => k_is)
      (case mk_CG => k_is)
      (case kc_CG => k_is)
      (case pg_CT => k_is)
      (case hd_CT => k_is)
      (case po_CT => k_is)
      (case sa_CT => k_is)
      (case mk_CT => k_is)
      (case kc_CT => k_is)
      (case n0_CG => k_is)
      (case n1_CG => k_is)
      (case n2_CG => k_is)
      (case n0_CT => k_is)
      (case n1_CT => k_is)
      (case z_isinstance => k_is)
      (case z_int => k_is)
      (case z_bool => k_is)
      (case z_str => k_is)
      (case z_tuple => k_is)
      (case z_list => k_is)
      (case z_dict => k_is)
      (case z_len => k_is)
      (case z_all => k_is)
      (case z_any => k_is)
      (case z_zip => k_is)
      (case z_sorted => k_is)
      (case z_max => k_is)
      (case z_sum => k_is)
      (case z_abs => k_is)
      (case z_range => k_is)
      (case y_LETTERS => k_is)
      (case y_MOST_LAMPS => k_is)
      (case y_MOST_PARTS => k_is)
      (case y_MOST_SETS => k_is)
      (case lt => k_is)
      (case ltb => rfl)
      (case lno => kernel_rfl))


end
