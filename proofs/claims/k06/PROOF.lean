import PyProof.Rows.All
import Wide.All
import OpenK.AllK
import Wide.FinOn
import HandS.Text
import HandS.Words
import HandS.Iter
import HandS.Walk
import KE.GoesMore
import HandS.ForMost
import HandS.SetFor
import PyProof.ReprRoads
import HandS.IsInst
import HandS.FStrTup
import PySem.Challenge.RW_envrows_k06_whole_written_forms_there_an
set_option Elab.async false
set_option linter.all false
set_option maxRecDepth 100000
set_option maxHeartbeats 4000000
/-! The mathematics: texts as data, their written form, the reader's run, its way back. -/
namespace Er
open PySem L2 TL

/-! ### signs -/
def capL : List Nat := [65, 66, 67, 68, 69, 70, 71, 72, 73, 74, 75, 76, 77, 78, 79, 80, 81, 82, 83, 84, 85, 86, 87, 88, 89, 90]
def capUL : List Nat := capL ++ [95]
def plL : List Nat := [97, 98, 99, 100, 101, 102, 103, 104, 105, 106, 107, 108, 109, 110, 111, 112, 113, 114, 115, 116, 117, 118, 119, 120, 121, 122,
  48, 49, 50, 51, 52, 53, 54, 55, 56, 57, 32, 95, 46, 47, 58, 61, 44, 64, 45]
def kindL : List Nat := [45, 43, 63, 61]
def signsL : List Str := ["", "-", ":-", "+", ":+", "?", ":?", "=", ":="]

/-- a name's signs -/
def okNL : List Nat → Bool
  | [] => false
  | c :: r => capL.contains c && r.all (fun d => capUL.contains d) && decide (r.length ≤ 7)
def okN (n : Str) : Prop := okNL (tl n) = true
def okP (s : Str) : Prop := 1 ≤ (tl s).length ∧ (tl s).length ≤ 20 ∧ ∀ c ∈ tl s, c ∈ plL
instance (n : Str) : Decidable (okN n) := inferInstanceAs (Decidable (_ = true))
instance (s : Str) : Decidable (okP s) := inferInstanceAs (Decidable (_ ∧ _ ∧ _))

theorem okN_cons {n : Str} (h : okN n) : ∃ c r, tl n = c :: r ∧ c ∈ capL ∧ (∀ d ∈ r, d ∈ capUL) ∧ r.length ≤ 7 := by
  unfold okN at h
  cases e : tl n with
  | nil =>
    rw [e] at h
    cases h
  | cons c r =>
    rw [e] at h
    have h' : (capL.contains c && r.all (fun d => capUL.contains d) && decide (r.length ≤ 7)) = true := h
    rw [Bool.and_eq_true, Bool.and_eq_true, List.all_eq_true] at h'
    obtain ⟨⟨h1, h2⟩, h3⟩ := h'
    exact ⟨c, r, rfl, List.contains_iff_mem.mp h1, fun d hd => List.contains_iff_mem.mp (h2 d hd), of_decide_eq_true h3⟩
theorem okN_len {n : Str} (h : okN n) : 1 ≤ (tl n).length ∧ (tl n).length ≤ 8 := by
  obtain ⟨c, r, e, _, _, h3⟩ := okN_cons h
  rw [e, List.length_cons]
  omega
theorem okN_all {n : Str} (h : okN n) : ∀ d ∈ tl n, d ∈ capUL := by
  obtain ⟨c, r, e, h1, h2, _⟩ := okN_cons h
  rw [e]
  intro d hd
  rcases List.mem_cons.mp hd with z | z
  · rw [z]
    exact List.mem_append_left _ h1
  · exact h2 d z

theorem sign_tl : ∀ {s : Str}, s ∈ signsL → tl s = [] ∨ (∃ k, k ∈ kindL ∧ tl s = [k]) ∨ ∃ k, k ∈ kindL ∧ tl s = [58, k] := by
  intro s h
  have e0 : tl ("" : Str) = [] := by decide +kernel
  have e1 : tl ("-" : Str) = [45] := by decide +kernel
  have e2 : tl (":-" : Str) = [58, 45] := by decide +kernel
  have e3 : tl ("+" : Str) = [43] := by decide +kernel
  have e4 : tl (":+" : Str) = [58, 43] := by decide +kernel
  have e5 : tl ("?" : Str) = [63] := by decide +kernel
  have e6 : tl (":?" : Str) = [58, 63] := by decide +kernel
  have e7 : tl ("=" : Str) = [61] := by decide +kernel
  have e8 : tl (":=" : Str) = [58, 61] := by decide +kernel
  unfold signsL at h
  simp only [List.mem_cons, List.not_mem_nil, or_false] at h
  rcases h with h | h | h | h | h | h | h | h | h <;> subst h
  · exact .inl e0
  · exact .inr (.inl ⟨45, by decide, e1⟩)
  · exact .inr (.inr ⟨45, by decide, e2⟩)
  · exact .inr (.inl ⟨43, by decide, e3⟩)
  · exact .inr (.inr ⟨43, by decide, e4⟩)
  · exact .inr (.inl ⟨63, by decide, e5⟩)
  · exact .inr (.inr ⟨63, by decide, e6⟩)
  · exact .inr (.inl ⟨61, by decide, e7⟩)
  · exact .inr (.inr ⟨61, by decide, e8⟩)
theorem sign_len {s : Str} (h : s ∈ signsL) : (tl s).length ≤ 2 := by
  rcases sign_tl h with e | ⟨k, _, e⟩ | ⟨k, _, e⟩ <;> rw [e] <;> simp
theorem tl_empty : tl ("" : Str) = [] := by decide +kernel
theorem sign_nil {s : Str} (e : tl s = []) : s = ("" : Str) := ext_tl (e.trans tl_empty.symm)

theorem strOk_of {s : Str} (h : ∀ c ∈ tl s, c < 1114112) : PyData.strOk s = true := by
  unfold PyData.strOk
  rw [← Array.all_toList]
  exact List.all_eq_true.mpr fun c hc => decide_eq_true (h c hc)
theorem of_strOk {s : Str} (h : PyData.strOk s = true) : ∀ c ∈ tl s, c < 1114112 := by
  unfold PyData.strOk at h
  rw [← Array.all_toList] at h
  exact fun c hc => of_decide_eq_true (List.all_eq_true.mp h c hc)
theorem plL_lt : ∀ c ∈ plL, c < 1114112 := by decide
theorem capUL_lt : ∀ c ∈ capUL, c < 1114112 := by decide
theorem okN_ok {n : Str} (h : okN n) : PyData.strOk n = true := strOk_of fun c hc => capUL_lt c (okN_all h c hc)
theorem sign_ok {s : Str} (h : s ∈ signsL) : PyData.strOk s = true := strOk_of fun c hc => by
  have hk : ∀ k ∈ kindL, k < 1114112 := by decide
  rcases sign_tl h with e | ⟨k, h1, e⟩ | ⟨k, h1, e⟩ <;> rw [e] at hc
  · exact nomatch hc
  · rw [List.mem_singleton.mp hc]
    exact hk k h1
  · rcases List.mem_cons.mp hc with z | z
    · rw [z]
      decide
    · rw [List.mem_singleton.mp z]
      exact hk k h1

/-! ### texts -/
inductive T where
  | nil
  | plain (s : Str) (r : T)
  | part (n s : Str) (u r : T)

namespace T
def len : T → Nat
  | nil => 0
  | plain _ r => r.len + 1
  | part _ _ _ r => r.len + 1
def app : T → T → T
  | nil, t => t
  | plain s r, t => plain s (r.app t)
  | part n s u r, t => part n s u (r.app t)
/-- whether the last piece is plain; b: of the piece ahead -/
def lastB : Bool → T → Bool
  | b, nil => b
  | _, plain _ r => lastB true r
  | _, part _ _ _ r => lastB false r
def wr : T → List Nat
  | nil => []
  | plain s r => tl s ++ wr r
  | part n s u r => 36 :: 123 :: (tl n ++ (tl s ++ (wr u ++ 125 :: wr r)))
/-- what its signs may come to -/
def wS : T → Nat
  | nil => 0
  | plain s r => 10 * (tl s).length + 4 + wS r
  | part n s u r => 10 * (tl n).length + 10 * (tl s).length + 16 + wS u + wS r
def names : T → List Str
  | nil => []
  | plain _ r => names r
  | part n _ u r => n :: (names u ++ names r)
def dat : T → List PyData
  | nil => []
  | plain s r => .str s :: dat r
  | part n s u r => .tuple [.str n, .str s, .tuple (dat u)] :: dat r
/-- of at most l levels, good pieces, no two plain ones side by side (b: the piece ahead is plain) -/
def gd : T → Nat → Bool → Prop
  | nil, _, _ => True
  | plain s r, l, b => b = false ∧ okP s ∧ gd r l true
  | part n s u r, l, _ => okN n ∧ s ∈ signsL ∧ (s = ("" : Str) → u = nil) ∧ (s ≠ ("" : Str) → 2 ≤ l ∧ u.len ≤ 8 ∧ gd u (l - 1) false) ∧ gd r l false
/-- how deep the parts stand in one another -/
def dp : T → Nat
  | nil => 1
  | plain _ r => dp r
  | part _ _ u r => max (dp u + 1) (dp r)

/-- its signs are signs -/
def lay : T → Bool
  | nil => true
  | plain s r => PyData.strOk s && lay r
  | part n s u r => (PyData.strOk n && PyData.strOk s) && (lay u && lay r)
theorem lay_app : ∀ a b : T, (a.app b).lay = (a.lay && b.lay)
  | nil, b => (Bool.true_and _).symm
  | plain s r, b => by
    show (PyData.strOk s && (r.app b).lay) = ((PyData.strOk s && r.lay) && b.lay)
    rw [lay_app r b, Bool.and_assoc]
  | part n s u r, b => by
    show ((PyData.strOk n && PyData.strOk s) && (u.lay && (r.app b).lay)) = (((PyData.strOk n && PyData.strOk s) && (u.lay && r.lay)) && b.lay)
    rw [lay_app r b]
    simp only [Bool.and_assoc]
theorem lay_dat : ∀ t : T, t.lay = true → PyData.canLayAll0 t.dat = true
  | nil, _ => by simp only [dat, PyData.canLayAll0]
  | plain s r, h => by
    have h' : (PyData.strOk s && r.lay) = true := h
    rw [Bool.and_eq_true] at h'
    simp only [dat, PyData.canLayAll0, PyData.canLay0, h'.1, lay_dat r h'.2, Bool.and_self]
  | part n s u r, h => by
    have h' : ((PyData.strOk n && PyData.strOk s) && (u.lay && r.lay)) = true := h
    rw [Bool.and_eq_true, Bool.and_eq_true, Bool.and_eq_true] at h'
    simp only [dat, PyData.canLayAll0, PyData.canLay0, h'.1.1, h'.1.2, lay_dat u h'.2.1, lay_dat r h'.2.2, Bool.and_self]
theorem app_nil : ∀ t : T, t.app nil = t
  | nil => rfl
  | plain s r => by
    show plain s (r.app nil) = _
    rw [app_nil r]
  | part n s u r => by
    show part n s u (r.app nil) = _
    rw [app_nil r]
theorem app_assoc : ∀ a b c : T, (a.app b).app c = a.app (b.app c)
  | nil, _, _ => rfl
  | plain s r, b, c => by
    show plain s ((r.app b).app c) = plain s (r.app (b.app c))
    rw [app_assoc r b c]
  | part n s u r, b, c => by
    show part n s u ((r.app b).app c) = part n s u (r.app (b.app c))
    rw [app_assoc r b c]
theorem len_app : ∀ a b : T, (a.app b).len = a.len + b.len
  | nil, b => by
    show b.len = 0 + b.len
    omega
  | plain s r, b => by
    show (r.app b).len + 1 = r.len + 1 + b.len
    rw [len_app r b]
    omega
  | part n s u r, b => by
    show (r.app b).len + 1 = r.len + 1 + b.len
    rw [len_app r b]
    omega
theorem lastB_app : ∀ (a b : T) (x : Bool), (a.app b).lastB x = b.lastB (a.lastB x)
  | nil, _, _ => rfl
  | plain s r, b, x => lastB_app r b true
  | part n s u r, b, x => lastB_app r b false
/-- a text whose last piece is plain -/
theorem last_plain : ∀ (a : T) (x : Bool), a.lastB x = true → (a = nil ∧ x = true) ∨ ∃ (b : T) (s : Str), a = b.app (plain s nil)
  | nil, x, h => .inl ⟨rfl, h⟩
  | plain s r, x, h => by
    rcases last_plain r true h with ⟨e, _⟩ | ⟨b, s', e⟩
    · exact .inr ⟨nil, s, by rw [e]; rfl⟩
    · exact .inr ⟨plain s b, s', by rw [e]; rfl⟩
  | part n s u r, x, h => by
    rcases last_plain r false h with ⟨_, e⟩ | ⟨b, s', e⟩
    · cases e
    · exact .inr ⟨part n s u b, s', by rw [e]; rfl⟩
theorem wr_len : ∀ t : T, (wr t).length ≤ wS t
  | nil => Nat.le_refl _
  | plain s r => by
    have h := wr_len r
    show (tl s ++ wr r).length ≤ 10 * (tl s).length + 4 + wS r
    rw [List.length_append]
    omega
  | part n s u r => by
    have h1 := wr_len u
    have h2 := wr_len r
    show (36 :: 123 :: (tl n ++ (tl s ++ (wr u ++ 125 :: wr r)))).length ≤ 10 * (tl n).length + 10 * (tl s).length + 16 + wS u + wS r
    simp only [List.length_cons, List.length_append]
    omega
theorem gd_lay : ∀ (t : T) (l : Nat) (b : Bool), gd t l b → t.lay = true
  | nil, _, _, _ => rfl
  | plain s r, l, b, h => by
    show (PyData.strOk s && r.lay) = true
    rw [strOk_of (s := s) fun c hc => plL_lt c (h.2.1.2.2 c hc), gd_lay r l true h.2.2]
    rfl
  | part n s u r, l, b, h => by
    obtain ⟨h1, h2, h3, h4, h5⟩ := h
    have hu : u.lay = true := by
      by_cases e : s = ("" : Str)
      · rw [h3 e]
        rfl
      · exact gd_lay u (l - 1) false (h4 e).2.2
    show ((PyData.strOk n && PyData.strOk s) && (u.lay && r.lay)) = true
    rw [okN_ok h1, sign_ok h2, hu, gd_lay r l false h5]
    rfl
theorem gd_dp : ∀ (t : T) (l : Nat) (b : Bool), 1 ≤ l → gd t l b → dp t ≤ l + 1
  | nil, l, b, _, _ => by
    show 1 ≤ l + 1
    omega
  | plain s r, l, b, hl, h => gd_dp r l true hl h.2.2
  | part n s u r, l, b, hl, h => by
    obtain ⟨_, _, h1, h2, h3⟩ := h
    have q := gd_dp r l false hl h3
    show max (dp u + 1) (dp r) ≤ l + 1
    by_cases e : s = ("" : Str)
    · rw [h1 e]
      have : dp nil = 1 := rfl
      omega
    · obtain ⟨a, _, c⟩ := h2 e
      have := gd_dp u (l - 1) false (by omega) c
      omega
end T

/-! ### the reader's run: open parts' heads (the innermost first), the pieces so far of each text that is open, the signs ahead, what comes of it -/
inductive Run : List (Str × Str) → List T → List Nat → T → Prop where
  | done (t : T) : Run [] [t] [] t
  | empty {h : List (Str × Str)} {a : T} {st : List T} {n : Str} {r : List Nat} {x : T} (hn : okN n) (hl : a.len ≤ 100) (k : Run h (a.app (T.part n ("" : Str) T.nil T.nil) :: st) r x) :
      Run h (a :: st) (36 :: 123 :: (tl n ++ 125 :: r)) x
  | head {h : List (Str × Str)} {a : T} {st : List T} {n s : Str} {r : List Nat} {x : T} (hn : okN n) (hs : s ∈ signsL) (he : s ≠ ("" : Str)) (hh : h.length ≤ 100) (hst : st.length ≤ 100)
      (k : Run ((n, s) :: h) (T.nil :: a :: st) r x) : Run h (a :: st) (36 :: 123 :: (tl n ++ (tl s ++ r))) x
  | close {h : List (Str × Str)} {a b : T} {st : List T} {n s : Str} {r : List Nat} {x : T} (hl : b.len ≤ 100) (k : Run h (b.app (T.part n s a T.nil) :: st) r x) :
      Run ((n, s) :: h) (a :: b :: st) (125 :: r) x
  | fresh {h : List (Str × Str)} {a : T} {st : List T} {c : Nat} {r : List Nat} {x : T} (hl : a.len ≤ 100) (la : a.lay = true) (hp : a.lastB false = false) (hc : c ∈ plL)
      (k : Run h (a.app (T.plain ⟨#[c]⟩ T.nil) :: st) r x) : Run h (a :: st) (c :: r) x
  | more {h : List (Str × Str)} {a : T} {s : Str} {st : List T} {c : Nat} {r : List Nat} {x : T} (hl : (tl s).length ≤ 100) (la : (a.app (T.plain s T.nil)).lay = true) (hc : c ∈ plL)
      (k : Run h (a.app (T.plain (s ++ (⟨#[c]⟩ : Str)) T.nil) :: st) r x) : Run h (a.app (T.plain s T.nil) :: st) (c :: r) x

theorem run_more {h : List (Str × Str)} {a : T} {st : List T} {r : List Nat} {x : T} (la : a.lay = true) : ∀ (cs : List Nat) (s : Str), PyData.strOk s = true → (tl s).length + cs.length ≤ 100 → (∀ c ∈ cs, c ∈ plL) →
    Run h (a.app (T.plain ⟨(tl s ++ cs).toArray⟩ T.nil) :: st) r x → Run h (a.app (T.plain s T.nil) :: st) (cs ++ r) x
  | [], s, _, _, _, k => by
    rw [List.append_nil, mk_tl] at k
    exact k
  | c :: cs, s, hs, hl, hc, k => by
    rw [List.length_cons] at hl
    have e1 : tl (s ++ (⟨#[c]⟩ : Str)) = tl s ++ [c] := tl_append _ _
    have e2 : (a.app (T.plain s T.nil)).lay = true := by
      rw [T.lay_app, la]
      show (true && (PyData.strOk s && true)) = true
      rw [hs]
      rfl
    refine Run.more (by omega) e2 (hc c List.mem_cons_self) (run_more la cs (s ++ (⟨#[c]⟩ : Str)) (strOk_of fun d hd => ?_) ?_ (fun d hd => hc d (List.mem_cons_of_mem _ hd)) ?_)
    · rw [e1] at hd
      rcases List.mem_append.mp hd with z | z
      · exact of_strOk hs d z
      · rw [List.mem_singleton.mp z]
        exact plL_lt c (hc c List.mem_cons_self)
    · rw [e1, List.length_append, List.length_singleton]
      omega
    · rw [e1, List.append_assoc]
      exact k

theorem run_wr : ∀ (t : T) (l : Nat) (b : Bool) (h : List (Str × Str)) (a : T) (st : List T) (r : List Nat) (x : T), T.gd t l b → (b = false → a.lastB false = false) → a.lay = true → a.len + t.len ≤ 50 → h.length + l ≤ 50 → st.length ≤ h.length →
    Run h (a.app t :: st) r x → Run h (a :: st) (T.wr t ++ r) x
  | T.nil, l, b, h, a, st, r, x, _, _, _, _, _, _, k => by
    rw [T.app_nil] at k
    exact k
  | T.plain s u, l, b, h, a, st, r, x, g, hb, la0, hl, hh, hst, k => by
    obtain ⟨g1, g2, g3⟩ := g
    have ha := hb g1
    have ll : a.len + (u.len + 1) ≤ 50 := hl
    have la : (a.app (T.plain s T.nil)).len = a.len + 1 := by
      rw [T.len_app]
      rfl
    have lay1 : (a.app (T.plain s T.nil)).lay = true := by
      rw [T.lay_app, la0]
      show (true && (PyData.strOk s && true)) = true
      rw [strOk_of (s := s) fun c hc => plL_lt c (g2.2.2 c hc)]
      rfl
    have ih := run_wr u l true h (a.app (T.plain s T.nil)) st r x g3 (fun z => nomatch z) lay1 (by omega) hh hst (by
      rw [T.app_assoc]
      exact k)
    show Run h (a :: st) ((tl s ++ T.wr u) ++ r) x
    rw [List.append_assoc]
    obtain ⟨p1, p2, p3⟩ := g2
    have es : s = ⟨(tl s).toArray⟩ := (mk_tl s).symm
    cases e : tl s with
    | nil =>
      rw [e] at p1
      exact absurd p1 (by decide)
    | cons c cs =>
      rw [e] at p2 p3
      rw [List.length_cons] at p2
      show Run h (a :: st) (c :: (cs ++ (T.wr u ++ r))) x
      have e1 : tl (⟨#[c]⟩ : Str) = [c] := rfl
      refine Run.fresh (by omega) la0 ha (p3 c List.mem_cons_self) (run_more la0 cs ⟨#[c]⟩ (strOk_of fun d hd => ?_) ?_ (fun d hd => p3 d (List.mem_cons_of_mem _ hd)) ?_)
      · rw [e1] at hd
        rw [List.mem_singleton.mp hd]
        exact plL_lt c (p3 c List.mem_cons_self)
      · rw [e1, List.length_singleton]
        omega
      · rw [e1]
        show Run h (a.app (T.plain ⟨(c :: cs).toArray⟩ T.nil) :: st) (T.wr u ++ r) x
        rw [← e, mk_tl]
        exact ih
  | T.part n s v u, l, b, h, a, st, r, x, g, hb, la0, hl, hh, hst, k => by
    obtain ⟨g1, g2, g3, g4, g5⟩ := g
    have ll : a.len + (u.len + 1) ≤ 50 := hl
    have la : (a.app (T.part n s v T.nil)).len = a.len + 1 := by
      rw [T.len_app]
      rfl
    have lb : (a.app (T.part n s v T.nil)).lastB false = false := by
      rw [T.lastB_app]
      rfl
    have layv : v.lay = true := by
      by_cases e : s = ("" : Str)
      · rw [g3 e]
        rfl
      · exact T.gd_lay v (l - 1) false (g4 e).2.2
    have lay1 : (a.app (T.part n s v T.nil)).lay = true := by
      rw [T.lay_app, la0]
      show (true && ((PyData.strOk n && PyData.strOk s) && (v.lay && true))) = true
      rw [okN_ok g1, sign_ok g2, layv]
      rfl
    have ih := run_wr u l false h (a.app (T.part n s v T.nil)) st r x g5 (fun _ => lb) lay1 (by omega) hh hst (by
      rw [T.app_assoc]
      exact k)
    show Run h (a :: st) (36 :: 123 :: (tl n ++ (tl s ++ (T.wr v ++ 125 :: T.wr u))) ++ r) x
    by_cases e : s = ("" : Str)
    · have ev := g3 e
      subst ev
      subst e
      have q : (36 :: 123 :: (tl n ++ (tl ("" : Str) ++ (T.wr T.nil ++ 125 :: T.wr u))) ++ r) = 36 :: 123 :: (tl n ++ 125 :: (T.wr u ++ r)) := by
        rw [tl_empty]
        show 36 :: 123 :: ((tl n ++ 125 :: T.wr u) ++ r) = _
        rw [List.append_assoc]
        rfl
      rw [q]
      exact Run.empty g1 (by omega) ih
    · obtain ⟨k1, k2, k3⟩ := g4 e
      have q : (36 :: 123 :: (tl n ++ (tl s ++ (T.wr v ++ 125 :: T.wr u))) ++ r) = 36 :: 123 :: (tl n ++ (tl s ++ (T.wr v ++ 125 :: (T.wr u ++ r)))) := by
        simp only [List.cons_append, List.append_assoc]
      rw [q]
      refine Run.head g1 g2 e (by omega) (by omega) (run_wr v (l - 1) false ((n, s) :: h) T.nil (a :: st) (125 :: (T.wr u ++ r)) x k3 (fun _ => rfl) rfl ?_ ?_ ?_ ?_)
      · show 0 + v.len ≤ 50
        omega
      · rw [List.length_cons]
        omega
      · rw [List.length_cons, List.length_cons]
        omega
      · exact Run.close (by omega) ih

/-- a good text -/
def okT (t : T) : Prop := T.gd t 4 false ∧ t.len ≤ 8 ∧ T.wS t ≤ 100000
theorem run_okT {t : T} (h : okT t) : Run [] [T.nil] (T.wr t) t := by
  have q := run_wr t 4 false [] T.nil [] [] t h.1 (fun _ => rfl) rfl (by
    have := h.2.1
    show 0 + t.len ≤ 50
    omega) (by decide) (by decide) (Run.done t)
  rw [List.append_nil] at q
  exact q

/-- what a good text's written form is made of -/
def ink : List Nat := capUL ++ (plL ++ [36, 123, 125, 45, 43, 63, 61, 58])
theorem T.wr_ink : ∀ (t : T) (l : Nat) (b : Bool), T.gd t l b → ∀ c ∈ T.wr t, c ∈ ink
  | T.nil, _, _, _, c, h => nomatch h
  | T.plain s r, l, b, g, c, h => by
    rcases List.mem_append.mp (show c ∈ tl s ++ T.wr r from h) with z | z
    · exact List.mem_append_right _ (List.mem_append_left _ (g.2.1.2.2 c z))
    · exact wr_ink r l true g.2.2 c z
  | T.part n s u r, l, b, g, c, h => by
    obtain ⟨g1, g2, g3, g4, g5⟩ := g
    have hu : ∀ d ∈ T.wr u, d ∈ ink := by
      by_cases e : s = ("" : Str)
      · rw [g3 e]
        intro d hd
        exact nomatch hd
      · exact wr_ink u (l - 1) false (g4 e).2.2
    have hr := wr_ink r l false g5
    have hk1 : ∀ k ∈ kindL, k ∈ ink := by decide
    have hs : ∀ d ∈ tl s, d ∈ ink := by
      rcases sign_tl g2 with e | ⟨k, hk, e⟩ | ⟨k, hk, e⟩ <;> rw [e] <;> intro d hd
      · exact nomatch hd
      · rw [List.mem_singleton.mp hd]
        exact hk1 k hk
      · have hk' : ∀ k ∈ kindL, k ∈ ink := by decide
        rcases List.mem_cons.mp hd with z | z
        · rw [z]
          decide
        · rw [List.mem_singleton.mp z]
          exact hk' k hk
    have hn : ∀ d ∈ tl n, d ∈ ink := fun d hd => List.mem_append_left _ (okN_all g1 d hd)
    have h' : c ∈ 36 :: 123 :: (tl n ++ (tl s ++ (T.wr u ++ 125 :: T.wr r))) := h
    simp only [List.mem_cons, List.mem_append] at h'
    rcases h' with z | z | z | z | z | z | z
    · rw [z]
      decide
    · rw [z]
      decide
    · exact hn c z
    · exact hs c z
    · exact hu c z
    · rw [z]
      decide
    · exact hr c z

/-! ### rows, files -/
inductive Rw where
  | set (n : Str) (t : T)
  | give (n : Str) (t : T)
  | drop (n : Str)
  | chk (t : T)
theorem T_ink (t : T) (h : okT t) : ∀ c ∈ t.wr, c ∈ ink := T.wr_ink t 4 false h.1
namespace Rw
def wr : Rw → List Nat
  | set n t => tl n ++ 61 :: t.wr
  | give n t => tl n ++ 63 :: 61 :: t.wr
  | drop n => 100 :: 114 :: 111 :: 112 :: 32 :: tl n
  | chk t => 99 :: 104 :: 101 :: 99 :: 107 :: 32 :: t.wr
def ok : Rw → Prop
  | set n t => okN n ∧ okT t
  | give n t => okN n ∧ okT t
  | drop n => okN n
  | chk t => okT t
def names : Rw → List Str
  | set n t => n :: t.names
  | give n t => n :: t.names
  | drop n => [n]
  | chk t => t.names
def dat : Rw → PyData
  | set n t => .tuple [.str "set", .str n, .tuple t.dat]
  | give n t => .tuple [.str "give", .str n, .tuple t.dat]
  | drop n => .tuple [.str "drop", .str n]
  | chk t => .tuple [.str "check", .tuple t.dat]
theorem wr_ne : ∀ r : Rw, r.wr ≠ []
  | set n t => by
    show tl n ++ 61 :: t.wr ≠ []
    simp
  | give n t => by
    show tl n ++ 63 :: 61 :: t.wr ≠ []
    simp
  | drop n => by
    intro h
    exact nomatch h
  | chk t => by
    intro h
    exact nomatch h
theorem wr_ink (r : Rw) (h : r.ok) : (10 : Nat) ∉ r.wr := by
  have hi : (10 : Nat) ∉ ink := by decide
  have hc : (10 : Nat) ∉ capUL := by decide
  have tt : ∀ t : T, okT t → (10 : Nat) ∉ t.wr := fun t ht z => hi (T_ink t ht 10 z)
  cases r with
  | set n t =>
    show (10 : Nat) ∉ tl n ++ 61 :: t.wr
    intro z
    rcases List.mem_append.mp z with z | z
    · exact hc (okN_all h.1 10 z)
    · rcases List.mem_cons.mp z with z | z
      · exact absurd z (by decide)
      · exact tt t h.2 z
  | give n t =>
    show (10 : Nat) ∉ tl n ++ 63 :: 61 :: t.wr
    intro z
    rcases List.mem_append.mp z with z | z
    · exact hc (okN_all h.1 10 z)
    · rcases List.mem_cons.mp z with z | z
      · exact absurd z (by decide)
      · rcases List.mem_cons.mp z with z | z
        · exact absurd z (by decide)
        · exact tt t h.2 z
  | drop n =>
    show (10 : Nat) ∉ [100, 114, 111, 112, 32] ++ tl n
    intro z
    rcases List.mem_append.mp z with z | z
    · exact absurd z (by decide)
    · exact hc (okN_all h 10 z)
  | chk t =>
    show (10 : Nat) ∉ [99, 104, 101, 99, 107, 32] ++ t.wr
    intro z
    rcases List.mem_append.mp z with z | z
    · exact absurd z (by decide)
    · exact tt t h z
end Rw
end Er
/-! enumerate over a tuple, over a text. -/
namespace Er
open PySem L2 PySem.Spec PyProof.Rows

set_option maxHeartbeats 1000000 in
/-- enumerate(v) with one argument, for whatever begins -/
theorem enum_one {v : Value} {ob : Obj} {Hh : Heap → Prop} (B : Begins v ob Hh) : Meets (Builtin.«enumerate.__new__» ⟨[.type "enumerate", v], []⟩) (fun _ R s => Hh s.heap ∧
      R (.ok (.ret (.ref (s.heap.push ob).objs.size))) { s with heap := (s.heap.push ob).push { cls := .type "enumerate", data := .fields #[.none, .bool false, .ref s.heap.objs.size, rawInt 0, .none, .none] } }) :=
  .of_wp fun prog w A R s hs => by
    obtain ⟨hp, gs, dr, tk, os⟩ := s
    obtain ⟨h1, hR⟩ := hs
    have subE := sub_enumerate
    have it0 : ∀ {A' : Around} {E' : Value → Shared → Prop} {Q' : Value → Shared → Prop}, Q' (.ref hp.objs.size) ⟨hp.push ob, gs, dr, tk, os⟩ → wpAny (model prog w) A' (pyIter v) Q' E' ⟨hp, gs, dr, tk, os⟩ :=
      fun q => B.iter prog w _ _ ⟨hp, gs, dr, tk, os⟩ _ h1 q
    wp_walk using it0
    refine wpAny_stack_any fun st => wpAny_pure ?_
    split
    case h_1 c _ _ _ _ _ =>
      cases (c == Value.type "enumerate") <;> (wp_walk using it0; exact ⟨_, rfl, hR⟩)
    case h_2 =>
      wp_walk using it0
      exact ⟨_, rfl, hR⟩
section
variable {prog : Program} {w : World} {A : Around} {E : Value → Shared → Prop} {s : Shared}
theorem call_enum_one {v : Value} {ob : Obj} {Hh : Heap → Prop} {Q : Value → Shared → Prop} (B : Begins v ob Hh) (h1 : Hh s.heap)
    (h : ∀ h', IsEnum h' (s.heap.objs.size + 1) s.heap.objs.size 0 .none → h'.get? s.heap.objs.size = some ob →
      (∀ b o, s.heap.get? b = some o → h'.get? b = some o) → Q (.ref (s.heap.objs.size + 1)) { s with heap := h' }) :
    wpAny (model prog w) A (call (.type "enumerate") [v]) Q E s := by
  have hz : (s.heap.push ob).objs.size = s.heap.objs.size + 1 := Heap.size_push ..
  have two := Heap.get?_push_size (s.heap.push ob) (o := { cls := .type "enumerate", data := .fields #[.none, .bool false, .ref s.heap.objs.size, rawInt 0, .none, .none] }) rfl
  rw [hz] at two
  refine callType_new F.called_enumerate (by decide) (F.typeCall_enumerate_1 _) (F.newCall_enumerate_1 _) (fun obj => F.args_object_init_2 obj _) F.entry_enumerate_new (enum_one B) ⟨h1, ?_⟩
  show _ ∧ _
  rw [hz]
  exact ⟨⟨_, two, rfl⟩, h _ two (Heap.get?_push_of_some _ (Heap.get?_push_size _ B.free)) fun b o x => Heap.get?_push_of_some _ (Heap.get?_push_of_some _ x)⟩
end

/-- the turns of enumerate over something whose items are told by Yv; g: what must stand -/
def ItG (n : Nat) (g : Hp → Prop) (Yv : Nat → V → Prop) : It :=
  ⟨fun i H => i < n ∧ g H, fun i H v H' => ∃ T x, v = .ref T ∧ H T = none ∧ H' = upd H T (.tup [.int (i : Nat), x]) ∧ Yv i x, fun i H => i = n ∧ g H⟩

/-- what an enumerated source must do: Si its iterator's own state, G the rest that is read of the heap -/
structure Src (P : Program) (w : World) (K : PySem.W.Frag) (it : Addr) (fp : List Addr) (n : Nat) (Si : Nat → Heap → Prop) (G : Heap → Prop) (g : Hp → Prop) (Yv : Nat → V → Prop) : Prop where
  draws : ∀ A : Around, A.handled = none → Draws P w A it fp n (fun i v => ∃ x, Yv i x ∧ RelV x v) (fun i h => Si i h ∧ G h)
  keep : ∀ i h h', Si i h → (∀ o, h.get? it = some o → h'.get? it = some o) → Si i h'
  live : ∀ i h, Si i h → ∃ o, h.get? it = some o ∧ ∀ v, o.data ≠ .cell v
  reads : ∀ (X : Cx), X.prog = P → X.w = w → X.K = K → ∀ (pins : List (Addr × Obj)) (s : Shared) (σ : L2.St) (H : Hp), L2.Inv X pins σ H s → g H → G s.heap

theorem turn_enumG {P : Program} {w : World} {K : PySem.W.Frag} {elts : List Expr} {kk : Nat} {tpos : Pos} {it e : Addr} {fp : List Addr} {n : Nat} {Si : Nat → Heap → Prop} {G : Heap → Prop} {g : Hp → Prop} {Yv : Nat → V → Prop}
    (S : Src P w K it fp n Si G g Yv) (hef : e ∉ fp) (hne : e ≠ it) : Turn P w K (.Tuple elts kk tpos) (ItG n g Yv) [e, it] e (fun i h => (∃ old, IsEnum h e it ((i : Nat) : Int) old) ∧ Si i h) where
  mem := by simp
  obj := fun i h ⟨⟨old, he⟩, hs⟩ b hb => by
    rcases (by simpa using hb : b = e ∨ b = it) with z | z
    · subst z
      exact ⟨_, he, fun v q => nomatch q⟩
    · subst z
      exact S.live i h hs
  keep := fun i h h' ⟨⟨old, he⟩, hs⟩ k => ⟨⟨old, k e (by simp) _ he⟩, S.keep i h h' hs fun o q => k it (by simp) o q⟩
  item := by
    intro X hP hw hK hc i pins s σ H E I hf st hg
    obtain ⟨⟨old, he⟩, hs⟩ := st
    obtain ⟨hlt, hgH⟩ := hg
    have hG := S.reads X hP hw hK pins s σ H I hgH
    have D := S.draws X.A.in1 (I.ok.hd hc)
    subst hP hw hK
    have e0 : e < s.heap.objs.size := Heap.lt_size he
    have i0 : it < s.heap.objs.size := by
      obtain ⟨_, q, _⟩ := S.live i _ hs
      exact Heap.lt_size q
    refine wpAny_pyNext_enum_itemD D he ⟨hs, hG⟩ hlt hne hef fun xv h' tk hPv ho hst' hT hsz hk => ?_
    obtain ⟨x, hY, rx⟩ := hPv
    refine ⟨_, rfl, wpAny_letOwnedTupleGo_enum (s := { s with heap := h', toks := tk + 1 }) ho fun h2 he2 sb => ?_⟩
    have hT2 : h2.get? s.heap.objs.size = some { cls := .type "tuple", data := .seq #[.int i tk, xv] } := (sb.2 _ (Nat.ne_of_gt e0)).trans hT
    have new : ObjOk X.prog X.w (upd H s.heap.objs.size (.tup [.int (i : Nat), x])) h2 s.heap.objs.size (.tup [.int (i : Nat), x]) :=
      ⟨by
        show 2 ≤ sizeLine
        decide, [.int i tk, xv], .cons ⟨_, rfl⟩ (.cons rx .nil), ⟨_, hT2, rfl, _, rfl⟩⟩
    have I1 : L2.Inv X pins σ (upd H s.heap.objs.size (.tup [.int (i : Nat), x])) { s with heap := h2, toks := tk + 1 } :=
      I.turnedNew (ch := [e, it]) (fun b ob hb q => by
        have n1 : b ≠ e := fun z => hb (by simp [z])
        have n2 : b ≠ it := fun z => hb (by simp [z])
        exact (sb.2 b n1).trans (hk b ob n1 n2 q)) hf (Nat.le_refl _) new
    refine ⟨.ref s.heap.objs.size, _, I1, rfl, ⟨_, x, rfl, I.hok.fresh (Nat.le_refl _), rfl, hY⟩, ⟨⟨xv, ?_⟩, ?_⟩, fun b hb => ?_⟩
    · have e1 : ((i + 1 : Nat) : Int) = (i : Int) + 1 := by omega
      rw [e1]
      exact he2
    · exact S.keep (i + 1) _ _ hst'.1 fun o q => (sb.2 it (Ne.symm hne)).trans q
    · have hb' : b < s.heap.objs.size := by
        rcases (by simpa using hb : b = e ∨ b = it) with z | z
        · rw [z]
          exact e0
        · rw [z]
          exact i0
      rw [upd_ne (Nat.ne_of_lt hb')]
      exact (hf b hb).1
  done := by
    intro X hP hw hK hc i pins s σ H E I hf st hg
    obtain ⟨⟨old, he⟩, hs⟩ := st
    obtain ⟨rfl, hgH⟩ := hg
    have hG := S.reads X hP hw hK pins s σ H I hgH
    have D := S.draws X.A.in1 (I.ok.hd hc)
    subst hP hw hK
    obtain ⟨f0, f1, f2, f3, f4, f5⟩ := hf it (by simp)
    exact wpAny_pyNext_enum_endD D he ⟨hs, hG⟩ fun h' eb => ⟨rfl, I.turned (t' := s.toks) (fun b o hb q => eb b o hb q) f0 f1 f3 f4 f5⟩
  self := fun A i s Q E st h => let ⟨⟨_, he⟩, _⟩ := st; wpAny_pyIter_enum he h

theorem src_tup {P : Program} {w : World} {K : PySem.W.Frag} {a it : Addr} {xs : List V} (hne : a ≠ it) :
    Src P w K it [it, a] xs.length (fun i h => h.IsTupleIter it a i) (fun h => ∃ its : List Value, Vals xs its ∧ h.IsTuple a its.toArray) (fun H => SqT K H a xs) (fun i x => xs[i]? = some x) where
  draws := fun A hh => by
    have size : ∀ {its : List Value}, Vals xs its → its.toArray.size = xs.length := fun r => by rw [List.size_toArray, r.length]
    refine ⟨fun i h hs => let ⟨o, ho, _⟩ := hs.1; ⟨o, ho⟩, fun i h h' hs hk => ⟨hs.1.at fun o e => hk it (by simp) o e, let ⟨its, r, p⟩ := hs.2; ⟨its, r, p.at fun o e => hk a (by simp) o e⟩⟩, fun i s Q E hi hs hQ => ?_, fun s Q E hs hE => ?_⟩
    · obtain ⟨h1, its, r, p⟩ := hs
      have D := Draws.tuple (prog := P) (w := w) (A := A) hh it a hne its.toArray
      refine D.item i s Q E (by rw [size r]; exact hi) ⟨h1, p⟩ fun v h' tk hv hs' sb => hQ v h' tk ?_ ⟨hs'.1, its, r, hs'.2⟩ sb
      have hv' : its[i]? = some v := by simpa using hv
      obtain ⟨u, hu, ru⟩ := r.get (i := i) (x := xs[i]) (by simp [hi])
      rw [hv'] at hu
      cases hu
      exact ⟨xs[i], by simp [hi], ru⟩
    · obtain ⟨h1, its, r, p⟩ := hs
      have D := Draws.tuple (prog := P) (w := w) (A := A) hh it a hne its.toArray
      refine D.done s Q E ?_ hE
      rw [size r]
      exact ⟨h1, p⟩
  keep := fun i h h' hs k => hs.at k
  live := fun i h ⟨o, ho, hc, hd⟩ => ⟨o, ho, fun v z => by
    rw [hd] at z
    cases z⟩
  reads := fun X hP hw hK pins s σ H I hg => by
    subst hP hw hK
    obtain ⟨its, r, p, _⟩ := I.tuple hg
    exact ⟨its, r, p⟩
theorem src_txt {P : Program} {w : World} {K : PySem.W.Frag} {it : Addr} {z : Str} {t : Tok} :
    Src P w K it [it] z.cps.size (fun i h => h.IsStrIter it (strIterType z) z t i) (fun _ => True) (fun _ => True) (fun i x => ∃ c, z.cps[i]? = some c ∧ x = .str ⟨#[c]⟩) where
  draws := fun A hh => by
    have D := Draws.text (prog := P) (w := w) (A := A) hh it z t
    refine ⟨fun i h hs => D.live i h hs.1, fun i h h' hs hk => ⟨D.frame i h h' hs.1 hk, trivial⟩, fun i s Q E hi hs hQ => D.item i s Q E hi hs.1 fun v h' tk hv hs' sb => hQ v h' tk ?_ ⟨hs', trivial⟩ sb, fun s Q E hs hE => D.done s Q E hs.1 hE⟩
    obtain ⟨c, u, hc, rfl⟩ := hv
    exact ⟨.str ⟨#[c]⟩, ⟨c, hc, rfl⟩, u, rfl⟩
  keep := fun i h h' hs k => let ⟨o, ho, r⟩ := hs; ⟨o, k o ho, r⟩
  live := fun i h ⟨o, ho, hc, hd⟩ => ⟨o, ho, fun v z => by
    rw [hd] at z
    cases z⟩
  reads := fun _ _ _ _ _ _ _ _ _ _ => trivial

def iEnumT (K : PySem.W.Frag) (ta : TA) : TI := fun σ H R => ta σ H fun vs H1 => ∃ a xs, vs = [.ref a] ∧ SqT K H1 a xs ∧ R (ItG xs.length (fun H => SqT K H a xs) (fun i x => xs[i]? = some x)) H1
def iEnumS (ta : TA) : TI := fun σ H R => ta σ H fun vs H1 => ∃ z : Str, vs = [.str z] ∧ R (ItG z.cps.size (fun _ => True) (fun i x => ∃ c, z.cps[i]? = some c ∧ x = .str ⟨#[c]⟩)) H1
theorem enum_pie {X : Cx} {pins : List (Addr × Obj)} {σ : L2.St} {H : Hp} {s : Shared} {R : It → Hp → Prop} {elts : List Expr} {kk : Nat} {tpos : Pos} {fp : List Addr} {n : Nat} {Si : Nat → Heap → Prop} {G : Heap → Prop} {g : Hp → Prop} {Yv : Nat → V → Prop} {h' : Heap} (I : L2.Inv X pins σ H s)
    (S : Src X.prog X.w X.K s.heap.objs.size fp n Si G g Yv) (hef : s.heap.objs.size + 1 ∉ fp) (he : IsEnum h' (s.heap.objs.size + 1) s.heap.objs.size 0 .none) (hs : Si 0 h') (hk : ∀ b o, s.heap.get? b = some o → h'.get? b = some o) (q : R (ItG n g Yv) H) :
    PIE X pins σ (.Tuple elts kk tpos) R (.ref (s.heap.objs.size + 1)) { s with heap := h' } := by
  have I2 : L2.Inv X pins σ H { s with heap := h' } := I.kept (t' := s.toks) hk
  refine ⟨s.heap.objs.size + 1, [s.heap.objs.size + 1, s.heap.objs.size], _, _, H, rfl, I2, turn_enumG S hef (Nat.succ_ne_self _), ⟨⟨.none, he⟩, hs⟩, fun b hb => ?_, q⟩
  have hle : s.heap.objs.size ≤ b := by
    rcases (by simpa using hb : b = s.heap.objs.size + 1 ∨ b = s.heap.objs.size) with z | z
    · rw [z]
      exact Nat.le_succ _
    · exact Nat.le_of_eq z.symm
  exact I.fpOk hle (I.hok.fresh hle)
theorem pi_enumT {X : Cx} {e : Expr} {ta : TA} {p pos tpos : Pos} {elts : List Expr} {kk : Nat} (hg : Gl X "enumerate") (hm : X.mg "enumerate" = none) (ha : PA X [e] ta) (hs : starEach [e] X.env = [(false, eval e X.env)] := by rfl) :
    PI X (.Tuple elts kk tpos) (.Call (.Name "enumerate" p) [e] [] pos) (iEnumT X.K ta) := by
  refine ⟨fun pins s σ H R I h => Call_ (ld_blt I hg hm boot_enumerate (PyProof.Rows.callWith_type1 (thn (ha.run pos pins s σ H _ I h) fun us s1 ⟨vs, H1, I1, r1, a, xs, ex, hq, q⟩ => ?_) hs rfl))⟩
  subst ex
  obtain ⟨u, rfl, ru⟩ := r1.one
  cases ru
  obtain ⟨its, rv, p', hz⟩ := I1.tuple hq
  have hlt : a < s1.heap.objs.size := by
    obtain ⟨o, ho, _⟩ := p'
    exact Heap.lt_size ho
  refine call_enum_one (begins_tuple a its.toArray) p' fun h' he hit hk => wpAny_pyIter_enum he ?_
  refine enum_pie I1 (src_tup (Nat.ne_of_lt hlt)) ?_ he ⟨_, hit, rfl, rfl⟩ hk q
  intro z
  rcases (by simpa using z : s1.heap.objs.size + 1 = s1.heap.objs.size ∨ s1.heap.objs.size + 1 = a) with z | z
  · exact Nat.succ_ne_self _ z
  · rw [← z] at hlt
    exact absurd hlt (Nat.not_lt_of_le (Nat.le_succ _))
theorem pi_enumS {X : Cx} {e : Expr} {ta : TA} {p pos tpos : Pos} {elts : List Expr} {kk : Nat} (hg : Gl X "enumerate") (hm : X.mg "enumerate" = none) (ha : PA X [e] ta) (hs : starEach [e] X.env = [(false, eval e X.env)] := by rfl) :
    PI X (.Tuple elts kk tpos) (.Call (.Name "enumerate" p) [e] [] pos) (iEnumS ta) := by
  refine ⟨fun pins s σ H R I h => Call_ (ld_blt I hg hm boot_enumerate (PyProof.Rows.callWith_type1 (thn (ha.run pos pins s σ H _ I h) fun us s1 ⟨vs, H1, I1, r1, z, ex, q⟩ => ?_) hs rfl))⟩
  subst ex
  obtain ⟨u, rfl, ru⟩ := r1.one
  obtain ⟨t, rfl⟩ := ru
  refine call_enum_one (begins_text z t) trivial fun h' he hit hk => wpAny_pyIter_enum he ?_
  exact enum_pie I1 (src_txt (t := t)) (by simp) he ⟨_, hit, rfl, rfl⟩ hk q
/-- such a for, by an invariant of the turn -/
theorem walk_G {n : Nat} {g : Hp → Prop} {Yv : Nat → V → Prop} : Walk (ItG n g Yv) n g (fun i H v H' => ∃ T x, v = .ref T ∧ H T = none ∧ H' = upd H T (.tup [.int (i : Nat), x]) ∧ Yv i x) :=
  ⟨fun _ _ hi h => ⟨hi, h⟩, fun _ h => ⟨rfl, h⟩, fun _ _ _ _ _ _ y => y⟩
end Er
/-! set(a list of texts), whatever its length, all its members among at most 12; sorted of it. -/
namespace Er
open PySem L2 PySem.Spec PyProof.Rows

/-- the text of an entry -/
def eT (e : Int × Value) : Str := match e.2 with
  | .str k _ => k
  | _ => Str.empty
/-- a set of texts stands at a: distinct ones, all of them among L; its table can be walked -/
def TS (w : World) (h : Heap) (a : Addr) (L : List Str) : Prop :=
  ∃ (ob : Obj) (es : Array (Int × Value)) (ep : Nat) (tb : SetTable), h.get? a = some ob ∧ ob.ExactSet ∧ ob.data = .set es ep tb ∧ (∀ e ∈ es.toList, ∃ k tk, e = (hashStr w k, Value.str k tk)) ∧
    ((es.toList.map eT).Nodup ∧ ∀ k ∈ es.toList.map eT, k ∈ L) ∧ (tb.fits es.size = true ∧ Ris tb.place.toList) ∧ (w.params.followText "set-order" = true ∨ tb.led = true)
section
variable {P : Program} {w : World} {A : Around} {E : Value → Shared → Prop} {s : Shared} {a : Addr} {L : List Str}
theorem TS.at {h h' : Heap} (R : TS w h a L) (k : ∀ o, h.get? a = some o → h'.get? a = some o) : TS w h' a L := by
  obtain ⟨ob, es, ep, tb, ho, z⟩ := R
  exact ⟨ob, es, ep, tb, k ob ho, z⟩
theorem ts_elems {l : List (Int × Value)} (g : ∀ e ∈ l, ∃ k tk, e = (hashStr w k, Value.str k tk)) : ElemsOf (strKind P w) l := fun e he => by
  obtain ⟨k, tk, rfl⟩ := g e he
  exact ⟨⟨k, strKind_is _ _ _ _, rfl⟩, rfl⟩
theorem ts_is {l : List (Int × Value)} (g : ∀ e ∈ l, ∃ k tk, e = (hashStr w k, Value.str k tk)) {e : Int × Value} (he : e ∈ l) (k : Str) : (strKind P w).is k e.2 = true ↔ eT e = k := by
  obtain ⟨k0, tk, rfl⟩ := g e he
  show (k0 == k) = true ↔ k0 = k
  exact beq_iff_eq
/-- no more members than L has -/
theorem ts_le {es : Array (Int × Value)} (nd : (es.toList.map eT).Nodup) (hs : ∀ k ∈ es.toList.map eT, k ∈ L) : es.size ≤ L.length := by
  have q := List.Nodup.length_le_of_subset nd (fun k hk => hs k hk)
  rw [List.length_map, Array.length_toList] at q
  exact q

/-- behind the new entry: the table may be laid anew -/
theorem ts_tail {gave : Bool → Sem Unit} (hg : ∀ (b : Bool) (s1 : Shared) (Q' : Unit → Shared → Prop), Q' () s1 → wpAny (model P w) A (gave b) Q' E s1) (hL : L.length ≤ 12)
    {ob : Obj} {es es1 : Array (Int × Value)} {ep : Nat} {tb tb1 : SetTable} (ho : s.heap.get? a = some ob) (hx : ob.ExactSet) (hd : ob.data = .set es ep tb)
    (g1 : ∀ e ∈ es1.toList, ∃ k tk, e = (hashStr w k, Value.str k tk)) (m1 : (es1.toList.map eT).Nodup ∧ ∀ k ∈ es1.toList.map eT, k ∈ L) (f1 : tb1.fits es1.size = true ∧ Ris tb1.place.toList)
    (l1 : w.params.followText "set-order" = true ∨ tb1.led = true) {dummy : Bool} {R : Option Bool → Shared → Prop} (hR : ∀ h', Heap.SameBut a s.heap h' → TS w h' a L → R (some true) { s with heap := h' }) :
    wpAny (model P w) A (do
        storeSet a es1 tb1
        if (!dummy && tb1.tooFull) = true then do
            gave (relayAll tb1 es1 (SetTable.grown es1.size)).2.2
            storeSet a (relayAll tb1 es1 (SetTable.grown es1.size)).1 (relayAll tb1 es1 (SetTable.grown es1.size)).2.1
            pure (some true)
          else pure (some true)) R E s := by
  have hz := ts_le m1.1 m1.2
  have room : ∀ {n : Nat}, n ≤ 12 → n ≤ sizeLine := fun h => Nat.le_trans h (by decide)
  refine wpAny_bind (wpAny_storeSet_of ho hd ?_ (room (Nat.le_trans hz hL)))
  have at1 := store_at (es' := es1) (t' := tb1) ho hd
  have but1 := Heap.SameBut.update s.heap a (Obj.putSet es1 tb1)
  by_cases c : (!dummy && tb1.tooFull) = true
  · rw [if_pos c]
    have p := relayAll_perm tb1 es1 (SetTable.grown es1.size)
    have f2 := relayAll_fits tb1 es1 (SetTable.grown es1.size)
    have r2 := relayAll_ris tb1 es1 (SetTable.grown es1.size)
    have d2 := relayAll_led tb1 es1 (SetTable.grown es1.size)
    generalize relayAll tb1 es1 (SetTable.grown es1.size) = W at p f2 r2 d2 ⊢
    obtain ⟨es2, tb2, gv⟩ := W
    dsimp only at p f2 r2 d2 ⊢
    have pk := p.map eT
    have m2 : (es2.toList.map eT).Nodup ∧ ∀ k ∈ es2.toList.map eT, k ∈ L := ⟨pk.nodup_iff.mpr m1.1, fun k hk => m1.2 k (pk.mem_iff.mp hk)⟩
    refine wpAny_bind (hg _ _ _ (wpAny_bind (wpAny_storeSet_of at1 rfl (wpAny_pure (hR _ (but1.trans (Heap.SameBut.update _ a _)) ?_)) (room (Nat.le_trans (ts_le m2.1 m2.2) hL)))))
    exact ⟨_, es2, _, tb2, store_at (es' := es2) (t' := tb2) at1 rfl, hx, rfl, fun e he => g1 e (p.mem_iff.mp he), m2, ⟨f2, r2⟩, l1.imp id fun z => d2.trans z⟩
  · rw [if_neg c]
    exact wpAny_pure (hR _ but1 ⟨_, es1, _, tb1, at1, hx, rfl, g1, m1, f1, l1⟩)

theorem ts_add {k : Str} {tk : Tok} {Q : Bool → Shared → Prop} (R : TS w s.heap a L) (hL : L.length ≤ 12) (hk : k ∈ L) (hQ : ∀ h' b, Heap.SameBut a s.heap h' → TS w h' a L → Q b { s with heap := h' }) :
    wpAny (model P w) A (setAddHashed a (.str k tk) ((strKind P w).hash k)) Q E s := by
  obtain ⟨ob, es, ep, tb, ho, hx, hd, g, m, f, l⟩ := R
  have is1 : (strKind P w).is k (.str k tk) = true := strKind_is _ _ _ _
  have scan : (Value.str k tk).scannable = true := rfl
  have elems : ElemsOf (strKind P w) es.toList := ts_elems g
  have hz := ts_le m.1 m.2
  have hb : es.size < scanBound := Nat.lt_of_le_of_lt (Nat.le_trans hz hL) (by decide)
  unfold setAddHashed setAddHashedIn
  refine wpAny_holding (wpAny_bind (wpAny_setState_of ho hd f.1 ?_))
  dsimp only
  rw [byScan_of scan hb elems]
  simp only [↓reduceIte]
  unfold setAddByScan
  refine wpAny_bind (wpAny_bind (wpAny_rule (wpAny_bind (wpAny_setScan_of is1 ho hd f.1 elems ?_))))
  cases found : List.findIdx? (fun e => (strKind P w).is k e.2) es.toList with
  | some j =>
    dsimp only
    exact wpAny_pure (wpAny_pure (hQ s.heap _ (Heap.SameBut.refl a s.heap) ⟨ob, es, ep, tb, ho, hx, hd, g, m, f, l⟩))
  | none =>
    dsimp only
    have fresh : k ∉ es.toList.map eT := fun z => by
      obtain ⟨e, he, q⟩ := List.mem_map.mp z
      have c := List.findIdx?_eq_none_iff.mp found e he
      rw [(ts_is (P := P) g he k).mpr q] at c
      cases c
    have p := layNew_perm tb es ((strKind P w).hash k) (.str k tk)
    have f1 := layNew_fits tb es ((strKind P w).hash k) (.str k tk)
    have r1 := layNew_ris tb es ((strKind P w).hash k) (.str k tk) f.2
    have d1 := layNew_led tb es ((strKind P w).hash k) (.str k tk)
    generalize layNew tb es ((strKind P w).hash k) (.str k tk) = W at p f1 r1 d1 ⊢
    obtain ⟨es1, tb1, dm, gv⟩ := W
    dsimp only at p f1 r1 d1 ⊢
    rw [Array.toList_push] at p
    have pc : es1.toList.Perm (((strKind P w).hash k, Value.str k tk) :: es.toList) := p.trans (List.perm_append_singleton _ _)
    have pk : (es1.toList.map eT).Perm (k :: es.toList.map eT) := pc.map eT
    have g1 : ∀ e ∈ es1.toList, ∃ k tk, e = (hashStr w k, Value.str k tk) := fun e he => by
      rcases List.mem_cons.mp (pc.mem_iff.mp he) with z | z
      · exact ⟨k, tk, z⟩
      · exact g e z
    have m1 : (es1.toList.map eT).Nodup ∧ ∀ k ∈ es1.toList.map eT, k ∈ L := ⟨pk.nodup_iff.mpr (List.nodup_cons.mpr ⟨fresh, m.1⟩), fun j hj => by
      rcases List.mem_cons.mp (pk.mem_iff.mp hj) with z | z
      · rw [z]
        exact hk
      · exact m.2 j z⟩
    have l1 : w.params.followText "set-order" = true ∨ tb1.led = true := l.imp id fun z => d1.trans z
    have gave : ∀ (b : Bool) {s1 : Shared} {Q' : Unit → Shared → Prop}, Q' () s1 → wpAny (model P w) A (match b with | true => rule "set.scan.the-table-gave-way" | false => pure ()) Q' E s1 :=
      fun b s1 Q' q => by cases b <;> first | exact wpAny_pure q | exact wpAny_rule q
    refine wpAny_bind (gave _ ?_)
    split
    · refine wpAny_bind ?_
      rw [hashByValue_scannable 8 scan]
      refine wpAny_pure (ts_tail ?_ hL ho hx hd g1 m1 ⟨?_, ?_⟩ ?_ fun h' sb r => ?_)
      · intro b s1 Q' q
        cases b <;> first | exact wpAny_pure q | exact wpAny_rule q
      · first | (split <;> first | exact f1 | exact SetTable.fits_plain_off f1) | exact f1
      · first | (split <;> exact r1) | exact r1
      · first | (split <;> exact l1) | exact l1
      · dsimp only
        exact wpAny_pure (hQ h' _ sb r)
    · refine wpAny_bind (wpAny_pure ?_)
      simp only [↓reduceIte]
      refine ts_tail ?_ hL ho hx hd g1 m1 ⟨f1, r1⟩ l1 fun h' sb r => ?_
      · intro b s1 Q' q
        cases b <;> first | exact wpAny_pure q | exact wpAny_rule q
      · dsimp only
        exact wpAny_pure (hQ h' _ sb r)

/-- set.update over an iterator of texts that are all in L -/
theorem ts_update {I : Addr} {fp wr : List Addr} {G : Array GenState → Array GenState → Prop} {n : Nat} {Pv : Nat → Value → Prop} {St : Nat → Shared → Prop} {R : Result → Shared → Prop}
    (W : WalksS P w A.in1 I fp wr G n Pv St) (S : Addr) (hS : S ∉ fp) (hL : L.length ≤ 12) (val : ∀ i v, Pv i v → ∃ k t, k ∈ L ∧ v = .str k t) :
    ∀ (m i : Nat) (s : Shared), n - i = m → i ≤ n → St i s → TS w s.heap S L → (∀ s', Moved (S :: wr) G s s' → TS w s'.heap S L → R (.ok (.ret .none)) s') →
      codeAny (model P w) A (.builtin "set.update.loop" ⟨[.ref S, .ref I], []⟩) R s := by
  have Sw : S ∉ wr := fun z => hS (W.sub _ z)
  have wider : ∀ b ∈ wr, b ∈ S :: wr := fun b z => List.mem_cons_of_mem _ z
  intro m
  induction m with
  | zero =>
    intro i s hm hi st hT hR
    obtain rfl : i = n := by omega
    refine codeAny_builtin F.entry_set_update_loop ?_
    rw [Around.under_plainId F.plain_set_update_loop _]
    show wpAny _ A.in1 (pyNext (.ref I) >>= _) _ _ s
    refine wpAny_bind (W.done s _ _ st fun s' mv => ?_)
    show wpAny _ A.in1 (ret Value.none) _ _ s'
    exact wpAny_pure (hR s' (mv.mono wider) (hT.at fun o e => mv.heap S o Sw e))
  | succ m ih =>
    intro i s hm hi st hT hR
    have lt : i < n := by omega
    refine codeAny_builtin F.entry_set_update_loop ?_
    rw [Around.under_plainId F.plain_set_update_loop _]
    show wpAny _ A.in1 (pyNext (.ref I) >>= _) _ _ s
    refine wpAny_bind (W.item i s _ _ lt st fun v s1 hv st1 mv => ?_)
    obtain ⟨k, t, hk, rfl⟩ := val i v hv
    have hT1 : TS w s1.heap S L := hT.at fun o e => mv.heap S o Sw e
    show wpAny _ A.in1 (holding [Value.str k t] (setAdd S (.str k t)) >>= _) _ _ s1
    refine wpAny_bind (wpAny_holding ?_)
    unfold setAdd
    refine wpAny_holding (wpAny_bind ((strKind P w).pyHash (k := k) (strKind_is _ _ _ _) ?_))
    refine ts_add (s := { s1 with toks := s1.toks + 1 }) hT1 hL hk fun h2 _ sb hT2 => ?_
    have other : ∀ b, b ≠ S → h2.get? b = s1.heap.get? b := fun b z => sb.2 b z
    refine wpAny_pure ⟨plainId_quiet F.plain_set_update_loop _, ih (i + 1) _ (by omega) lt (W.frame _ s1 _ _ st1 (Nat.le_succ _) fun b hb o e => ?_) hT2 fun s3 mv3 hT3 => ?_⟩
    · exact (other b fun z => hS (z ▸ hb)).trans e
    · exact hR s3 (Moved.trans W.gtrans ((mv.mono wider).then_heap (Nat.le_succ _) fun b o hb e => (other b fun z => hb (by rw [z]; exact List.mem_cons_self)).trans e) mv3) hT3

/-- the empty set as set(..) makes it -/
abbrev voidS (w : World) : Obj := { cls := .type "set", dict := none, data := .set #[] 0 (.fresh 0 0 (!w.params.followText "set-order")) }
theorem ts_void {h : Heap} (ho : h.get? a = some (voidS w)) : TS w h a L := by
  refine ⟨_, #[], 0, _, ho, ⟨rfl, rfl, rfl⟩, rfl, (fun e he => by simp at he), ⟨by simp, fun k hk => by simp at hk⟩, ⟨by rfl, List.Pairwise.nil⟩, ?_⟩
  show _ ∨ (!w.params.followText "set-order") = true
  cases w.params.followText "set-order"
  · exact .inr rfl
  · exact .inl rfl

set_option maxRecDepth 100000 in
set_option maxHeartbeats 3200000 in
/-- set(xs), xs a list of texts among L -/
theorem call_setT {l : Addr} {items : Array Value} {Q : Value → Shared → Prop} (hh : A.handled = none) (hl : s.heap.IsList l items) (hL : L.length ≤ 12) (val : ∀ (i : Nat) v, items[i]? = some v → ∃ k t, k ∈ L ∧ v = Value.str k t)
    (h : ∀ (h' : Heap) (tk : Nat), TS w h' s.heap.objs.size L → (∀ b o, s.heap.get? b = some o → h'.get? b = some o) → Q (.ref s.heap.objs.size) { s with heap := h', toks := tk }) :
    wpAny (model P w) A (call (.type "set") [.ref l]) Q E s := by
  obtain ⟨c, tl, hmro⟩ := F.called_set.mro
  have hmade := F.called_set.made
  have hsub := F.called_set.sub
  refine wpAny_call (codeAny_of_tree ?_)
  show wpAny _ _ (callAny (.type "set") _) _ _ _
  refine wpAny_pure ⟨Code.quiet_builtin _ (by decide +kernel), codeAny_builtin F.entry_type_call ?_⟩
  rw [Around.under_plain (weight_type_call_type "set" [.ref l] []) rfl]
  have h1 := F.called_set.notType
  have h2 := F.called_set.canCreate
  have hct := F.typeCall_set_1 (.ref l)
  repeat (any_goals (first | assumption | wp_step))
  refine codeAny_mono (code_set_led1 (.ref l) (E := E) (Q₁ := fun ob s1 => ob = .ref s.heap.objs.size ∧ s1 = { s with heap := s.heap.push (voidS w) }) ⟨rfl, rfl⟩) fun r s1 hr => ?_
  match r, hr with
  | .error e, hr => exact hr
  | .ok (.ret ob), hr =>
    obtain ⟨rfl, rfl⟩ := hr
    have at0 : (s.heap.push (voidS w)).get? s.heap.objs.size = some (voidS w) := Heap.get?_push_size _ rfl
    have ty0 : Shared.TypeIs { s with heap := s.heap.push (voidS w) } (.ref s.heap.objs.size) "set" := ⟨_, at0, rfl⟩
    have hli := F.called_set.init.lookup
    have hbi := F.called_set.init.bind (.ref s.heap.objs.size)
    repeat (any_goals (first | assumption | wp_step))
    refine codeAny_mono (codeAny_call_builtin (R := wants (fun r s2 => r = .none ∧ ∃ h' tk, s2 = { s with heap := h', toks := tk } ∧ TS w h' s.heap.objs.size L ∧
        (∀ b o, s.heap.get? b = some o → h'.get? b = some o)) E) F.called_set.init.plain F.entry_set_init (check_set_init_1 ty0 ?_)) fun r2 s2 hr2 => ?_
    · obtain ⟨⟨ocls, odict, odata, oslots⟩, hol, hcl, nl, hdl⟩ := hl
      simp only at hcl hdl
      subst hcl hdl
      have hol1 : (s.heap.push (voidS w)).get? l = some { cls := .type "list", dict := odict, data := .seq items nl, slots := oslots } := Heap.get?_push_of_some _ hol
      have n1 := F.sub_list_set
      have n2 := F.sub_list_frozenset
      have n3 : (Value.type "list" == Value.type "dict") = false := by decide
      have hl1 : (s.heap.push (voidS w)).IsList l items := ⟨_, hol1, rfl, nl, rfl⟩
      unfold Builtin.«set.__init__» noKeywords Builtin.Frozenset.updateFrom
      generalize hPI : pyIter = PI
      wp_walk
      subst hPI
      refine wpAny_pyIter_list hl1 (wpAny_bind (wpAny_runValue ?_))
      have ls : l < s.heap.objs.size := Heap.lt_size hol
      have calm : A.in1.in1.in1.handled = none := by simp [hh]
      have z1 : (s.heap.push (voidS w)).objs.size = s.heap.objs.size + 1 := Heap.size_push ..
      have lI : l ≠ (s.heap.push (voidS w)).objs.size := by
        rw [z1]
        exact Nat.ne_of_lt (Nat.lt_succ_of_lt ls)
      have Sf : s.heap.objs.size ∉ [(s.heap.push (voidS w)).objs.size, l] := by
        rw [z1]
        intro z
        rcases List.mem_cons.mp z with z | z
        · exact absurd z (Nat.ne_of_lt (Nat.lt_succ_self _))
        · exact absurd (List.mem_singleton.mp z) (Nat.ne_of_gt ls)
      refine ts_update ((Walks.list calm _ l lI items).toS) s.heap.objs.size Sf hL (fun i v hv => val i v hv) (items.size - 0) 0 _ (by omega) (Nat.zero_le _)
        ⟨⟨_, Heap.get?_push_size _ rfl, rfl, rfl⟩, (hl1.push _)⟩ (ts_void (Heap.get?_push_of_some _ at0)) fun s3 mv hT => ?_
      obtain ⟨h3, g3, d3, t3, o3⟩ := s3
      obtain rfl : g3 = s.gens := mv.gens
      obtain rfl : d3 = s.drawn := mv.drawn
      obtain rfl : o3 = s.os := mv.os
      show wpAny _ _ _ _ _ _
      refine wpAny_pure ?_
      show wpAny _ _ (ret Value.none) _ _ _
      refine wpAny_pure ⟨rfl, h3, t3, rfl, hT, fun b o e => ?_⟩
      have bs : b < s.heap.objs.size := Heap.lt_size e
      refine mv.heap b o (fun z => ?_) (Heap.get?_push_of_some _ (Heap.get?_push_of_some _ e))
      rcases List.mem_cons.mp z with z | z
      · exact absurd z (Nat.ne_of_lt bs)
      · have z2 := List.mem_singleton.mp z
        rw [z1] at z2
        exact absurd z2 (Nat.ne_of_lt (Nat.lt_succ_of_lt bs))
    · match r2, hr2 with
      | .error e, hr2 => exact hr2
      | .ok (.ret v), hr2 =>
        obtain ⟨rfl, h3, t3, rfl, hT, hk⟩ := hr2
        repeat (any_goals (first | assumption | wp_step))
        exact h _ _ hT hk

/-- sorted(that set): a new list of texts, no more than L has -/
theorem sorted_setT {Q : Value → Shared → Prop} (R : TS w s.heap a L) (hL : L.length ≤ 12) (hh : A.handled = none)
    (hQ : ∀ s' p (out : Array Value) (c : Nat) (ys : List Str), (∀ b o, s.heap.get? b = some o → s'.heap.get? b = some o) → s'.gens = s.gens → s'.os = s.os → s.heap.objs.size ≤ p →
      s'.heap.get? p = some (seqObj "list" out c) → StrsAre out.toList ys → ys.length ≤ L.length → Q (.ref p) s') :
    wpAny (model P w) A (call (.builtin "sorted") [.ref a]) Q E s := by
  obtain ⟨ob, es, ep, tb, ho, hx, hd, g, m, f, l⟩ := R
  have hz := ts_le m.1 m.2
  refine Calls.call_function_entry kind_sorted plain_sorted entry_sorted (args_sorted1 _) ?_
  unfold Builtin.«sorted»
  refine wpAny_bind (m := checkCount "sorted" 1 1 _) (wpAny_pure ?_)
  refine wpAny_bind (collect_set (A := A.in1) hh ⟨ob, ho, hx.1, hd⟩ f.1 (Nat.lt_of_le_of_lt (Nat.le_trans hz hL) (by decide)) f.2 l fun s1 vs k1 hs1 g1 o1 pm => ?_)
  have len : vs.length ≤ L.length := by
    rw [pm.length_eq, List.length_map, Array.length_toList]
    exact hz
  have texts : ∀ us : List Value, (∀ v ∈ us, ∃ k t, v = Value.str k t) → ∃ ys, StrsAre us ys := fun us => by
    induction us with
    | nil => exact fun _ => ⟨[], .nil⟩
    | cons u us ih =>
      intro h
      obtain ⟨k, t, rfl⟩ := h u List.mem_cons_self
      obtain ⟨ys, q⟩ := ih fun v hv => h v (List.mem_cons_of_mem _ hv)
      exact ⟨k :: ys, .cons k t q⟩
  obtain ⟨xs, hxs⟩ := texts vs fun v hv => by
    obtain ⟨e, he, q⟩ := List.mem_map.mp (pm.mem_iff.mp hv)
    obtain ⟨k, t, rfl⟩ := g e he
    exact ⟨k, t, q.symm⟩
  have few : vs.length < 64 := by omega
  refine wpAny_bind (wpAny_newList ?_ (by rw [sizeLine_eq]; omega))
  have at1 : (s1.heap.push (seqObj "list" vs.toArray 0)).get? s1.heap.objs.size = some (seqObj "list" vs.toArray 0) := Heap.get?_push_size _ rfl
  refine wpAny_bind (wpAny_holding (wpAny_call_entry slot_list_sort ⟨_, at1, rfl⟩ entry_list_sort
    (list_sort_treeK strKind_oneLt at1 hxs.keysOf (fun v1 v2 rest e => keyKind_strs (by rw [← e]; exact hxs)) few fun st1 hp hs => ⟨_, rfl, ?_⟩) (args_list_sort _)))
  obtain ⟨ys, a1, a2, _⟩ := sorted_out_str hxs hp hs
  obtain ⟨c, hc⟩ := sortedHeap_at (vs := vs) (out := (arrOf st1).map (·.2)) at1
  refine wpAny_pure ⟨_, rfl, hQ _ s1.heap.objs.size _ c ys (fun b u e => ?_) g1 o1 hs1 hc a1 ?_⟩
  · have q := k1 b u e
    have lt := Heap.lt_size q
    show (sortedHeap (s1.heap.push (seqObj "list" vs.toArray 0)) s1.heap.objs.size vs _).get? b = some u
    rw [sortedHeap_old (Nat.ne_of_lt lt) (by rw [size_push']; exact Nat.lt_succ_of_lt lt)]
    exact Heap.get?_push_of_some _ q
  · rw [a2.length_eq, ← StrsAre.len_eq hxs]
    exact len
end

/-! ### as rules of the layer -/
/-- such a set, tracked -/
def SetT (w : World) (a : Addr) (L : List Str) : HO := .ext fun h => TS w h a L
theorem setT_ok {w : World} {P : Program} {H : Hp} {h : Heap} {a : Addr} {L : List Str} (R : TS w h a L) : ObjOk P w H h a (SetT w a L) := by
  have ⟨ob, _, _, _, ho, _⟩ := R
  exact ⟨R, ⟨ob, ho⟩, fun h1 h2 p k => p.at k⟩
def rSetTx (K : PySem.W.Frag) (w : World) : List V → Hp → VK → Prop := fun vs H Q => ∃ (a : Addr) (xs L : List Str), vs = [V.ref a] ∧ SqL K H a (xs.map V.str) ∧ L.length ≤ 12 ∧ (∀ x ∈ xs, x ∈ L) ∧ ∀ p, H p = none → Q (.ref p) (upd H p (SetT w p L))
def rSortTx (w : World) : List V → Hp → VK → Prop := fun vs H Q => ∃ (a : Addr) (L : List Str), vs = [V.ref a] ∧ H a = some (SetT w a L) ∧ L.length ≤ 12 ∧ ∀ (ys : List Str) p, ys.length ≤ L.length → H p = none → Q (.ref p) (upd H p (.lst (ys.map V.str)))
section
variable {X : Cx}
theorem cr_setT (hc : X.calm = true) : CallR X (.type "set") (rSetTx X.K X.w) := by
  intro pins s σ H vs us Q I r h
  obtain ⟨a, xs, L, rfl, hs, hL, sub, q⟩ := h
  obtain ⟨its, rv, hl, _⟩ := I.list hs
  rw [Vals.ref1 r]
  refine call_setT (I.ok.hd hc) hl.isList hL (fun i v hv => ?_) fun h' tk hT hk => ?_
  · have hv' : its[i]? = some v := by simpa using hv
    have hi : i < xs.length := by
      have e := rv.length
      rw [List.length_map] at e
      rw [e]
      exact (List.getElem?_eq_some_iff.mp hv').1
    obtain ⟨u, hu, t, ru⟩ := rv.get (i := i) (x := .str xs[i]) (by simp [hi])
    rw [hv'] at hu
    cases hu
    exact ⟨xs[i], t, sub _ (List.getElem_mem hi), ru⟩
  · have free := I.hok.fresh (Nat.le_refl s.heap.objs.size)
    exact ⟨.ref s.heap.objs.size, upd H s.heap.objs.size (SetT X.w s.heap.objs.size L), I.laid (t' := tk) hk (Nat.le_refl _) (setT_ok hT), rfl, q _ free⟩
theorem cr_sortT (hc : X.calm = true) : CallR X (.builtin "sorted") (rSortTx X.w) := by
  intro pins s σ H vs us Q I r h
  obtain ⟨a, L, rfl, ha, hL, q⟩ := h
  have R : TS X.w s.heap a L := (I.hok a _ ha).1
  rw [Vals.ref1 r]
  refine sorted_setT R hL (I.ok.hd hc) fun s1 p out c ys k g o hp at1 hy len => ?_
  have small : (ys.map V.str).length ≤ sizeLine := by
    rw [List.length_map]
    exact Nat.le_trans len (Nat.le_trans hL (by decide))
  have free : H p = none := I.hok.fresh hp
  have J : L2.Inv X pins σ (upd H p (.lst (ys.map V.str))) { s with heap := s1.heap, gens := s1.gens, drawn := s1.drawn, toks := s1.toks } :=
    I.call (ch := []) (Un.laid k hp free) (I.hok.laid k hp ⟨small, out.toList, c, vals_of_strs hy, at1⟩) (by rw [g]; exact I.bare) (fun _ z => nomatch z)
  obtain ⟨h1, g1, d1, t1, o1⟩ := s1
  obtain rfl : o1 = s.os := o
  exact ⟨.ref p, _, J, rfl, q ys p len free⟩
end
end Er
/-! Defs that are called where nothing is being shown (no guard is up): their promise, their call, the law's end. repr of data. -/
namespace Er
open PySem L2 PySem.Spec PyProof.Rows

/-- repr(x), x a tuple or list of texts and the like, where no guard is up -/
def rRepr (K : PySem.W.Frag) : List V → Hp → VK → Prop := fun vs H Q => ∃ (a : Addr) (d : PyData), vs = [.ref a] ∧ Dp K H (.ref a) d ∧ d.showable = true ∧ d.hasDict = false ∧ d.depth ≤ 40 ∧ d.shown.length ≤ sizeLine ∧ Q (.str d.shown) H
theorem cr_repr {X : Cx} {k : Nat} (hr : Room k X.A) (hg : X.A.guards = some []) : CallR X (.builtin "repr") (rRepr X.K) := by
  intro pins s σ H vs us Q I r h
  obtain ⟨a, d, rfl, hd, h1, h2, h3, h4, q⟩ := h
  obtain ⟨u, rfl, ru⟩ := r.one
  obtain ⟨as, hrd⟩ := Dp.reads I d _ _ hd ru
  obtain rfl : u = Value.ref a := ru
  have room := hr.units
  exact repr_of_reads' hrd h1 (fun z => by rw [h2] at z; cases z) hg (by omega) (fun _ _ e => e) (fun h' t tk hk => ⟨.str d.shown, H, I.kept hk, ⟨t, rfl⟩, q⟩) h4

/-- what a def promises where no guard is up (positional arguments, nothing raised) -/
structure FnG (P : Program) (w : World) (K : PySem.W.Frag) (mg : Str → Option Value) (base : Heap) (k : Nat) (f : Addr) (fd : FuncData) (ps : List Str) (sp : Sp) : Prop where
  len : ∀ vs H Q E, sp vs H Q E → vs.length = ps.length
  run : ∀ (A : Around) (outer : List Env) (s : Shared) (H : Hp) (us : List Value) (vs : List V) (Q : VK), Room k A → A.guards = some [] → Env0 P w K mg base A outer s H → BindsTo s fd ⟨us, []⟩ (ps.zip us) → Vals vs us → sp vs H Q E0 →
    codeAny (model P w) A (.call (.ref f) ⟨us, []⟩) (CR CX0 outer P w H s Q E0) s
section
variable {P : Program} {w : World} {K : PySem.W.Frag} {mg : Str → Option Value} {base : Heap}
theorem okG {x qual : Str} {st : Stmt} {f : Addr} {fd : FuncData} {N ps : List Str} {k : Nat} {sp : Sp} (F : Fun K x qual st f fd) (S : FnScope N ps (defScope st)) (len : ∀ vs H Q E, sp vs H Q E → vs.length = ps.length)
    (hbody : ∀ (cdv : Value) (A : Around) (outer : List Env) (s : Shared) (H : Hp) (vs : List V) (Q : VK), Room k (A.deeper (envOfC qual (defScope st) s.heap.objs.size f cdv)) → A.guards = some [] → sp vs H Q E0 →
      ∃ t, PSs (cxOf CX0 P w K mg base N qual (defScope st) f cdv A outer s H E0).nox (defBody st) t ∧ t { nx := fun _ H' => Q .non H', rt := Q } (start N vs) H) : FnG P w K mg base (k + 1) f fd ps sp := by
  obtain ⟨oc, od, kV, doc, pm, an, cdv, ct, osl, rfl, lk, hcd⟩ := F.ex
  refine ⟨len, fun A outer s H us vs Q hr hg e0 hb r hsp => ?_⟩
  have kept : ∀ b o, base.get? b = some o → s.heap.get? b = some o := fun b o e => (e0.bs b o e).1
  have KX : K.In s.heap := e0.mod.kin.keeps kept
  have lim : s.heap.NoLimit := e0.mod.nolimit.keeps kept
  obtain ⟨t, ht, hq⟩ := hbody cdv A outer s H vs Q (hr.deeper _) hg hsp
  have named : ∀ y ∈ ps.zip us, (defScope st).names.lookup y.1 = some .local ∨ ((defScope st).names.lookup y.1 = some .cell ∧ ((cellsFrom (s.heap.objs.size + 1) (defScope st).names []).lookup y.1).isSome = true) := by
    rintro ⟨y, v⟩ hy
    have par := S.par y (List.of_mem_zip hy).1
    exact par.imp id fun q => ⟨q, PySem.W.cellsFrom_some _ _ _ (.inl q)⟩
  refine codeAny_call_function hr.depth (KX _ _ lk) rfl S.co S.gen rfl (PySem.W.codeRec_of KX hcd) (hb _ _ _ _ (wpAny_newFunctionEnv_cells S.kind named fun env he s1 x => ?_))
  subst he
  have I : L2.Inv (cxOf CX0 P w K mg base N qual (defScope st) f cdv A outer s H E0) [] (start N vs) H s1 := inv_start S hr.hd e0 (len _ _ _ _ hsp) r x
  refine ⟨lim.keeps x.toInCall.keep, codeAny_func (wpAny_mono (ht.nox.run [] s1 (start N vs) H _ I hq) (fun fl s2 hs => ?_) fun e s2 hs => hs)⟩
  match fl, hs with
  | .ret u, ⟨v, _, H2, J, rv, q⟩ => exact ⟨v, H2, J.os, J.bare, J.base, J.hok, rv, q⟩
  | .next, ⟨_, H2, J, q⟩ => exact ⟨.non, H2, J.os, J.bare, J.base, J.hok, rfl, q⟩
  | .brk, ⟨_, _, _, q⟩ => exact q.elim
  | .cont, ⟨_, _, _, q⟩ => exact q.elim
end
/-- f(e, ..) of such a def -/
theorem pe_callG {X : Cx} {k : Nat} {f : Addr} {fd : FuncData} {ps : List Str} {sp : Sp} {x : Str} {p pos : Pos} {e : Expr} {es : List Expr} {t : TA} (F : FnG X.prog X.w X.K X.mg X.base k f fd ps sp) (hr : Room k X.A) (hG : X.A.guards = some []) (hg : Gl X x) (hm : X.mg x = some (.ref f))
    (hk : PySem.W.keepIn X.K (.ref f) = true) (hb : Binds X.K fd ps []) (ha : PA X (e :: es) t)
    (hdb : (x == ("__debug__" : Str)) = false := by decide) (he : starEach (e :: es) X.env = (false, eval e X.env) :: starEach es X.env := by rfl) (hpl : (backTo pos (starEach es X.env)).any (·.1) = false := by rfl) :
    PE X (.Call (.Name x p) (e :: es) [] pos) (fun σ H Q => t σ H fun vs H1 => sp vs H1 Q E0) := by
  refine ⟨fun pins s σ H Q I h => wpAny_Call_Name_kw (ld_glob I hg hm ?_ hdb)⟩
  refine PySem.W.callWith_K (h₀ := X.base) I.ok.mod.kin hk (thn (ha.run pos pins s σ H _ I h) fun us s1 ⟨vs, H1, I1, r, q⟩ => ⟨I1.kIn, ?_⟩) he hpl
  have bind := hb s1 us I1.kIn (by rw [List.append_nil, ← r.length]; exact F.len _ _ _ _ q)
  rw [List.append_nil] at bind
  refine wpAny_call (codeAny_mono (F.run X.A X.stack s1 H1 us vs Q hr hG I1.env0 bind r q) fun res s2 hq => ?_)
  match res, hq with
  | .ok (.ret u), hq => exact I1.after hq
  | .ok .next, hq => exact hq.elim
  | .ok .brk, hq => exact hq.elim
  | .ok .cont, hq => exact hq.elim
  | .error z, hq => exact hq.elim

/-- THE END, from the law's promise where no guard is up -/
theorem end_call {P : Program} {w : World} {K : PySem.W.Frag} {mg mb : Str → Option Value} {k : Nat} {fa a : Addr} {fd : FuncData} {x : Str} {sp : Sp} {s1 : Shared} {vs : List Value} {ns : List Int}
    (KX : K.In s1.heap) (hns : s1.heap.Ns mainGlobals mg) (hb : s1.heap.Ns builtinsNs mb) (hbb : ∀ x : Str, x ≠ "__name__" → mb x = bootBuiltins x) (hlim : s1.heap.NoLimit) (hg : s1.gens = #[])
    (ha : s1.heap.get? a = some { cls := .type "list", data := .seq vs.toArray }) (hi : IntsAre vs ns) (hl : ns.length ≤ sizeLine) (hr : Room k callerA)
    (F : ∀ base : Heap, K.In base → base.Ns mainGlobals mg → FnG P w K mg base k fa fd [x] sp) (hbind : ∀ (s : Shared) (u : Value), BindsTo s fd ⟨[u], []⟩ [(x, u)])
    (hsp : ∀ H : Hp, SqL K H a (ns.map V.int) → sp [.ref a] H (fun v _ => v = .bl true) E0) :
    codeAny (model P w) callerA (.call (.ref fa) ⟨[.ref a], []⟩) (fun r s' => r = .ok (.ret (.bool true)) ∧ OldK s1.heap s'.heap ∧ s'.os = s1.os ∧ AllBare s'.gens) s1 := by
  have rv := vals_ints hi
  -- from any abstract heap that tracks nothing but the script, locked
  have core : ∀ H : Hp, (∀ b o, H b = some o → b = a ∧ K.lookup a = none ∧ o = .frz { cls := .type "list", data := .seq vs.toArray } (.lst (ns.map V.int))) → SqL K H a (ns.map V.int) →
      codeAny (model P w) callerA (.call (.ref fa) ⟨[.ref a], []⟩) (fun r s' => r = .ok (.ret (.bool true)) ∧ OldK s1.heap s'.heap ∧ s'.os = s1.os ∧ AllBare s'.gens) s1 := by
    intro H only hS
    have hok : HOk P w H s1.heap := fun b o e => by
      obtain ⟨rfl, _, rfl⟩ := only b o e
      exact ⟨ha, by rw [List.length_map]; exact hl, vs, _, rv, ha⟩
    have free : ∀ {b : Addr} {o : Obj}, s1.heap.get? b = some o → (b = a → K.lookup a = none → o ≠ { cls := .type "list", data := .seq vs.toArray }) → (hidT s1.heap H).get? b = some o := fun {b o} e n => by
      refine hidT_get e ?_
      cases q : H b with
      | none => rfl
      | some u =>
        obtain ⟨e1, e2, _⟩ := only b u q
        subst e1
        rw [ha] at e
        exact absurd (Option.some.inj e).symm (n rfl e2)
    have nsH : ∀ {b : Addr} {m : Str → Option Value}, s1.heap.Ns b m → (hidT s1.heap H).Ns b m := fun {b m} ⟨o, es, ep, e, d, r⟩ => ⟨o, es, ep, free e (fun _ _ z => by
      subst z
      exact nomatch d), d, r⟩
    have hKb : K.In (hidT s1.heap H) := fun b o e => free (KX b o e) fun z n _ => by
      subst z
      rw [n] at e
      cases e
    have hM : Mod K mg (hidT s1.heap H) := ⟨hKb, nsH hns, ⟨mb, nsH hb, hbb⟩, let ⟨mc, h1, h2⟩ := hlim; ⟨mc, nsH h1, h2⟩⟩
    have none0 : ∀ b : Addr, b ∉ frs ([] : List Env) := fun b z => nomatch z
    have e0 : Env0 P w K mg (hidT s1.heap H) callerA [] s1 H := ⟨rfl, hM, fun b o e => of_hidT e, Nat.le_of_eq (hidT_size _ _), trivial, fun b z => absurd z (none0 b), hok, .of_eq hg⟩
    refine codeAny_mono ((F _ hKb (nsH hns)).run callerA [] s1 H [.ref a] [.ref a] _ hr rfl e0 (hbind s1 (.ref a)) (.cons rfl .nil) (hsp H hS)) fun r s2 h => ?_
    match r, h with
    | .ok (.ret u), ⟨v, H2, os, bare, un, hok2, rv2, q⟩ =>
      obtain rfl : v = .bl true := q
      obtain rfl : u = Value.bool true := rv2
      refine ⟨rfl, OldK.of_keep fun b o e => ?_, os, bare⟩
      cases q2 : H b with
      | none => exact un.keep b o e q2 (none0 b) (by simp)
      | some z =>
        obtain ⟨rfl, _, rfl⟩ := only b z q2
        obtain ⟨e2, _⟩ := hok2 _ _ (un.frzs _ _ _ q2)
        rw [ha] at e
        cases e
        exact e2
    | .ok .next, h => exact h.elim
    | .ok .brk, h => exact h.elim
    | .ok .cont, h => exact h.elim
    | .error z, h => exact h.elim
  cases hk : K.lookup a with
  | some o =>
    have e := KX a o hk
    rw [ha] at e
    cases e
    exact core (fun _ => none) (fun b o e => nomatch e) (.inr ⟨_, vs.toArray, _, hk, rfl, rfl, rfl, by rw [List.size_toArray, hi.length]; exact hl, by simpa using rv⟩)
  | none =>
    refine core (upd (fun _ => none) a (.frz { cls := .type "list", data := .seq vs.toArray } (.lst (ns.map V.int)))) (fun b o e => ?_) (.inl (.inr ⟨_, upd_same⟩))
    by_cases z : b = a
    · subst z
      rw [upd_same] at e
      exact ⟨rfl, hk, (Option.some.inj e).symm⟩
    · rw [upd_ne z] at e
      cases e

theorem endG {l : PySem.W.OpenLaw} {n k : Nat} {q : Program} {loose : List Str} {XP : (Str → Option Value) → Heap → Prop} {YP : World → Heap → Prop} {d : DefRec} {K : Params → PySem.W.Frag} {sp : World → Sp} {x : Str}
    (hn : l.most = some n) (hn2 : n ≤ sizeLine) (hdf : d.params.defaults = []) (hr : Room k callerA) (hY : ∀ (w : World) (h : Heap), YP w h → (K w.params).In h)
    (F : ∀ (w : World) (mg : Str → Option Value) (fa : Addr) (h : Heap), (K w.params).In h → h.Ns mainGlobals mg → mg d.name = some (.ref fa) →
      ∃ fd : FuncData, (∀ (s : Shared) (u : Value), BindsTo s fd ⟨[u], []⟩ [(x, u)]) ∧ ∀ base : Heap, (K w.params).In base → base.Ns mainGlobals mg → FnG l.prog w (K w.params) mg base k fa fd [x] (sp w))
    (hsp : ∀ (w : World) (H : Hp) (a : Addr) (ns : List Int), ns.length ≤ n → SqL (K w.params) H a (ns.map V.int) → sp w [.ref a] H (fun v _ => v = .bl true) E0) :
    PySem.W.WalkO q loose XP YP l.row.toRowW d [] (fun f vs => PySem.call f vs) := by
  refine Att.attach_call hn hdf fun w s0 s1 mg mb fa o pm cd doc a vs ns G Y ho hd hcd hmg hobj hints hlen hg => ?_
  have KX := hY w _ Y
  obtain ⟨fd, bind, hF⟩ := F w mg fa _ KX G.T.g hmg
  exact end_call KX G.T.g G.T.b G.T.builtins G.T.nolimit hg hobj hints (Nat.le_trans hlen hn2) hr hF bind fun H hS => hsp w H a ns hlen hS
end Er
/-! The text by places; texts, rows, files as they lie in the heap. -/
namespace Er
open PySem L2 TL

/-! ### the text by places -/
def topS (i : Nat) : Stmt := PySem.Challenge.pw_envrows_k06_whole_written_forms_there_an.main.body.getD i (.Pass ⟨0, 0, 0, 0⟩)
/-- a def of the text: where it stands, how it binds, what its name holds -/
structure Df (K : PySem.W.Frag) (mg : Str → Option Value) (x : Str) (st : Stmt) (ps : List Str) (f : Addr) (fd : FuncData) : Prop where
  F : Fun K x x st f fd
  b : Binds K fd ps []
  m : mg x = some (.ref f)

/-! ### constants of the text -/
abbrev sCAP : Str := "ABCDEFGHIJKLMNOPQRSTUVWXYZ"
abbrev sPL : Str := "abcdefghijklmnopqrstuvwxyz0123456789 _./:=,@-"
abbrev sKIND : Str := "-+?="
theorem tl_cap : tl sCAP = capL := by decide +kernel
theorem tl_pl : tl sPL = plL := by decide +kernel
theorem tl_kind : tl sKIND = kindL := by decide +kernel
theorem tl_capU : tl (sCAP ++ ("_" : Str)) = capUL := by decide +kernel
/-- what the top's other names hold -/
structure Txt (K : PySem.W.Frag) (mg : Str → Option Value) : Prop where
  b_len : mg "len" = none
  b_isinstance : mg "isinstance" = none
  b_str : mg "str" = none
  b_tuple : mg "tuple" = none
  b_all : mg "all" = none
  b_enumerate : mg "enumerate" = none
  b_sorted : mg "sorted" = none
  b_set : mg "set" = none
  b_range : mg "range" = none
  b_list : mg "list" = none
  b_int : mg "int" = none
  b_min : mg "min" = none
  b_repr : mg "repr" = none
  c_MOST_ROWS : ∃ t, mg "MOST_ROWS" = some (.int 40 t)
  c_MOST_NAMES : ∃ t, mg "MOST_NAMES" = some (.int 12 t)
  c_MOST_PIECES : ∃ t, mg "MOST_PIECES" = some (.int 8 t)
  c_MOST_PLAIN : ∃ t, mg "MOST_PLAIN" = some (.int 20 t)
  c_MOST_LEVELS : ∃ t, mg "MOST_LEVELS" = some (.int 4 t)
  c_MOST_IN_NAME : ∃ t, mg "MOST_IN_NAME" = some (.int 8 t)
  c_CAPITALS : ∃ t, mg "CAPITALS" = some (.str sCAP t)
  c_PLAIN_SIGNS : ∃ t, mg "PLAIN_SIGNS" = some (.str sPL t)
  c_SIGNS : ∃ a, mg "SIGNS" = some (.ref a) ∧ ∀ H, SqT K H a (signsL.map V.str)
  c_SET : ∃ t, mg "SET" = some (.str "set" t)
  c_GIVE : ∃ t, mg "GIVE" = some (.str "give" t)
  c_DROP : ∃ t, mg "DROP" = some (.str "drop" t)
  c_CHECK : ∃ t, mg "CHECK" = some (.str "check" t)
  c_BEGIN : ∃ t, mg "BEGIN" = some (.str "${" t)
  c_DOLLAR : ∃ t, mg "DOLLAR" = some (.str "$" t)
  c_CURLY : ∃ t, mg "CURLY" = some (.str "{" t)
  c_END : ∃ t, mg "END" = some (.str "}" t)
  c_COLON : ∃ t, mg "COLON" = some (.str ":" t)
  c_KINDS : ∃ t, mg "KINDS" = some (.str sKIND t)
  c_EQUALS : ∃ t, mg "EQUALS" = some (.str "=" t)
  c_ASKED : ∃ t, mg "ASKED" = some (.str "?" t)
  c_GIVEN : ∃ t, mg "GIVEN" = some (.str "?=" t)
  c_BLANK : ∃ t, mg "BLANK" = some (.str " " t)
  c_NEWLINE : ∃ t, mg "NEWLINE" = some (.str "\n" t)

/-! ### heaps -/
theorem sNew {H : Hp} {p : Addr} (h : H p = none) (o : HO) : Same H (upd H p o) := fun b u q => by
  rw [upd_ne (ne_of_none q h)]
  exact q
/-- what has come since H0 may be changed -/
theorem sPut {H0 H : Hp} {p : Addr} (e : Same H0 H) (h : H0 p = none) (o : HO) : Same H0 (upd H p o) := fun b u q => by
  rw [upd_ne (ne_of_none q h)]
  exact e b u q
/-- tuples stay -/
def Tups (H H' : Hp) : Prop := ∀ b xs, H b = some (.tup xs) → H' b = some (.tup xs)
theorem sTups {H H' : Hp} (e : Same H H') : Tups H H' := fun b xs q => e b _ q
theorem Tups.trans {H H1 H2 : Hp} (a : Tups H H1) (b : Tups H1 H2) : Tups H H2 := fun c xs q => b c xs (a c xs q)
theorem Tups.refl (H : Hp) : Tups H H := fun _ _ q => q
theorem Tups.put {H : Hp} {p : Addr} {xs : List V} (h : H p = some (.lst xs)) (ys : List V) : Tups H (upd H p (.lst ys)) := fun b zs q => by
  have n : b ≠ p := fun z => by
    rw [z, h] at q
    cases q
  rw [upd_ne n]
  exact q
theorem Tups.new {H : Hp} {p : Addr} (h : H p = none) (o : HO) : Tups H (upd H p o) := sTups (sNew h o)

/-- the pieces xs are those of t -/
def TIs (H : Hp) : T → List V → Prop
  | .nil, xs => xs = []
  | .plain s r, xs => ∃ ys, xs = V.str s :: ys ∧ TIs H r ys
  | .part n s u r, xs => ∃ (a b : Addr) (us ys : List V), xs = V.ref a :: ys ∧ H a = some (.tup [.str n, .str s, .ref b]) ∧ H b = some (.tup us) ∧ TIs H u us ∧ TIs H r ys
theorem TIs.keep {H H' : Hp} (e : Tups H H') : ∀ {t : T} {xs : List V}, TIs H t xs → TIs H' t xs
  | .nil, _, h => h
  | .plain s r, _, ⟨ys, h1, h2⟩ => ⟨ys, h1, TIs.keep e h2⟩
  | .part n s u r, _, ⟨a, b, us, ys, h1, h2, h3, h4, h5⟩ => ⟨a, b, us, ys, h1, e _ _ h2, e _ _ h3, TIs.keep e h4, TIs.keep e h5⟩
theorem TIs.len {H : Hp} : ∀ {t : T} {xs : List V}, TIs H t xs → xs.length = t.len
  | .nil, _, h => by
    rw [show _ = [] from h]
    rfl
  | .plain s r, _, ⟨ys, h1, h2⟩ => by
    rw [h1, List.length_cons, TIs.len h2]
    rfl
  | .part n s u r, _, ⟨a, b, us, ys, h1, _, _, _, h5⟩ => by
    rw [h1, List.length_cons, TIs.len h5]
    rfl
theorem TIs.app {H : Hp} {t' : T} {zs : List V} : ∀ {t : T} {xs : List V}, TIs H t xs → TIs H t' zs → TIs H (t.app t') (xs ++ zs)
  | .nil, _, h, k => by
    rw [show _ = [] from h]
    exact k
  | .plain s r, _, ⟨ys, h1, h2⟩, k => ⟨ys ++ zs, by rw [h1]; rfl, TIs.app h2 k⟩
  | .part n s u r, _, ⟨a, b, us, ys, h1, h2, h3, h4, h5⟩, k => ⟨a, b, us, ys ++ zs, by rw [h1]; rfl, h2, h3, h4, TIs.app h5 k⟩
theorem TIs.split {H : Hp} {t' : T} : ∀ {t : T} {xs : List V}, TIs H (t.app t') xs → ∃ ys zs, xs = ys ++ zs ∧ TIs H t ys ∧ TIs H t' zs
  | .nil, xs, h => ⟨[], xs, rfl, rfl, h⟩
  | .plain s r, _, ⟨ws, h1, h2⟩ => by
    obtain ⟨ys, zs, e, k1, k2⟩ := TIs.split h2
    exact ⟨V.str s :: ys, zs, by rw [h1, e]; rfl, ⟨ys, rfl, k1⟩, k2⟩
  | .part n s u r, _, ⟨a, b, us, ws, h1, h2, h3, h4, h5⟩ => by
    obtain ⟨ys, zs, e, k1, k2⟩ := TIs.split h5
    exact ⟨V.ref a :: ys, zs, by rw [h1, e]; rfl, ⟨a, b, us, ys, rfl, h2, h3, h4, k1⟩, k2⟩
/-- where the last piece isn't plain -/
theorem TIs.last {H : Hp} : ∀ {t : T} {xs : List V}, TIs H t xs → ∀ b, t.lastB b = false → (xs = [] ∧ b = false) ∨ ∃ ys p us, xs = ys ++ [V.ref p] ∧ H p = some (.tup us)
  | .nil, _, h, b, e => .inl ⟨h, e⟩
  | .plain s r, _, ⟨ws, h1, h2⟩, b, e => by
    rcases TIs.last h2 true e with ⟨_, z⟩ | ⟨ys, p, us, k1, k2⟩
    · cases z
    · exact .inr ⟨V.str s :: ys, p, us, by rw [h1, k1]; rfl, k2⟩
  | .part n s u r, _, ⟨a, c, us, ws, h1, h2, h3, h4, h5⟩, b, e => by
    rcases TIs.last h5 false e with ⟨z, _⟩ | ⟨ys, p, vs, k1, k2⟩
    · exact .inr ⟨[], a, _, by rw [h1, z]; rfl, h2⟩
    · exact .inr ⟨V.ref a :: ys, p, vs, by rw [h1, k1]; rfl, k2⟩
/-- the text t lies at p -/
def TAt (H : Hp) (p : Addr) (t : T) : Prop := ∃ xs, H p = some (.tup xs) ∧ TIs H t xs
theorem TAt.keep {H H' : Hp} (e : Tups H H') {p : Addr} {t : T} (h : TAt H p t) : TAt H' p t := let ⟨xs, h1, h2⟩ := h; ⟨xs, e _ _ h1, h2.keep e⟩
theorem TIs.dp {K : PySem.W.Frag} {H : Hp} : ∀ {t : T} {xs : List V}, TIs H t xs → DpAll K H xs t.dat
  | .nil, _, h => by
    rw [show _ = [] from h]
    exact .nil
  | .plain s r, _, ⟨ys, h1, h2⟩ => by
    rw [h1]
    exact .cons (.str s) (TIs.dp h2)
  | .part n s u r, _, ⟨a, b, us, ys, h1, h2, h3, h4, h5⟩ => by
    rw [h1]
    exact .cons (.tup (SqT.of h2) (.cons (.str n) (.cons (.str s) (.cons (.tup (SqT.of h3) (TIs.dp h4)) .nil)))) (TIs.dp h5)

/-- the row r is v -/
def RIs (H : Hp) : Rw → V → Prop
  | .set n t, v => ∃ a b, v = V.ref a ∧ H a = some (.tup [.str "set", .str n, .ref b]) ∧ TAt H b t
  | .give n t, v => ∃ a b, v = V.ref a ∧ H a = some (.tup [.str "give", .str n, .ref b]) ∧ TAt H b t
  | .drop n, v => ∃ a, v = V.ref a ∧ H a = some (.tup [.str "drop", .str n])
  | .chk t, v => ∃ a b, v = V.ref a ∧ H a = some (.tup [.str "check", .ref b]) ∧ TAt H b t
theorem RIs.keep {H H' : Hp} (e : Tups H H') : ∀ {r : Rw} {v : V}, RIs H r v → RIs H' r v
  | .set n t, _, ⟨a, b, h1, h2, h3⟩ => ⟨a, b, h1, e _ _ h2, h3.keep e⟩
  | .give n t, _, ⟨a, b, h1, h2, h3⟩ => ⟨a, b, h1, e _ _ h2, h3.keep e⟩
  | .drop n, _, ⟨a, h1, h2⟩ => ⟨a, h1, e _ _ h2⟩
  | .chk t, _, ⟨a, b, h1, h2, h3⟩ => ⟨a, b, h1, e _ _ h2, h3.keep e⟩
theorem TAt.dp {K : PySem.W.Frag} {H : Hp} {p : Addr} {t : T} (h : TAt H p t) : Dp K H (.ref p) (.tuple t.dat) := let ⟨xs, h1, h2⟩ := h; .tup (SqT.of h1) h2.dp
theorem RIs.dp {K : PySem.W.Frag} {H : Hp} : ∀ {r : Rw} {v : V}, RIs H r v → Dp K H v r.dat
  | .set n t, _, ⟨a, b, h1, h2, h3⟩ => by
    rw [h1]
    exact .tup (SqT.of h2) (.cons (.str _) (.cons (.str n) (.cons h3.dp .nil)))
  | .give n t, _, ⟨a, b, h1, h2, h3⟩ => by
    rw [h1]
    exact .tup (SqT.of h2) (.cons (.str _) (.cons (.str n) (.cons h3.dp .nil)))
  | .drop n, _, ⟨a, h1, h2⟩ => by
    rw [h1]
    exact .tup (SqT.of h2) (.cons (.str _) (.cons (.str n) .nil))
  | .chk t, _, ⟨a, b, h1, h2, h3⟩ => by
    rw [h1]
    exact .tup (SqT.of h2) (.cons (.str _) (.cons h3.dp .nil))
/-- the rows of a file -/
def FIs (H : Hp) (rs : List Rw) (xs : List V) : Prop := Paired (RIs H) rs xs
theorem FIs.keep {H H' : Hp} (e : Tups H H') {rs : List Rw} {xs : List V} (h : FIs H rs xs) : FIs H' rs xs := Paired.mapP h fun _ _ k => k.keep e
theorem FIs.dp {K : PySem.W.Frag} {H : Hp} {rs : List Rw} {xs : List V} (h : FIs H rs xs) : DpAll K H xs (rs.map Rw.dat) := by
  induction h with
  | nil => exact .nil
  | cons k _ ih => exact .cons k.dp ih
def FAt (H : Hp) (p : Addr) (rs : List Rw) : Prop := ∃ xs, H p = some (.tup xs) ∧ FIs H rs xs
theorem FAt.keep {H H' : Hp} (e : Tups H H') {p : Addr} {rs : List Rw} (h : FAt H p rs) : FAt H' p rs := let ⟨xs, h1, h2⟩ := h; ⟨xs, e _ _ h1, h2.keep e⟩
theorem FAt.dp {K : PySem.W.Frag} {H : Hp} {p : Addr} {rs : List Rw} (h : FAt H p rs) : Dp K H (.ref p) (.tuple (rs.map Rw.dat)) := let ⟨xs, h1, h2⟩ := h; .tup (SqT.of h1) h2.dp
/-- a text of these codes -/
def ofC (l : List Nat) : Str := ⟨l.toArray⟩
theorem tl_ofC (l : List Nat) : tl (ofC l) = l := rfl
theorem ofC_tl (s : Str) : ofC (tl s) = s := mk_tl s
theorem ofC_app (a b : List Nat) : ofC a ++ ofC b = ofC (a ++ b) := ext_tl (by rw [tl_append]; rfl)
theorem len_ofC (l : List Nat) : (ofC l).length = l.length := by rw [len_tl, tl_ofC]
end Er
/-! Short words for the walks. -/
namespace Er
open PySem L2 TL
section
variable {X : Cx} {pos : Pos} {x : Str}
/-- constants of the top -/
theorem gS {z : Str} (hm : ∃ t, X.mg x = some (.str z t)) (hg : Gl X x := by rfl) (hd : (x == ("__debug__" : Str)) = false := by decide) : PE X (.Name x pos) (tC (.str z)) := let ⟨_, h⟩ := hm; pe_glob hg h ⟨_, rfl⟩ hd
theorem gI {z : Int} (hm : ∃ t, X.mg x = some (.int z t)) (hg : Gl X x := by rfl) (hd : (x == ("__debug__" : Str)) = false := by decide) : PE X (.Name x pos) (tC (.int z)) := let ⟨_, h⟩ := hm; pe_glob hg h ⟨_, rfl⟩ hd

/-- isinstance(x, T) for a text or a tuple x; s: what is answered for a text -/
def rIs (s : Bool) : V → Hp → VK → Prop := fun v H Q => (∃ z, v = .str z ∧ Q (.bl s) H) ∨ ∃ p us, v = .ref p ∧ H p = some (.tup us) ∧ Q (.bl (!s)) H
def rIs2 (T : String) (s : Bool) : List V → Hp → VK → Prop
  | [v, c], H, Q => c = .ty T ∧ rIs s v H Q
  | _, _, _ => False
theorem is_run {T : String} {s : Bool} (h1 : kitB "str" T = some s) (h2 : kitB "tuple" T = some (!s)) : CallR X (.builtin "isinstance") (rIs2 T s) := by
  intro pins st σ H vs us Q I r h
  match vs, h with
  | [v, c], ⟨e, h⟩ =>
    subst e
    refine call_isi pins st σ H _ us Q I r ?_
    rcases h with ⟨z, rfl, q⟩ | ⟨p, ws, rfl, hp, q⟩
    · exact ⟨_, _, _, _, _, rfl, .ty T, .base (.str z), kit_ty h1, q⟩
    · exact ⟨_, _, _, _, _, rfl, .ty T, .base (.tup hp), kit_ty h2, q⟩
variable {e : Expr} {te : TE} {p p2 : Pos}
theorem boot_isi : bootBuiltins "isinstance" = some (.builtin "isinstance") := by decide +kernel
theorem boot_strT : bootBuiltins "str" = some (.type "str") := by decide +kernel
theorem boot_tupT : bootBuiltins "tuple" = some (.type "tuple") := by decide +kernel
theorem boot_listT : bootBuiltins "list" = some (.type "list") := by decide +kernel
theorem boot_setT : bootBuiltins "set" = some (.type "set") := by decide +kernel
theorem boot_intT : bootBuiltins "int" = some (.type "int") := by decide +kernel
theorem boot_allB : bootBuiltins "all" = some (.builtin "all") := by decide +kernel
theorem boot_sortB : bootBuiltins "sorted" = some (.builtin "sorted") := by decide +kernel
theorem boot_reprB : bootBuiltins "repr" = some (.builtin "repr") := by decide +kernel
theorem boot_minB : bootBuiltins "min" = some (.builtin "min") := by decide +kernel
theorem isS (hm : X.mg "isinstance" = none) (hm2 : X.mg "str" = none) (he : PE X e te) (hg : Gl X "isinstance" := by rfl) (hg2 : Gl X "str" := by rfl)
    (h1 : starEach [e, .Name "str" p2] X.env = (false, eval e X.env) :: starEach [.Name "str" p2] X.env := by rfl) (h2 : starEach [.Name "str" p2] X.env = (false, eval (.Name "str" p2) X.env) :: starEach [] X.env := by rfl)
    (h3 : (backTo pos (starEach [.Name "str" p2] X.env)).any (·.1) = false := by rfl) : PE X (.Call (.Name "isinstance" p) [e, .Name "str" p2] [] pos) (tCB (rIs2 "str" true) (tCons te (tCons (L2.tC (.ty "str")) tNil))) :=
  pe_callB (is_run (T := "str") (s := true) (by decide +kernel) (by decide +kernel)) hg hm boot_isi (pa_cons he (pa_cons (pe_bltn (v := .ty "str") (u := .type "str") hg2 hm2 boot_strT rfl) pa_nil h2) h1) (he := h1) (hpl := h3)
theorem isU (hm : X.mg "isinstance" = none) (hm2 : X.mg "tuple" = none) (he : PE X e te) (hg : Gl X "isinstance" := by rfl) (hg2 : Gl X "tuple" := by rfl)
    (h1 : starEach [e, .Name "tuple" p2] X.env = (false, eval e X.env) :: starEach [.Name "tuple" p2] X.env := by rfl) (h2 : starEach [.Name "tuple" p2] X.env = (false, eval (.Name "tuple" p2) X.env) :: starEach [] X.env := by rfl)
    (h3 : (backTo pos (starEach [.Name "tuple" p2] X.env)).any (·.1) = false := by rfl) : PE X (.Call (.Name "isinstance" p) [e, .Name "tuple" p2] [] pos) (tCB (rIs2 "tuple" false) (tCons te (tCons (L2.tC (.ty "tuple")) tNil))) :=
  pe_callB (is_run (T := "tuple") (s := false) (by decide +kernel) (by decide +kernel)) hg hm boot_isi (pa_cons he (pa_cons (pe_bltn (v := .ty "tuple") (u := .type "tuple") hg2 hm2 boot_tupT rfl) pa_nil h2) h1) (he := h1) (hpl := h3)
/-- len(x) of a text, of a list or tuple -/
def rLnS : List V → Hp → VK → Prop
  | [.str z], H, Q => z.length ≤ sizeLine ∧ Q (.int z.length) H
  | _, _, _ => False
def rLnQ (K : PySem.W.Frag) : List V → Hp → VK → Prop
  | [.ref p], H, Q => ∃ ys, (SqL K H p ys ∨ SqT K H p ys) ∧ Q (.int ys.length) H
  | _, _, _ => False
theorem cr_lnS : CallR X (.builtin "len") rLnS := by
  intro pins st σ H vs us Q I r h
  match vs, h with
  | [.str z], ⟨h1, h2⟩ => exact call_len_str pins st σ H _ us Q I r ⟨z, rfl, h1, h2⟩
theorem cr_lnQ : CallR X (.builtin "len") (rLnQ X.K) := by
  intro pins st σ H vs us Q I r h
  match vs, h with
  | [.ref p], ⟨ys, h1, h2⟩ => exact call_len_seq pins st σ H _ us Q I r ⟨p, ys, rfl, h1, h2⟩
theorem lenS (hm : X.mg "len" = none) (he : PE X e te) (hg : Gl X "len" := by rfl) (h1 : starEach [e] X.env = (false, eval e X.env) :: starEach [] X.env := by rfl) (h3 : (backTo pos (starEach [] X.env)).any (·.1) = false := by rfl) :
    PE X (.Call (.Name "len" p) [e] [] pos) (tCB rLnS (tCons te tNil)) := pe_callB cr_lnS hg hm PySem.boot_len (pa_cons he pa_nil h1) (he := h1) (hpl := h3)
theorem lenQ (hm : X.mg "len" = none) (he : PE X e te) (hg : Gl X "len" := by rfl) (h1 : starEach [e] X.env = (false, eval e X.env) :: starEach [] X.env := by rfl) (h3 : (backTo pos (starEach [] X.env)).any (·.1) = false := by rfl) :
    PE X (.Call (.Name "len" p) [e] [] pos) (tCB (rLnQ X.K) (tCons te tNil)) := pe_callB cr_lnQ hg hm PySem.boot_len (pa_cons he pa_nil h1) (he := h1) (hpl := h3)
end
section
variable {P : Program} {w : World} {K : PySem.W.Frag} {mg : Str → Option Value} {base : Heap}
/-- f(e, ..) of a def of the text -/
theorem cal {X : Cx} {k : Nat} {f : Addr} {fd : FuncData} {st : Stmt} {x : Str} {ps : List Str} {sp : Sp} {e : Expr} {es : List Expr} {t : TA} {p pos : Pos} (D : Df X.K X.mg x st ps f fd) (G : FnOk X.prog X.w X.K X.mg X.base CX0 k f fd ps sp) (hr : Room k X.A) (ha : PA X (e :: es) t) (hg : Gl X x := by rfl)
    (hdb : (x == ("__debug__" : Str)) = false := by decide) (he : starEach (e :: es) X.env = (false, eval e X.env) :: starEach es X.env := by rfl) (hpl : (backTo pos (starEach es X.env)).any (·.1) = false := by rfl) :
    PE X (.Call (.Name x p) (e :: es) [] pos) (tCall sp [] E0 t) := pe_call G hr hg D.m D.F.kp D.b .nil pass0 ha hdb he hpl
end
/-! ### signs -/
theorem ch_ne {c d : Nat} {z : Str} (hz : tl z = [d]) (h : c ≠ d) : decide (V.str ⟨#[c]⟩ = V.str z) = false := decide_eq_false fun e => h (by
  have e' : tl (⟨#[c]⟩ : Str) = tl z := congrArg tl (V.str.inj e)
  rw [hz] at e'
  exact List.head_eq_of_cons_eq e')
theorem ch_eq {d : Nat} {z : Str} (hz : tl z = [d]) : decide (V.str ⟨#[d]⟩ = V.str z) = true := decide_eq_true (congrArg V.str (ext_tl hz.symm))
theorem in_pos {c : Nat} {z : Str} (h : c ∈ tl z) : decide (c ∈ z.cps.toList) = true := decide_eq_true h
theorem in_neg {c : Nat} {z : Str} (h : c ∉ tl z) : decide (c ∈ z.cps.toList) = false := decide_eq_false h
/-- where a text goes on with r behind p, the sign at p's end is r's first -/
theorem at_here {z : Str} {p r : List Nat} {c : Nat} (h : tl z = p ++ c :: r) : atI z.cps.toList (p.length : Int) = some c := atI_nat (by
  show (tl z)[p.length]? = some c
  rw [h, List.getElem?_append_right (Nat.le_refl _), Nat.sub_self]
  rfl)
theorem at_head {z : Str} {r : List Nat} {c : Nat} (h : tl z = c :: r) : atI z.cps.toList 0 = some c := at_here (p := []) h
theorem tl_at {z : Str} {i c : Nat} (h : z.cps[i]? = some c) : c ∈ tl z := by
  have h' : (tl z)[i]? = some c := by
    rw [← h]
    simp [tl]
  exact List.mem_of_getElem? h'
theorem e_us : tl ("_" : Str) = [95] := by decide +kernel
end Er
/-! A text piece by piece; rules for the empty list. -/
namespace Er
open PySem L2 TL
inductive Pc where
  | pl (s : Str)
  | pt (n s : Str) (u : T)
namespace Pc
def wr : Pc → List Nat
  | pl s => tl s
  | pt n s u => 36 :: 123 :: (tl n ++ (tl s ++ (u.wr ++ [125])))
def names : Pc → List Str
  | pl _ => []
  | pt n _ u => n :: u.names
def ok (l : Nat) : Pc → Prop
  | pl s => okP s
  | pt n s u => okN n ∧ s ∈ signsL ∧ (s = ("" : Str) → u = T.nil) ∧ (s ≠ ("" : Str) → 2 ≤ l ∧ u.len ≤ 8 ∧ T.gd u (l - 1) false)
/-- as it lies -/
def lies (H : Hp) : Pc → V → Prop
  | pl s, v => v = .str s
  | pt n s u, v => ∃ a b, v = V.ref a ∧ H a = some (.tup [.str n, .str s, .ref b]) ∧ TAt H b u
/-- how deep, how heavy -/
def dp : Pc → Nat
  | pl _ => 1
  | pt _ _ u => u.dp + 1
def wS : Pc → Nat
  | pl s => (tl s).length
  | pt _ _ u => u.wS
end Pc
namespace T
def pcs : T → List Pc
  | nil => []
  | plain s r => .pl s :: pcs r
  | part n s u r => .pt n s u :: pcs r
theorem len_pcs : ∀ t : T, t.pcs.length = t.len
  | nil => rfl
  | plain s r => congrArg (· + 1) (len_pcs r)
  | part n s u r => congrArg (· + 1) (len_pcs r)
theorem wr_pcs : ∀ t : T, t.wr = (t.pcs.map Pc.wr).flatten
  | nil => rfl
  | plain s r => by
    show tl s ++ r.wr = tl s ++ (r.pcs.map Pc.wr).flatten
    rw [wr_pcs r]
  | part n s u r => by
    show 36 :: 123 :: (tl n ++ (tl s ++ (u.wr ++ 125 :: r.wr))) = (36 :: 123 :: (tl n ++ (tl s ++ (u.wr ++ [125])))) ++ (r.pcs.map Pc.wr).flatten
    rw [wr_pcs r]
    simp only [List.cons_append, List.append_assoc, List.nil_append]
theorem names_pcs : ∀ t : T, t.names = (t.pcs.map Pc.names).flatten
  | nil => rfl
  | plain s r => by
    show r.names = [] ++ (r.pcs.map Pc.names).flatten
    rw [names_pcs r]
    rfl
  | part n s u r => by
    show n :: (u.names ++ r.names) = (n :: u.names) ++ (r.pcs.map Pc.names).flatten
    rw [names_pcs r]
    rfl
theorem ok_pcs : ∀ (t : T) (l : Nat) (b : Bool), gd t l b → ∀ pc ∈ t.pcs, pc.ok l
  | nil, _, _, _, pc, h => nomatch h
  | plain s r, l, b, g, pc, h => by
    rcases List.mem_cons.mp h with z | z
    · rw [z]
      exact g.2.1
    · exact ok_pcs r l true g.2.2 pc z
  | part n s u r, l, b, g, pc, h => by
    rcases List.mem_cons.mp h with z | z
    · rw [z]
      exact ⟨g.1, g.2.1, g.2.2.1, g.2.2.2.1⟩
    · exact ok_pcs r l false g.2.2.2.2 pc z
theorem first_pcs : ∀ (t : T) (l : Nat) (s : Str), gd t l true → t.pcs[0]? ≠ some (.pl s)
  | nil, _, _, _, h => by cases h
  | plain _ _, _, _, g, _ => by cases g.1
  | part _ _ _ _, _, _, _, h => by cases h
/-- no two plain ones side by side -/
theorem adj_pcs : ∀ (t : T) (l : Nat) (b : Bool), gd t l b → ∀ (i : Nat) (s s' : Str), t.pcs[i]? = some (.pl s) → t.pcs[i + 1]? ≠ some (.pl s')
  | nil, _, _, _, i, s, s', h => by cases h
  | plain _ r, l, b, g, 0, s, s', _ => first_pcs r l s' g.2.2
  | plain _ r, l, b, g, i + 1, s, s', h => adj_pcs r l true g.2.2 i s s' h
  | part _ _ _ r, l, b, g, 0, s, s', h => by cases h
  | part _ _ _ r, l, b, g, i + 1, s, s', h => adj_pcs r l false g.2.2.2.2 i s s' h
theorem dp_pos : ∀ t : T, 1 ≤ t.dp
  | nil => Nat.le_refl _
  | plain _ r => dp_pos r
  | part n s u r => Nat.le_trans (dp_pos r) (Nat.le_max_right (u.dp + 1) r.dp)
theorem dp_pcs : ∀ (t : T) (pc : Pc), pc ∈ t.pcs → pc.dp ≤ t.dp
  | nil, _, h => nomatch h
  | plain s r, pc, h => by
    rcases List.mem_cons.mp h with z | z
    · rw [z]
      exact dp_pos r
    · exact dp_pcs r pc z
  | part n s u r, pc, h => by
    rcases List.mem_cons.mp h with z | z
    · rw [z]
      exact Nat.le_max_left (u.dp + 1) r.dp
    · exact Nat.le_trans (dp_pcs r pc z) (Nat.le_max_right (u.dp + 1) r.dp)
theorem wS_pcs : ∀ (t : T) (pc : Pc), pc ∈ t.pcs → pc.wS ≤ t.wS
  | nil, _, h => nomatch h
  | plain s r, pc, h => by
    rcases List.mem_cons.mp h with z | z
    · rw [z]
      show (tl s).length ≤ 10 * (tl s).length + 4 + r.wS
      omega
    · have := wS_pcs r pc z
      show pc.wS ≤ 10 * (tl s).length + 4 + r.wS
      omega
  | part n s u r, pc, h => by
    rcases List.mem_cons.mp h with z | z
    · rw [z]
      show u.wS ≤ 10 * (tl n).length + 10 * (tl s).length + 16 + u.wS + r.wS
      omega
    · have := wS_pcs r pc z
      show pc.wS ≤ 10 * (tl n).length + 10 * (tl s).length + 16 + u.wS + r.wS
      omega
theorem len_wS : ∀ t : T, t.len ≤ t.wS
  | nil => Nat.le_refl _
  | plain s r => by
    have := len_wS r
    show r.len + 1 ≤ 10 * (tl s).length + 4 + r.wS
    omega
  | part n s u r => by
    have := len_wS r
    show r.len + 1 ≤ 10 * (tl n).length + 10 * (tl s).length + 16 + u.wS + r.wS
    omega
theorem names_wS : ∀ t : T, t.names.length ≤ t.wS
  | nil => Nat.le_refl _
  | plain s r => by
    have := names_wS r
    show r.names.length ≤ 10 * (tl s).length + 4 + r.wS
    omega
  | part n s u r => by
    have h1 := names_wS r
    have h2 := names_wS u
    show (n :: (u.names ++ r.names)).length ≤ 10 * (tl n).length + 10 * (tl s).length + 16 + u.wS + r.wS
    rw [List.length_cons, List.length_append]
    omega
end T
theorem TIs.at {H : Hp} : ∀ {t : T} {xs : List V}, TIs H t xs → ∀ {i : Nat} {x : V}, xs[i]? = some x → ∃ pc, t.pcs[i]? = some pc ∧ pc ∈ t.pcs ∧ pc.lies H x
  | .nil, _, h, i, x, e => by
    rw [show _ = [] from h] at e
    cases e
  | .plain s r, _, ⟨ys, h1, h2⟩, 0, x, e => by
    rw [h1] at e
    exact ⟨.pl s, rfl, List.mem_cons_self, (Option.some.inj e).symm⟩
  | .plain s r, _, ⟨ys, h1, h2⟩, i + 1, x, e => by
    rw [h1] at e
    obtain ⟨pc, k1, k2, k3⟩ := TIs.at h2 (i := i) (x := x) e
    exact ⟨pc, k1, List.mem_cons_of_mem _ k2, k3⟩
  | .part n s u r, _, ⟨a, b, us, ys, h1, h2, h3, h4, h5⟩, 0, x, e => by
    rw [h1] at e
    exact ⟨.pt n s u, rfl, List.mem_cons_self, a, b, (Option.some.inj e).symm, h2, us, h3, h4⟩
  | .part n s u r, _, ⟨a, b, us, ys, h1, h2, h3, h4, h5⟩, i + 1, x, e => by
    rw [h1] at e
    obtain ⟨pc, k1, k2, k3⟩ := TIs.at h5 (i := i) (x := x) e
    exact ⟨pc, k1, List.mem_cons_of_mem _ k2, k3⟩
theorem flat_take {α : Type} {β : Type} (f : α → List β) {l : List α} {i : Nat} {x : α} (h : l[i]? = some x) : ((l.take (i + 1)).map f).flatten = ((l.take i).map f).flatten ++ f x := by
  rw [List.take_add_one, h]
  simp
theorem map_take {α β : Type} (f : α → β) {l : List α} {i : Nat} {x : α} (h : l[i]? = some x) : (l.take (i + 1)).map f = (l.take i).map f ++ [f x] := by
  rw [List.take_add_one, h]
  simp

/-! ### beside the empty list -/
section
variable {X : Cx} {k : Nat}
def rVoid (K : PySem.W.Frag) (ne : Bool) : V → V → Hp → VK → Prop := fun x y H Q => ∃ a xs ds b, x = .ref a ∧ y = .ref b ∧ SqL K H a xs ∧ DpAll K H xs ds ∧ PyData.canLayAll0 ds = true ∧ SqL K H b [] ∧ Q (.bl (if ne then !xs.isEmpty else xs.isEmpty)) H
theorem void_eqv : ∀ {K : PySem.W.Frag} {H : Hp} {xs : List V} {ds : List PyData}, DpAll K H xs ds → PyData.eqv (.list ds) (.list []) = xs.isEmpty
  | _, _, _, _, .nil => by simp only [PyData.eqv, PyData.eqvAll, List.isEmpty_nil]
  | _, _, _, _, .cons _ _ => by simp only [PyData.eqv, PyData.eqvAll, List.isEmpty_cons]
theorem ne_void (hr : Room k X.A) : OpR X (compareOp .NotEq) (rVoid X.K true) := by
  intro pins s σ H x y v u Q I rx ry h
  obtain ⟨a, xs, ds, b, rfl, rfl, h1, h2, h3, h4, q⟩ := h
  obtain ⟨as, r1⟩ := Dp.reads I (.list ds) (.ref a) v (.lst h1 h2) rx
  obtain ⟨bs, r2⟩ := Dp.reads I (.list []) (.ref b) u (.lst h4 .nil) ry
  have hu := hr.units
  have hm : min (PyData.list ds).depth (PyData.list []).depth ≤ 1 := Nat.le_trans (Nat.min_le_right _ _) (by simp [PyData.depth, PyData.depthAll])
  refine SeqAt.compareNe_reads r1 r2 (by simpa only [PyData.canLay0] using h3) (by simp only [PyData.canLay0, PyData.canLayAll0]) (by omega) ?_
  rw [void_eqv h2]
  exact ⟨.bl _, H, I, rfl, q⟩
theorem eq_void (hr : Room k X.A) : OpR X (compareOp .Eq) (rVoid X.K false) := by
  intro pins s σ H x y v u Q I rx ry h
  obtain ⟨a, xs, ds, b, rfl, rfl, h1, h2, h3, h4, q⟩ := h
  obtain ⟨as, r1⟩ := Dp.reads I (.list ds) (.ref a) v (.lst h1 h2) rx
  obtain ⟨bs, r2⟩ := Dp.reads I (.list []) (.ref b) u (.lst h4 .nil) ry
  have hu := hr.units
  have hm : min (PyData.list ds).depth (PyData.list []).depth ≤ 1 := Nat.le_trans (Nat.min_le_right _ _) (by simp [PyData.depth, PyData.depthAll])
  refine SeqAt.compareEq_reads r1 r2 (by simpa only [PyData.canLay0] using h3) (by simp only [PyData.canLay0, PyData.canLayAll0]) (by omega) ?_
  rw [void_eqv h2]
  exact ⟨.bl _, H, I, rfl, q⟩
end
end Er
namespace Er
open PySem L2 TL

abbrev sIsName : Stmt := topS 19
theorem scIsName : FnScope ["thing", "sign"] ["thing"] (defScope sIsName) := ⟨rfl, rfl, rfl, by decide +kernel, rfl, by decide +kernel, by decide +kernel⟩
section
variable {P : Program} {w : World} {K : PySem.W.Frag} {mg : Str → Option Value} {base : Heap}
def spIsName : Sp := fun vs H Q _ => ∃ n : Str, vs = [.str n] ∧ okN n ∧ ∀ H', Same H H' → Q (.bl true) H'
theorem ok_is_name {f : Addr} {fd : FuncData} (F : Fun K "is_name" "is_name" sIsName f fd) (T : Txt K mg) : FnOk P w K mg base CX0 1 f fd ["thing"] spIsName := by
  refine F.ok scIsName (fun vs H Q E h => ?_) (fun cdv A outer s H vs Q E hr h => ?_)
  · obtain ⟨n, rfl, _⟩ := h
    rfl
  obtain ⟨n, rfl, hn, q⟩ := h
  refine ⟨_, pss_cons (ps_if (PW.pt (pw_or (pt_not (pt_val (isS T.b_isinstance T.b_str (pv 0))))
      (pw_or1 (pt_not (pt_chain op_le op_le pe_int (lenS T.b_len (pv 0)) (gI T.c_MOST_IN_NAME))))))
      (pss_one (ps_ret pe_bl)) pss_nil)
    (pss_one (ps_ret (pe_and (pe_cmpR op_ne (pe_ix ix_str (pv 0) pe_int (fun _ _ => rfl)) pe_str (nomark _))
      (pe_one (pe_callB (cr_all rfl) rfl T.b_all boot_allB (pa_cons
        (pe_lc (own := [("sign", 1)]) (g := gName 1) (tt := tYes) rfl scIsName.nd (pi_str (pv 0)) (blkOk_by (N := ["thing", "sign"]) (sc := defScope sIsName) (by decide +kernel))
          (fun _ _ _ _ _ => pg_name (i := 1) scIsName.nd rfl (Or.inl rfl)) (fun _ _ _ _ _ => pts_nil)
          (fun _ _ _ _ _ => pe_cmpR op_in_sign (pv 1) (pe_op op_add_str (gS T.c_CAPITALS) pe_str) rfl)) pa_nil)))))), ?_⟩
  have ln := okN_len hn
  have sz : n.length ≤ sizeLine := by
    rw [len_tl]
    exact Nat.le_trans ln.2 (by decide)
  obtain ⟨c, r, ec, hc, hr', hl⟩ := okN_cons hn
  refine ⟨_, rfl, rfl, .inl ⟨n, rfl, _, rfl, iteF ?_⟩⟩
  refine ⟨_, rfl, sz, _, _, rfl, rfl, _, rfl, ?_⟩
  refine ite2 (fun _ => ?_) (fun z => absurd (decide_eq_true (by rw [len_tl]; omega)) z)
  refine ⟨_, _, rfl, rfl, _, rfl, ?_⟩
  have e8 : decide ((n.length : Int) ≤ 8) = true := decide_eq_true (by rw [len_tl]; omega)
  rw [e8]
  refine iteF ?_
  refine ⟨_, rfl, n, 0, c, rfl, rfl, sz, at_head ec, rfl, _, rfl, ?_⟩
  have n95 : c ≠ 95 := fun z => absurd (z ▸ hc) (by decide)
  rw [ch_ne e_us n95]
  refine iteT ?_
  refine ⟨_, rfl, n, rfl, fun D hD => lc_it walk_str (fun i H1 => H1 = upd H D (.lst ((List.replicate i true).map V.bl))) rfl (fun _ _ _ _ => trivial) ?_ ?_⟩
  · rintro i x H1 H2 hi rfl ⟨rfl, d, hd, rfl⟩
    refine ⟨rfl, ?_⟩
    have mem : d ∈ tl (sCAP ++ ("_" : Str)) := by
      rw [tl_capU]
      exact okN_all hn d (tl_at hd)
    have small : i < sizeLine := Nat.lt_of_lt_of_le hi (by rw [show n.cps.size = (tl n).length from len_tl n]; exact Nat.le_trans ln.2 (by decide))
    refine ⟨_, rfl, _, _, rfl, rfl, (by decide +kernel), d, _, rfl, rfl, _, upd_same, by rw [List.length_map, List.length_replicate]; exact small, ?_⟩
    rw [in_pos mem, upd_upd, List.replicate_succ', List.map_append]
    rfl
  · rintro H1 rfl
    refine ⟨D, List.replicate n.cps.size true, rfl, SqL.of upd_same, ?_⟩
    have e : (List.replicate n.cps.size true).all id = true := List.all_eq_true.mpr fun b hb => (List.mem_replicate.mp hb).2
    rw [e]
    exact q _ (sNew hD _)

/-! ### is_plain -/
abbrev sIsPlain : Stmt := topS 20
theorem scIsPlain : FnScope ["thing", "sign"] ["thing"] (defScope sIsPlain) := ⟨rfl, rfl, rfl, by decide +kernel, rfl, by decide +kernel, by decide +kernel⟩
def spIsPlain : Sp := fun vs H Q _ => (∃ s : Str, vs = [.str s] ∧ okP s ∧ ∀ H', Same H H' → Q (.bl true) H') ∨ ∃ p us, vs = [.ref p] ∧ H p = some (.tup us) ∧ Q (.bl false) H
theorem ok_is_plain {f : Addr} {fd : FuncData} (F : Fun K "is_plain" "is_plain" sIsPlain f fd) (T : Txt K mg) : FnOk P w K mg base CX0 1 f fd ["thing"] spIsPlain := by
  refine F.ok scIsPlain (fun vs H Q E h => ?_) (fun cdv A outer s H vs Q E hr h => ?_)
  · rcases h with ⟨n, rfl, _⟩ | ⟨p, us, rfl, _⟩ <;> rfl
  refine ⟨_, pss_cons (ps_if (PW.pt (pw_or (pt_not (pt_val (isS T.b_isinstance T.b_str (pv 0))))
      (pw_or1 (pt_not (pt_chain op_le op_le pe_int (lenS T.b_len (pv 0)) (gI T.c_MOST_PLAIN))))))
      (pss_one (ps_ret pe_bl)) pss_nil)
    (pss_one (ps_ret (pe_callB (cr_all rfl) rfl T.b_all boot_allB (pa_cons
        (pe_lc (own := [("sign", 1)]) (g := gName 1) (tt := tYes) rfl scIsPlain.nd (pi_str (pv 0)) (blkOk_by (N := ["thing", "sign"]) (sc := defScope sIsPlain) (by decide +kernel))
          (fun _ _ _ _ _ => pg_name (i := 1) scIsPlain.nd rfl (Or.inl rfl)) (fun _ _ _ _ _ => pts_nil)
          (fun _ _ _ _ _ => pe_cmpR op_in_sign (pv 1) (gS T.c_PLAIN_SIGNS) rfl)) pa_nil)))), ?_⟩
  rcases h with ⟨n, rfl, ⟨h1, h2, h3⟩, q⟩ | ⟨p, us, rfl, hp, q⟩
  · have ln := len_tl n
    have sz : n.length ≤ sizeLine := by
      rw [ln]
      exact Nat.le_trans h2 (by decide)
    refine ⟨_, rfl, rfl, .inl ⟨n, rfl, _, rfl, iteF ?_⟩⟩
    refine ⟨_, rfl, sz, _, _, rfl, rfl, _, rfl, ?_⟩
    refine ite2 (fun _ => ?_) (fun z => absurd (decide_eq_true (by omega)) z)
    refine ⟨_, _, rfl, rfl, _, rfl, ?_⟩
    have e8 : decide ((n.length : Int) ≤ 20) = true := decide_eq_true (by omega)
    rw [e8]
    refine iteF ?_
    refine ⟨_, rfl, n, rfl, fun D hD => lc_it walk_str (fun i H1 => H1 = upd H D (.lst ((List.replicate i true).map V.bl))) rfl (fun _ _ _ _ => trivial) ?_ ?_⟩
    · rintro i x H1 H2 hi rfl ⟨rfl, d, hd, rfl⟩
      refine ⟨rfl, ?_⟩
      have mem : d ∈ tl sPL := by
        rw [tl_pl]
        exact h3 d (tl_at hd)
      have small : i < sizeLine := Nat.lt_of_lt_of_le hi sz
      refine ⟨_, rfl, d, _, rfl, rfl, _, upd_same, by rw [List.length_map, List.length_replicate]; exact small, ?_⟩
      rw [in_pos mem, upd_upd, List.replicate_succ', List.map_append]
      rfl
    · rintro H1 rfl
      refine ⟨D, List.replicate n.cps.size true, rfl, SqL.of upd_same, ?_⟩
      have e : (List.replicate n.cps.size true).all id = true := List.all_eq_true.mpr fun b hb => (List.mem_replicate.mp hb).2
      rw [e]
      exact q _ (sNew hD _)
  · exact ⟨_, rfl, rfl, .inr ⟨p, us, rfl, hp, _, rfl, q⟩⟩

/-! ### is_part, is_text_of -/
abbrev sIsPart : Stmt := topS 21
abbrev sIsTextOf : Stmt := topS 22
theorem scIsPart : FnScope ["thing", "levels"] ["thing", "levels"] (defScope sIsPart) := ⟨rfl, rfl, rfl, by decide +kernel, rfl, by decide +kernel, by decide +kernel⟩
theorem scIsTextOf : FnScope ["thing", "levels", "at", "piece"] ["thing", "levels"] (defScope sIsTextOf) := ⟨rfl, rfl, rfl, by decide +kernel, rfl, by decide +kernel, by decide +kernel⟩
def spTextOf (n : Nat) : Sp := fun vs H Q _ => ∃ (p : Addr) (l : Nat) (t : T), vs = [.ref p, .int l] ∧ TAt H p t ∧ 1 ≤ l ∧ l ≤ n ∧ t.gd l false ∧ t.len ≤ 8 ∧ ∀ H', Same H H' → Q (.bl true) H'
def spPart (n : Nat) : Sp := fun vs H Q _ => ∃ (p : Addr) (l : Nat) (pc : Pc), vs = [.ref p, .int l] ∧ pc.lies H (.ref p) ∧ l ≤ n ∧ pc.ok (l + 1) ∧ ∀ H', Same H H' → Q (.bl true) H'
theorem in_signs : ∀ s ∈ signsL, inV (.str s) (signsL.map V.str) = true := by decide +kernel
theorem flat_signs : (signsL.map V.str).all flatV = true := by decide +kernel
theorem ok_is_part {n : Nat} {f f1 f2 : Addr} {fd fd1 fd2 : FuncData} (F : Fun K "is_part" "is_part" sIsPart f fd) (T : Txt K mg) (D1 : Df K mg "is_name" sIsName ["thing"] f1 fd1) (G1 : FnOk P w K mg base CX0 1 f1 fd1 ["thing"] spIsName)
    (D2 : Df K mg "is_text_of" sIsTextOf ["thing", "levels"] f2 fd2) (G2 : FnOk P w K mg base CX0 (2 * n + 1) f2 fd2 ["thing", "levels"] (spTextOf n)) : FnOk P w K mg base CX0 (2 * n + 2) f fd ["thing", "levels"] (spPart n) := by
  refine F.ok scIsPart (fun vs H Q E h => ?_) (fun cdv A outer s H vs Q E hr h => ?_)
  · obtain ⟨p, l, pc, rfl, _⟩ := h
    rfl
  obtain ⟨aS, mS, hS⟩ := T.c_SIGNS
  refine ⟨_, pss_cons (ps_if (PW.pt (pw_or (pt_not (pt_val (isU T.b_isinstance T.b_tuple (pv 0))))
      (pw_or (pt_cmpR op_ne (lenQ T.b_len (pv 0)) pe_int (nomark _)) (pw_or1 (pt_not (pt_val (cal D1 G1 (hr.mono (by omega)) (pa_cons (pe_ix ix_tup (pv 0) pe_int (fun _ _ => rfl)) pa_nil))))))))
      (pss_one (ps_ret pe_bl)) pss_nil)
    (pss_cons (ps_if (PW.pt (pw_or (pt_not (pt_val (isS T.b_isinstance T.b_str (pe_ix ix_tup (pv 0) pe_int (fun _ _ => rfl)))))
      (pw_or1 (pt_cmpR op_notIn_seq (pe_ix ix_tup (pv 0) pe_int (fun _ _ => rfl)) (pe_glob (v := .ref aS) rfl mS rfl) rfl))))
      (pss_one (ps_ret pe_bl)) pss_nil)
    (pss_cons (ps_if (pt_cmpR op_eq (pe_ix ix_tup (pv 0) pe_int (fun _ _ => rfl)) pe_str (nomark _))
      (pss_one (ps_ret (pe_and (isU T.b_isinstance T.b_tuple (pe_ix ix_tup (pv 0) pe_int (fun _ _ => rfl)))
        (pe_one (pe_cmpR op_eq (lenQ T.b_len (pe_ix ix_tup (pv 0) pe_int (fun _ _ => rfl))) pe_int (nomark _)))))) pss_nil)
    (pss_one (ps_ret (pe_and (pe_cmpR op_gt (pv 1) pe_int (nomark _)) (pe_one (cal D2 G2 hr (pa_cons (pe_ix ix_tup (pv 0) pe_int (fun _ _ => rfl)) (pa_cons (pv 1) pa_nil))))))))), ?_⟩
  obtain ⟨p, l, pc, rfl, hp, hl, ok, q⟩ := h
  cases pc with
  | pl z => cases hp
  | pt n0 s0 u =>
    obtain ⟨a, b, ea, ha, us, hb, hu⟩ := hp
    cases ea
    obtain ⟨k1, k2, k3, k4⟩ := ok
    -- the first test
    refine ⟨_, rfl, rfl, .inr ⟨p, _, rfl, ha, _, rfl, iteF ?_⟩⟩
    refine ⟨_, rfl, _, .inr (SqT.of ha), rfl, _, rfl, iteF ?_⟩
    refine ⟨_, rfl, p, _, 0, _, rfl, rfl, SqT.of ha, atI_nat rfl, n0, rfl, k1, fun H1 e1 => ⟨_, rfl, iteF ?_⟩⟩
    have ha1 := e1 _ _ ha
    have hb1 := e1 _ _ hb
    -- the second
    refine ⟨_, rfl, p, _, 1, _, rfl, rfl, SqT.of ha1, atI_nat rfl, rfl, .inl ⟨s0, rfl, _, rfl, iteF ?_⟩⟩
    refine ⟨_, rfl, p, _, 1, _, rfl, rfl, SqT.of ha1, atI_nat rfl, aS, _, rfl, .inr (hS _), rfl, flat_signs, _, rfl, ?_⟩
    have hin := in_signs s0 k2
    rw [hin]
    refine iteF ?_
    -- the third
    refine ⟨_, rfl, p, _, 1, _, rfl, rfl, SqT.of ha1, atI_nat rfl, rfl, _, rfl, ?_⟩
    refine ite2 (fun c => ?_) (fun c => ?_)
    · have e0 : s0 = ("" : Str) := V.str.inj (of_decide_eq_true c)
      obtain rfl := k3 e0
      obtain rfl : us = [] := hu
      refine ⟨_, rfl, p, _, 2, _, rfl, rfl, SqT.of ha1, atI_nat rfl, rfl, .inr ⟨b, _, rfl, hb1, _, rfl, ?_⟩⟩
      refine ⟨_, rfl, p, _, 2, _, rfl, rfl, SqT.of ha1, atI_nat rfl, _, .inr (SqT.of hb1), rfl, ?_⟩
      exact q _ e1
    · have e0 : s0 ≠ ("" : Str) := fun z => c (decide_eq_true (congrArg V.str z))
      obtain ⟨m1, m2, m3⟩ := k4 e0
      refine ⟨_, rfl, _, _, rfl, rfl, _, rfl, ?_⟩
      have pos : decide ((l : Int) > 0) = true := decide_eq_true (by omega)
      rw [pos]
      refine iteT ?_
      refine ⟨_, rfl, p, _, 2, _, rfl, rfl, SqT.of ha1, atI_nat rfl, _, rfl, b, l, u, rfl, ⟨us, hb1, hu.keep (sTups e1)⟩, by omega, hl, m3, m2, fun H2 e2 => ?_⟩
      exact q _ (e1.trans e2)

theorem ok_is_text_of {n : Nat} {f f1 f2 : Addr} {fd fd1 fd2 : FuncData} (F : Fun K "is_text_of" "is_text_of" sIsTextOf f fd) (T : Txt K mg) (D1 : Df K mg "is_plain" sIsPlain ["thing"] f1 fd1) (G1 : FnOk P w K mg base CX0 1 f1 fd1 ["thing"] spIsPlain)
    (D2 : Df K mg "is_part" sIsPart ["thing", "levels"] f2 fd2) (G2 : FnOk P w K mg base CX0 (2 * n + 2) f2 fd2 ["thing", "levels"] (spPart n)) : FnOk P w K mg base CX0 (2 * n + 3) f fd ["thing", "levels"] (spTextOf (n + 1)) := by
  refine F.ok scIsTextOf (fun vs H Q E h => ?_) (fun cdv A outer s H vs Q E hr h => ?_)
  · obtain ⟨p, l, t, rfl, _⟩ := h
    rfl
  have nd := scIsTextOf.nd
  refine ⟨_, pss_cons (ps_if (PW.pt (pw_or (pt_not (pt_val (isU T.b_isinstance T.b_tuple (pv 0))))
      (pw_or1 (pt_cmpR op_gt (lenQ T.b_len (pv 0)) (gI T.c_MOST_PIECES) (nomark _)))))
      (pss_one (ps_ret pe_bl)) pss_nil)
    (pss_cons (ps_for PassesOwn.never rfl (pi_enumT rfl T.b_enumerate (pa_cons (pv 0) pa_nil)) (pg_tup rfl (pgs_cons (pg_name (i := 2) nd rfl (Or.inl rfl)) (pgs_cons (pg_name (i := 3) nd rfl (Or.inl rfl)) pgs_nil)))
      (pss_cons (ps_if (PW.pt (pw_and (pt_not (pt_val (cal D1 G1 (hr.mono (by omega)) (pa_cons (pv 3) pa_nil))))
          (pw_and1 (pt_not (pt_val (cal D2 G2 hr (pa_cons (pv 3) (pa_cons (pe_op op_sub (pv 1) pe_int) pa_nil))))))))
        (pss_one (ps_ret pe_bl)) pss_nil)
      (pss_one (ps_if (PW.pt (pw_and (pt_cmpR op_gt (pv 2) pe_int (nomark _)) (pw_and (pt_val (isS T.b_isinstance T.b_str (pv 3))) (pw_and1 (pt_val (isS T.b_isinstance T.b_str (pe_ix ix_tup (pv 0) (pe_op op_sub (pv 2) pe_int) (fun _ _ => rfl))))))))
        (pss_one (ps_ret pe_bl)) pss_nil))))
    (pss_one (ps_ret pe_bl))), ?_⟩
  obtain ⟨p, l, t, rfl, ⟨ws, hp, ht⟩, l1, ln, g, l8, q⟩ := h
  have hlen := ht.len
  refine ⟨_, rfl, rfl, .inr ⟨p, ws, rfl, hp, _, rfl, iteF ?_⟩⟩
  refine ⟨_, rfl, ws, .inr (SqT.of hp), _, _, rfl, rfl, _, rfl, ?_⟩
  have e8 : decide ((ws.length : Int) > 8) = false := decide_eq_false (by omega)
  rw [e8]
  refine iteF ?_
  refine ⟨_, rfl, p, ws, rfl, SqT.of hp, for_it walk_G (fun i σ H' => Same H H' ∧ ∃ x y, σ = [some (.ref p), some (.int l), x, y]) ⟨Same.refl H, none, none, rfl⟩ ?_ ?_ ?_⟩
  · rintro i σ H' _ ⟨e, _⟩
    exact SqT.of (e _ _ hp)
  · rintro i v σ H1 H2 hi ⟨e1, x, y, rfl⟩ ⟨tp, z, rfl, fresh, rfl, hz⟩
    have e2 : Same H (upd H1 tp (.tup [.int (i : Nat), z])) := e1.trans (sNew fresh _)
    refine ⟨tp, _, rfl, SqT.of upd_same, rfl, _, _, rfl, _, _, rfl, rfl, ?_⟩
    obtain ⟨pc, h1, h2, h3⟩ := ht.at hz
    have ok := Er.T.ok_pcs t l false g pc h2
    cases pc with
    | pl s0 =>
      obtain rfl : z = .str s0 := h3
      refine ⟨_, rfl, .inl ⟨s0, rfl, ok, fun H3 e3 => ⟨_, rfl, iteF ?_⟩⟩⟩
      have e4 := e2.trans e3
      refine ⟨_, rfl, _, _, rfl, rfl, _, rfl, ?_⟩
      refine ite2 (fun c => ?_) (fun c => ?_)
      · have c' : (i : Int) > 0 := of_decide_eq_true c
        obtain ⟨j, rfl⟩ : ∃ j, i = j + 1 := ⟨i - 1, by omega⟩
        have jl : j < ws.length := by omega
        obtain ⟨pc', k1, k2, k3⟩ := ht.at (List.getElem?_eq_getElem jl)
        have no := Er.T.adj_pcs t l false g j
        cases pc' with
        | pl s1 => exact absurd h1 (no s1 s0 k1)
        | pt n1 s1 u1 =>
          obtain ⟨a1, b1, ea, ha, _⟩ := k3
          refine ⟨_, rfl, rfl, .inl ⟨s0, rfl, _, rfl, iteT ?_⟩⟩
          refine ⟨_, rfl, _, rfl, _, _, rfl, rfl, p, ws, ((j : Nat) : Int), V.ref a1, rfl, ?_, SqT.of (e4 _ _ hp), atI_nat (by rw [← ea]; exact List.getElem?_eq_getElem jl), rfl, .inr ⟨a1, _, rfl, e4 _ _ ha, _, rfl, iteF ?_⟩⟩
          · show V.int (((j + 1 : Nat) : Int) - 1) = V.int ((j : Nat) : Int)
            exact congrArg V.int (by omega)
          · exact ⟨e4, _, _, rfl⟩
      · exact ⟨e4, _, _, rfl⟩
    | pt n0 s0 u =>
      have h3' := h3
      obtain ⟨a, b, rfl, ha, hb⟩ := h3
      refine ⟨_, rfl, .inr ⟨a, _, rfl, e2 _ _ ha, _, rfl, iteT ?_⟩⟩
      obtain ⟨m, rfl⟩ : ∃ m, l = m + 1 := ⟨l - 1, by omega⟩
      have el : ((m + 1 : Nat) : Int) - 1 = ((m : Nat) : Int) := by omega
      refine ⟨_, rfl, _, rfl, _, _, rfl, rfl, a, m, .pt n0 s0 u, ?_, ⟨a, b, rfl, e2 _ _ ha, hb.keep (sTups e2)⟩, by omega, ok, fun H3 e3 => ⟨_, rfl, iteF ?_⟩⟩
      · show [V.ref a, V.int (((m + 1 : Nat) : Int) - 1)] = [V.ref a, V.int ((m : Nat) : Int)]
        rw [el]
      have e4 := e2.trans e3
      refine ⟨_, rfl, _, _, rfl, rfl, _, rfl, ?_⟩
      refine ite2 (fun c => ?_) (fun c => ?_)
      · refine ⟨_, rfl, rfl, .inr ⟨a, _, rfl, e4 _ _ ha, _, rfl, iteF ?_⟩⟩
        exact ⟨e4, _, _, rfl⟩
      · exact ⟨e4, _, _, rfl⟩
  · rintro σ H' ⟨e, _⟩
    exact q _ e
theorem none_textOf {k : Nat} {f : Addr} {fd : FuncData} : FnOk P w K mg base CX0 k f fd ["thing", "levels"] (spTextOf 0) := by
  have no : ∀ vs H Q E, ¬ spTextOf 0 vs H Q E := fun vs H Q E ⟨_, l, _, _, _, l1, l2, _⟩ => by omega
  exact ⟨fun vs H Q E h => absurd h (no vs H Q E), fun A outer s H args us vs Q E _ _ _ _ h => absurd h (no vs H Q E)⟩
theorem all_textOf {f1 f2 f3 f4 : Addr} {fd1 fd2 fd3 fd4 : FuncData} (T : Txt K mg) (D1 : Df K mg "is_name" sIsName ["thing"] f1 fd1) (D2 : Df K mg "is_plain" sIsPlain ["thing"] f2 fd2) (D3 : Df K mg "is_part" sIsPart ["thing", "levels"] f3 fd3)
    (D4 : Df K mg "is_text_of" sIsTextOf ["thing", "levels"] f4 fd4) : ∀ n : Nat, FnOk P w K mg base CX0 (2 * n + 1) f4 fd4 ["thing", "levels"] (spTextOf n)
  | 0 => none_textOf
  | n + 1 => ok_is_text_of D4.F T D2 (ok_is_plain D2.F T) D3 (ok_is_part D3.F T D1 (ok_is_name D1.F T) D4 (all_textOf T D1 D2 D3 D4 n))

/-! ### is_text -/
abbrev sIsText : Stmt := topS 23
theorem scIsText : FnScope ["thing"] ["thing"] (defScope sIsText) := ⟨rfl, rfl, rfl, by decide +kernel, rfl, by decide +kernel, by decide +kernel⟩
def spIsText : Sp := fun vs H Q _ => ∃ (p : Addr) (t : T), vs = [.ref p] ∧ TAt H p t ∧ okT t ∧ ∀ H', Same H H' → Q (.bl true) H'
theorem ok_is_text {f f1 : Addr} {fd fd1 : FuncData} (F : Fun K "is_text" "is_text" sIsText f fd) (T : Txt K mg) (D1 : Df K mg "is_text_of" sIsTextOf ["thing", "levels"] f1 fd1) (G1 : FnOk P w K mg base CX0 9 f1 fd1 ["thing", "levels"] (spTextOf 4)) :
    FnOk P w K mg base CX0 10 f fd ["thing"] spIsText := by
  refine F.ok scIsText (fun vs H Q E h => ?_) (fun cdv A outer s H vs Q E hr h => ?_)
  · obtain ⟨p, t, rfl, _⟩ := h
    rfl
  refine ⟨_, pss_one (ps_ret (cal D1 G1 hr (pa_cons (pv 0) (pa_cons (gI T.c_MOST_LEVELS) pa_nil)))), ?_⟩
  obtain ⟨p, t, rfl, ht, ok, q⟩ := h
  exact ⟨_, rfl, p, 4, t, rfl, ht, by decide, by decide, ok.1, ok.2.1, q⟩
end
end Er
namespace Er
open PySem L2 TL
section
variable {P : Program} {w : World} {K : PySem.W.Frag} {mg : Str → Option Value} {base : Heap}
theorem str_ne {a b : Str} (h : a ≠ b) : decide (V.str a = V.str b) = false := decide_eq_false fun e => h (V.str.inj e)
theorem n_drop_set : ("drop" : Str) ≠ "set" := by decide +kernel
theorem n_give_set : ("give" : Str) ≠ "set" := by decide +kernel
theorem n_drop_give : ("drop" : Str) ≠ "give" := by decide +kernel
theorem n_check_set : ("check" : Str) ≠ "set" := by decide +kernel
theorem n_check_give : ("check" : Str) ≠ "give" := by decide +kernel
theorem n_check_drop : ("check" : Str) ≠ "drop" := by decide +kernel
theorem n_set_drop : ("set" : Str) ≠ "drop" := by decide +kernel
theorem n_give_drop : ("give" : Str) ≠ "drop" := by decide +kernel
theorem n_set_check : ("set" : Str) ≠ "check" := by decide +kernel
theorem n_give_check : ("give" : Str) ≠ "check" := by decide +kernel
theorem n_drop_check : ("drop" : Str) ≠ "check" := by decide +kernel
theorem k_set : inV (.str "set") [V.str "set", V.str "give"] = true := by decide +kernel
theorem k_give : inV (.str "give") [V.str "set", V.str "give"] = true := by decide +kernel
theorem k_drop : inV (.str "drop") [V.str "set", V.str "give"] = false := by decide +kernel
theorem k_check : inV (.str "check") [V.str "set", V.str "give"] = false := by decide +kernel
/-! ### is_row -/
abbrev sIsRow : Stmt := topS 24
theorem scIsRow : FnScope ["thing"] ["thing"] (defScope sIsRow) := ⟨rfl, rfl, rfl, by decide +kernel, rfl, by decide +kernel, by decide +kernel⟩
def spIsRow : Sp := fun vs H Q _ => ∃ (v : V) (r : Rw), vs = [v] ∧ RIs H r v ∧ r.ok ∧ ∀ H', Same H H' → Q (.bl true) H'
theorem ok_is_row {f f1 f2 : Addr} {fd fd1 fd2 : FuncData} (F : Fun K "is_row" "is_row" sIsRow f fd) (T : Txt K mg) (D1 : Df K mg "is_name" sIsName ["thing"] f1 fd1) (G1 : FnOk P w K mg base CX0 1 f1 fd1 ["thing"] spIsName)
    (D2 : Df K mg "is_text" sIsText ["thing"] f2 fd2) (G2 : FnOk P w K mg base CX0 10 f2 fd2 ["thing"] spIsText) : FnOk P w K mg base CX0 11 f fd ["thing"] spIsRow := by
  refine F.ok scIsRow (fun vs H Q E h => ?_) (fun cdv A outer s H vs Q E hr h => ?_)
  · obtain ⟨v, r, rfl, _⟩ := h
    rfl
  have hr1 : Room 1 _ := hr.mono (by decide)
  refine ⟨_, pss_cons (ps_if (PW.pt (pw_or (pt_not (pt_val (isU T.b_isinstance T.b_tuple (pv 0))))
      (pw_or (pt_cmpR op_eq (lenQ T.b_len (pv 0)) pe_int (nomark _)) (pw_or1 (pt_not (pt_val (isS T.b_isinstance T.b_str (pe_ix ix_tup (pv 0) pe_int (fun _ _ => rfl)))))))))
      (pss_one (ps_ret pe_bl)) pss_nil)
    (pss_cons (ps_if (pt_cmpR op_in_seq (pe_ix ix_tup (pv 0) pe_int (fun _ _ => rfl)) (pe_tup (pa_cons (gS T.c_SET) (pa_cons (gS T.c_GIVE) pa_nil))) rfl)
      (pss_one (ps_ret (pe_and (pe_cmpR op_eq (lenQ T.b_len (pv 0)) pe_int (nomark _)) (pe_and (cal D1 G1 hr1 (pa_cons (pe_ix ix_tup (pv 0) pe_int (fun _ _ => rfl)) pa_nil)) (pe_one (cal D2 G2 hr (pa_cons (pe_ix ix_tup (pv 0) pe_int (fun _ _ => rfl)) pa_nil))))))) pss_nil)
    (pss_cons (ps_if (pt_cmpR op_eq (pe_ix ix_tup (pv 0) pe_int (fun _ _ => rfl)) (gS T.c_DROP) (nomark _))
      (pss_one (ps_ret (pe_and (pe_cmpR op_eq (lenQ T.b_len (pv 0)) pe_int (nomark _)) (pe_one (cal D1 G1 hr1 (pa_cons (pe_ix ix_tup (pv 0) pe_int (fun _ _ => rfl)) pa_nil)))))) pss_nil)
    (pss_one (ps_ret (pe_and (pe_cmpR op_eq (pe_ix ix_tup (pv 0) pe_int (fun _ _ => rfl)) (gS T.c_CHECK) (nomark _))
      (pe_and (pe_cmpR op_eq (lenQ T.b_len (pv 0)) pe_int (nomark _)) (pe_one (cal D2 G2 hr (pa_cons (pe_ix ix_tup (pv 0) pe_int (fun _ _ => rfl)) pa_nil))))))))), ?_⟩
  obtain ⟨v, r, rfl, hv, ok, q⟩ := h
  have two : (2 : Nat) ≤ sizeLine := by decide
  cases r with
  | set n t =>
    obtain ⟨a, b, rfl, ha, hb⟩ := hv
    refine ⟨_, rfl, rfl, .inr ⟨a, _, rfl, ha, _, rfl, iteF ?_⟩⟩
    refine ⟨_, rfl, _, .inr (SqT.of ha), rfl, _, rfl, iteF ?_⟩
    refine ⟨_, rfl, a, _, 0, _, rfl, rfl, SqT.of ha, atI_nat rfl, rfl, .inl ⟨_, rfl, _, rfl, iteF ?_⟩⟩
    refine ⟨_, rfl, a, _, 0, _, rfl, rfl, SqT.of ha, atI_nat rfl, two, fun p1 hp1 => ⟨p1, _, rfl, .inr (SqT.of upd_same), rfl, rfl, _, rfl, ?_⟩⟩
    have e1 := sNew hp1 (.tup [V.str "set", V.str "give"])
    have ha1 := e1 _ _ ha
    rw [k_set]
    refine iteT ?_
    refine ⟨_, rfl, _, .inr (SqT.of ha1), rfl, _, rfl, iteT ?_⟩
    refine ⟨_, rfl, a, _, 1, _, rfl, rfl, SqT.of ha1, atI_nat rfl, n, rfl, ok.1, fun H2 e2 => ⟨_, rfl, iteT ?_⟩⟩
    have e3 := e1.trans e2
    refine ⟨_, rfl, a, _, 2, _, rfl, rfl, SqT.of (e3 _ _ ha), atI_nat rfl, b, t, rfl, hb.keep (sTups e3), ok.2, fun H3 e4 => q _ (e3.trans e4)⟩
  | give n t =>
    obtain ⟨a, b, rfl, ha, hb⟩ := hv
    refine ⟨_, rfl, rfl, .inr ⟨a, _, rfl, ha, _, rfl, iteF ?_⟩⟩
    refine ⟨_, rfl, _, .inr (SqT.of ha), rfl, _, rfl, iteF ?_⟩
    refine ⟨_, rfl, a, _, 0, _, rfl, rfl, SqT.of ha, atI_nat rfl, rfl, .inl ⟨_, rfl, _, rfl, iteF ?_⟩⟩
    refine ⟨_, rfl, a, _, 0, _, rfl, rfl, SqT.of ha, atI_nat rfl, two, fun p1 hp1 => ⟨p1, _, rfl, .inr (SqT.of upd_same), rfl, rfl, _, rfl, ?_⟩⟩
    have e1 := sNew hp1 (.tup [V.str "set", V.str "give"])
    have ha1 := e1 _ _ ha
    rw [k_give]
    refine iteT ?_
    refine ⟨_, rfl, _, .inr (SqT.of ha1), rfl, _, rfl, iteT ?_⟩
    refine ⟨_, rfl, a, _, 1, _, rfl, rfl, SqT.of ha1, atI_nat rfl, n, rfl, ok.1, fun H2 e2 => ⟨_, rfl, iteT ?_⟩⟩
    have e3 := e1.trans e2
    refine ⟨_, rfl, a, _, 2, _, rfl, rfl, SqT.of (e3 _ _ ha), atI_nat rfl, b, t, rfl, hb.keep (sTups e3), ok.2, fun H3 e4 => q _ (e3.trans e4)⟩
  | drop n =>
    obtain ⟨a, rfl, ha⟩ := hv
    refine ⟨_, rfl, rfl, .inr ⟨a, _, rfl, ha, _, rfl, iteF ?_⟩⟩
    refine ⟨_, rfl, _, .inr (SqT.of ha), rfl, _, rfl, iteF ?_⟩
    refine ⟨_, rfl, a, _, 0, _, rfl, rfl, SqT.of ha, atI_nat rfl, rfl, .inl ⟨_, rfl, _, rfl, iteF ?_⟩⟩
    refine ⟨_, rfl, a, _, 0, _, rfl, rfl, SqT.of ha, atI_nat rfl, two, fun p1 hp1 => ⟨p1, _, rfl, .inr (SqT.of upd_same), rfl, rfl, _, rfl, ?_⟩⟩
    have e1 := sNew hp1 (.tup [V.str "set", V.str "give"])
    have ha1 := e1 _ _ ha
    rw [k_drop]
    refine iteF ?_
    refine ⟨_, rfl, a, _, 0, _, rfl, rfl, SqT.of ha1, atI_nat rfl, rfl, _, rfl, ?_⟩
    rw [decide_eq_true (rfl : V.str "drop" = V.str "drop")]
    refine iteT ?_
    refine ⟨_, rfl, _, .inr (SqT.of ha1), rfl, _, rfl, iteT ?_⟩
    exact ⟨_, rfl, a, _, 1, _, rfl, rfl, SqT.of ha1, atI_nat rfl, n, rfl, ok, fun H2 e2 => q _ (e1.trans e2)⟩
  | chk t =>
    obtain ⟨a, b, rfl, ha, hb⟩ := hv
    refine ⟨_, rfl, rfl, .inr ⟨a, _, rfl, ha, _, rfl, iteF ?_⟩⟩
    refine ⟨_, rfl, _, .inr (SqT.of ha), rfl, _, rfl, iteF ?_⟩
    refine ⟨_, rfl, a, _, 0, _, rfl, rfl, SqT.of ha, atI_nat rfl, rfl, .inl ⟨_, rfl, _, rfl, iteF ?_⟩⟩
    refine ⟨_, rfl, a, _, 0, _, rfl, rfl, SqT.of ha, atI_nat rfl, two, fun p1 hp1 => ⟨p1, _, rfl, .inr (SqT.of upd_same), rfl, rfl, _, rfl, ?_⟩⟩
    have e1 := sNew hp1 (.tup [V.str "set", V.str "give"])
    have ha1 := e1 _ _ ha
    rw [k_check]
    refine iteF ?_
    refine ⟨_, rfl, a, _, 0, _, rfl, rfl, SqT.of ha1, atI_nat rfl, rfl, _, rfl, ?_⟩
    rw [str_ne n_check_drop]
    refine iteF ?_
    refine ⟨_, rfl, a, _, 0, _, rfl, rfl, SqT.of ha1, atI_nat rfl, rfl, _, rfl, ?_⟩
    rw [decide_eq_true (rfl : V.str "check" = V.str "check")]
    refine iteT ?_
    refine ⟨_, rfl, _, .inr (SqT.of ha1), rfl, _, rfl, iteT ?_⟩
    exact ⟨_, rfl, a, _, 1, _, rfl, rfl, SqT.of ha1, atI_nat rfl, b, t, rfl, hb.keep (sTups e1), ok, fun H3 e4 => q _ (e1.trans e4)⟩

/-! ### text_of_row -/
abbrev sTextOfRow : Stmt := topS 25
theorem scTextOfRow : FnScope ["row"] ["row"] (defScope sTextOfRow) := ⟨rfl, rfl, rfl, by decide +kernel, rfl, by decide +kernel, by decide +kernel⟩
/-- the text of a row, none for a drop -/
def Rw.text : Rw → T
  | .set _ t => t
  | .give _ t => t
  | .drop _ => T.nil
  | .chk t => t
def spTextOfRow : Sp := fun vs H Q _ => ∃ (v : V) (r : Rw), vs = [v] ∧ RIs H r v ∧ ∀ p H', Same H H' → TAt H' p r.text → Q (.ref p) H'
theorem ok_text_of_row {f : Addr} {fd : FuncData} (F : Fun K "text_of_row" "text_of_row" sTextOfRow f fd) (T : Txt K mg) : FnOk P w K mg base CX0 1 f fd ["row"] spTextOfRow := by
  refine F.ok scTextOfRow (fun vs H Q E h => ?_) (fun cdv A outer s H vs Q E hr h => ?_)
  · obtain ⟨v, r, rfl, _⟩ := h
    rfl
  refine ⟨_, pss_one (ps_ret (pe_ifExp (pt_cmpR op_eq (pe_ix ix_tup (pv 0) pe_int (fun _ _ => rfl)) (gS T.c_DROP) (nomark _)) (pe_tup pa_nil) (pe_ix ix_tup (pv 0) (pe_un un_neg pe_int) (fun _ _ => rfl)))), ?_⟩
  obtain ⟨v, r, rfl, hv, q⟩ := h
  cases r with
  | set n t =>
    obtain ⟨a, b, rfl, ha, hb⟩ := hv
    refine ⟨_, rfl, a, _, 0, _, rfl, rfl, SqT.of ha, atI_nat rfl, rfl, _, rfl, ?_⟩
    rw [str_ne n_set_drop]
    exact iteF ⟨_, rfl, _, rfl, a, _, _, V.ref b, rfl, rfl, SqT.of ha, rfl, q b H (Same.refl H) hb⟩
  | give n t =>
    obtain ⟨a, b, rfl, ha, hb⟩ := hv
    refine ⟨_, rfl, a, _, 0, _, rfl, rfl, SqT.of ha, atI_nat rfl, rfl, _, rfl, ?_⟩
    rw [str_ne n_give_drop]
    exact iteF ⟨_, rfl, _, rfl, a, _, _, V.ref b, rfl, rfl, SqT.of ha, rfl, q b H (Same.refl H) hb⟩
  | drop n =>
    obtain ⟨a, rfl, ha⟩ := hv
    refine ⟨_, rfl, a, _, 0, _, rfl, rfl, SqT.of ha, atI_nat rfl, rfl, _, rfl, ?_⟩
    rw [decide_eq_true (rfl : V.str "drop" = V.str "drop")]
    exact iteT ⟨Nat.zero_le _, fun p hp => q p _ (sNew hp _) ⟨[], upd_same, rfl⟩⟩
  | chk t =>
    obtain ⟨a, b, rfl, ha, hb⟩ := hv
    refine ⟨_, rfl, a, _, 0, _, rfl, rfl, SqT.of ha, atI_nat rfl, rfl, _, rfl, ?_⟩
    rw [str_ne n_check_drop]
    exact iteF ⟨_, rfl, _, rfl, a, _, _, V.ref b, rfl, rfl, SqT.of ha, rfl, q b H (Same.refl H) hb⟩

/-! ### names_in_text -/
abbrev sNamesInText : Stmt := topS 26
theorem scNamesInText : FnScope ["text", "found", "piece"] ["text"] (defScope sNamesInText) := ⟨rfl, rfl, rfl, by decide +kernel, rfl, by decide +kernel, by decide +kernel⟩
def spNamesInText (n : Nat) : Sp := fun vs H Q _ => ∃ (p : Addr) (t : T), vs = [.ref p] ∧ TAt H p t ∧ t.dp ≤ n ∧ t.wS ≤ 100000 ∧ ∀ l H', Same H H' → H l = none → H' l = some (.lst (t.names.map V.str)) → Q (.ref l) H'
theorem ok_names_in_text {n : Nat} {f f1 : Addr} {fd fd1 : FuncData} (F : Fun K "names_in_text" "names_in_text" sNamesInText f fd) (T : Txt K mg) (D1 : Df K mg "names_in_text" sNamesInText ["text"] f1 fd1)
    (G1 : FnOk P w K mg base CX0 n f1 fd1 ["text"] (spNamesInText n)) : FnOk P w K mg base CX0 (n + 1) f fd ["text"] (spNamesInText (n + 1)) := by
  refine F.ok scNamesInText (fun vs H Q E h => ?_) (fun cdv A outer s H vs Q E hr h => ?_)
  · obtain ⟨v, t, rfl, _⟩ := h
    rfl
  have nd := scNamesInText.nd
  refine ⟨_, pss_cons (ps_set (i := 1) nd rfl (Or.inl rfl) (pe_lst pa_nil))
    (pss_cons (ps_for PassesOwn.never rfl (pi_tup (pv 0)) (pg_name (i := 2) nd rfl (Or.inl rfl))
      (pss_one (ps_if (pt_val (isU T.b_isinstance T.b_tuple (pv 2)))
        (pss_cons (ps_expr (pe_bm PySem.F.plainAttrs_list PySem.F.slot_list_append PySem.F.type_list_append mt_append (pv 1) (pa_cons (pe_ix ix_tup (pv 2) pe_int (fun _ _ => rfl)) pa_nil)))
          (pss_one (ps_expr (pe_bm PySem.F.plainAttrs_list PySem.F.slot_list_extend PySem.F.type_list_extend mt_extend (pv 1) (pa_cons (cal D1 G1 hr (pa_cons (pe_ix ix_tup (pv 2) pe_int (fun _ _ => rfl)) pa_nil)) pa_nil)))))
        pss_nil)))
    (pss_one (ps_ret (pv 1)))), ?_⟩
  obtain ⟨p, t, rfl, ⟨ws, hp, ht⟩, hd, hw, q⟩ := h
  have hlen := ht.len
  have small : ∀ i, ((t.pcs.take i).map Pc.names).flatten.length ≤ 100000 := fun i => by
    have e : t.names = ((t.pcs.take i).map Pc.names).flatten ++ ((t.pcs.drop i).map Pc.names).flatten := by
      rw [Er.T.names_pcs, ← List.flatten_append, ← List.map_append, List.take_append_drop]
    have h1 := Er.T.names_wS t
    have h2 := congrArg List.length e
    rw [List.length_append] at h2
    omega
  refine ⟨Nat.zero_le _, fun l hl => ?_⟩
  refine ⟨_, rfl, p, rfl, ⟨ws, SqT.of ((sNew hl _) _ _ hp)⟩, for_tup (xs := ws) (fun i σ H' => Same H H' ∧ H' l = some (.lst (((t.pcs.take i).map Pc.names).flatten.map V.str)) ∧ ∃ x, σ = [some (.ref p), some (.ref l), x]) ⟨sNew hl _, upd_same, none, rfl⟩ ?_ ?_ ?_⟩
  · rintro i σ H' _ ⟨e, _⟩
    exact SqT.of (e _ _ hp)
  · rintro i x σ H1 hx ⟨e1, h1, y, rfl⟩
    obtain ⟨pc, k1, k2, k3⟩ := ht.at hx
    have step := flat_take Pc.names k1
    refine ⟨_, rfl, rfl, ?_⟩
    cases pc with
    | pl s0 =>
      obtain rfl : x = .str s0 := k3
      refine .inl ⟨s0, rfl, _, rfl, iteF ⟨e1, ?_, _, rfl⟩⟩
      rw [step]
      show H1 l = some (.lst ((((t.pcs.take i).map Pc.names).flatten ++ []).map V.str))
      rw [List.append_nil]
      exact h1
    | pt n0 s0 u =>
      obtain ⟨a, b, rfl, ha, us, hb, hu⟩ := k3
      refine .inr ⟨a, _, rfl, e1 _ _ ha, _, rfl, iteT ?_⟩
      refine ⟨_, rfl, .inl ⟨rfl, _, SqL.of h1⟩, _, rfl, a, _, 0, _, rfl, rfl, SqT.of (e1 _ _ ha), atI_nat rfl, l, _, _, rfl, rfl, h1, ?_, ?_⟩
      · have := small i
        rw [List.length_map]
        exact Nat.lt_of_le_of_lt this (by decide)
      have e2 := sPut e1 hl (.lst (((t.pcs.take i).map Pc.names).flatten.map V.str ++ [V.str n0]))
      have dpu := Er.T.dp_pcs t _ k2
      have wsu := Er.T.wS_pcs t _ k2
      refine ⟨_, rfl, .inl ⟨rfl, _, SqL.of upd_same⟩, _, rfl, a, _, 2, _, rfl, rfl, SqT.of (e2 _ _ ha), atI_nat rfl, b, u, rfl, ⟨us, e2 _ _ hb, hu.keep (sTups e2)⟩, ?_, ?_, fun l2 H2 e3 new h2 => ?_⟩
      · have : u.dp + 1 ≤ t.dp := dpu
        omega
      · have : u.wS ≤ t.wS := wsu
        omega
      refine ⟨l, l2, _, _, rfl, rfl, e3 _ _ upd_same, h2, ?_, ?_⟩
      · have s2 := small (i + 1)
        rw [step] at s2
        have e : (Pc.pt n0 s0 u).names = n0 :: u.names := rfl
        rw [e, List.length_append, List.length_cons] at s2
        rw [List.length_append, List.length_map, List.length_map, List.length_singleton]
        exact Nat.le_trans (by omega) (show 100000 ≤ sizeLine by decide)
      · refine ⟨sPut (e2.trans e3) hl _, ?_, _, rfl⟩
        rw [upd_same, step]
        have e : (Pc.pt n0 s0 u).names = n0 :: u.names := rfl
        rw [e, List.map_append, List.map_cons, List.append_assoc]
        rfl
  · rintro σ H1 ⟨e1, h1, y, rfl⟩
    refine ⟨_, rfl, q l H1 e1 hl ?_⟩
    rw [h1, Er.T.names_pcs, hlen, ← Er.T.len_pcs, List.take_length]
theorem none_names {k : Nat} {f : Addr} {fd : FuncData} : FnOk P w K mg base CX0 k f fd ["text"] (spNamesInText 0) := by
  have no : ∀ vs H Q E, ¬ spNamesInText 0 vs H Q E := fun vs H Q E ⟨_, t, _, _, d, _⟩ => by
    have := Er.T.dp_pos t
    omega
  exact ⟨fun vs H Q E h => absurd h (no vs H Q E), fun A outer s H args us vs Q E _ _ _ _ h => absurd h (no vs H Q E)⟩
theorem all_names_in_text {f : Addr} {fd : FuncData} (T : Txt K mg) (D : Df K mg "names_in_text" sNamesInText ["text"] f fd) : ∀ n : Nat, FnOk P w K mg base CX0 n f fd ["text"] (spNamesInText n)
  | 0 => none_names
  | n + 1 => ok_names_in_text D.F T D (all_names_in_text T D n)
end
end Er
namespace Er
open PySem L2 TL
section
variable {P : Program} {w : World} {K : PySem.W.Frag} {mg : Str → Option Value} {base : Heap}
theorem FIs.at {H : Hp} {rs : List Rw} {xs : List V} (h : FIs H rs xs) : ∀ {i : Nat} {x : V}, xs[i]? = some x → ∃ r, rs[i]? = some r ∧ r ∈ rs ∧ RIs H r x := by
  induction h with
  | nil =>
    intro i x e
    cases e
  | @cons r v rs xs k t ih =>
    intro i x e
    cases i with
    | zero => exact ⟨r, rfl, List.mem_cons_self, by
        rw [← Option.some.inj (show some v = some x from e)]
        exact k⟩
    | succ i =>
      obtain ⟨r', h1, h2, h3⟩ := ih (i := i) (x := x) e
      exact ⟨r', h1, List.mem_cons_of_mem _ h2, h3⟩
theorem FIs.len {H : Hp} {rs : List Rw} {xs : List V} (h : FIs H rs xs) : xs.length = rs.length := (Paired.length h).symm
/-- a good file: its rows good, few, of few names -/
structure okF (rs : List Rw) : Prop where
  few : rs.length ≤ 40
  ok : ∀ r ∈ rs, r.ok
  nms : ∃ L : List Str, L.length ≤ 12 ∧ ∀ r ∈ rs, ∀ n ∈ r.names, n ∈ L
theorem Rw.text_ok {r : Rw} (h : r.ok) : r.text.wS ≤ 100000 ∧ r.text.dp ≤ 5 := by
  have tt : ∀ t, okT t → t.wS ≤ 100000 ∧ t.dp ≤ 5 := fun t k => ⟨k.2.2, Er.T.gd_dp t 4 false (by decide) k.1⟩
  cases r with
  | set n t => exact tt t h.2
  | give n t => exact tt t h.2
  | drop n => exact ⟨Nat.zero_le _, show 1 ≤ 5 by decide⟩
  | chk t => exact tt t h
/-- the name at a row's head -/
def Rw.heads : Rw → List Str
  | .set n _ => [n]
  | .give n _ => [n]
  | .drop n => [n]
  | .chk _ => []
theorem Rw.names_eq (r : Rw) : ∀ n, n ∈ r.names ↔ n ∈ r.heads ∨ n ∈ r.text.names := by
  intro n
  cases r with
  | set m t => exact List.mem_cons.trans (or_congr List.mem_singleton.symm Iff.rfl)
  | give m t => exact List.mem_cons.trans (or_congr List.mem_singleton.symm Iff.rfl)
  | drop m => exact ⟨.inl, fun h => h.elim id fun z => nomatch z⟩
  | chk t => exact ⟨.inr, fun h => h.elim (fun z => nomatch z) id⟩

theorem ixTK {X : Cx} {K : PySem.W.Frag} (h : X.K = K := by rfl) : IxR X (rIxT K) := h ▸ ix_tup
/-! ### names_in -/
abbrev sNamesIn : Stmt := topS 27
theorem scNamesIn : FnScope ["rows", "row", "found"] ["rows"] (defScope sNamesIn) := ⟨rfl, rfl, rfl, by decide +kernel, rfl, by decide +kernel, by decide +kernel⟩
def spNamesIn : Sp := fun vs H Q _ => ∃ (p : Addr) (rs : List Rw), vs = [.ref p] ∧ FAt H p rs ∧ okF rs ∧ ∀ l ys H', Same H H' → H' l = some (.lst ys) → ys.length ≤ 12 → Q (.ref l) H'
theorem ok_names_in {f f1 f2 : Addr} {fd fd1 fd2 : FuncData} (F : Fun K "names_in" "names_in" sNamesIn f fd) (T : Txt K mg) (D1 : Df K mg "text_of_row" sTextOfRow ["row"] f1 fd1) (G1 : FnOk P w K mg base CX0 1 f1 fd1 ["row"] spTextOfRow)
    (D2 : Df K mg "names_in_text" sNamesInText ["text"] f2 fd2) (G2 : FnOk P w K mg base CX0 5 f2 fd2 ["text"] (spNamesInText 5)) : FnOk P w K mg base CX0 6 f fd ["rows"] spNamesIn := by
  refine F.ok scNamesIn (fun vs H Q E h => ?_) (fun cdv A outer s H vs Q E hr h => ?_)
  · obtain ⟨v, t, rfl, _⟩ := h
    rfl
  have nd := scNamesIn.nd
  refine ⟨_, pss_cons (ps_setLc (i := 2) (own := [("row", 1)]) (g := gName 1) (by rfl) nd rfl rfl (sw_true rfl rfl rfl (by decide +kernel)) (pi_tup (pv 0)) (blkOk_by (N := ["rows", "row", "found"]) (sc := defScope sNamesIn) (by decide +kernel))
      (fun _ _ _ _ _ => pg_name (i := 1) nd rfl (Or.inl rfl)) (fun _ _ _ _ _ => pts_one (pt_cmpR op_ne (pe_ix (ixTK (K := K)) (pv 1) pe_int (fun _ _ => rfl)) (gS T.c_CHECK) (nomark _))) (fun _ _ _ _ _ => pe_ix (ixTK (K := K)) (pv 1) pe_int (fun _ _ => rfl)))
    (pss_cons (ps_for PassesOwn.never rfl (pi_tup (pv 0)) (pg_name (i := 1) nd rfl (Or.inl rfl))
      (pss_one (ps_expr (pe_bm PySem.F.plainAttrs_list PySem.F.slot_list_extend PySem.F.type_list_extend mt_extend (pv 2) (pa_cons (cal D2 G2 hr (pa_cons (cal D1 G1 (hr.mono (by decide)) (pa_cons (pv 1) pa_nil)) pa_nil)) pa_nil)))))
    (pss_one (ps_ret (pe_callB (cr_sortT rfl) rfl T.b_sorted boot_sortB (pa_cons (pe_callTy (cr_setT rfl) rfl T.b_set boot_setT (pa_cons (pv 2) pa_nil)) pa_nil))))), ?_⟩
  obtain ⟨p, rs, rfl, ⟨ws, hp, ht⟩, ok, q⟩ := h
  have hlen := ht.len
  obtain ⟨L, hL, sub⟩ := ok.nms
  refine ⟨_, rfl, p, rfl, ⟨ws, SqT.of hp⟩, fun D hD => ?_⟩
  refine lc_tup (xs := ws) (fun i H' => Same H H' ∧ ∃ ys : List Str, H' D = some (.lst (ys.map V.str)) ∧ ys.length ≤ i ∧ ∀ y ∈ ys, y ∈ L) ⟨sNew hD _, [], upd_same, Nat.le_refl _, fun _ z => nomatch z⟩ (fun i H' _ z => SqT.of (z.1 _ _ hp)) ?_ ?_
  · rintro i x H1 hx ⟨e1, ys, h1, hy, hs⟩
    obtain ⟨r, k1, k2, k3⟩ := ht.at hx
    have names := sub r k2
    have grow : ∀ n, n ∈ r.heads → n ∈ L := fun n hn => names n ((r.names_eq n).mpr (.inl hn))
    have i40 : i < ws.length := (List.getElem?_eq_some_iff.mp hx).1
    have small : (ys.map V.str).length < sizeLine := by
      rw [List.length_map]
      exact Nat.lt_of_le_of_lt hy (Nat.lt_of_lt_of_le i40 (by rw [hlen]; exact Nat.le_trans ok.few (by decide)))
    have add : ∀ n, n ∈ L → ∃ ys' : List Str, (upd H1 D (.lst (ys.map V.str ++ [V.str n]))) D = some (.lst (ys'.map V.str)) ∧ ys'.length ≤ i + 1 ∧ ∀ y ∈ ys', y ∈ L := fun n hn => by
      refine ⟨ys ++ [n], ?_, ?_, fun y hy' => ?_⟩
      · rw [upd_same, List.map_append]
        rfl
      · rw [List.length_append, List.length_singleton]
        omega
      · rcases List.mem_append.mp hy' with z | z
        · exact hs y z
        · rw [List.mem_singleton.mp z]
          exact hn
    refine ⟨rfl, ?_⟩
    cases r with
    | set n t =>
      obtain ⟨a, b, rfl, ha, hb⟩ := k3
      refine ⟨_, rfl, a, _, 0, _, rfl, rfl, SqT.of (e1 _ _ ha), atI_nat rfl, rfl, _, rfl, ?_⟩
      rw [str_ne n_set_check]
      refine ⟨_, rfl, a, _, 1, _, rfl, rfl, SqT.of (e1 _ _ ha), atI_nat rfl, _, h1, small, sPut e1 hD _, add n (grow n List.mem_cons_self)⟩
    | give n t =>
      obtain ⟨a, b, rfl, ha, hb⟩ := k3
      refine ⟨_, rfl, a, _, 0, _, rfl, rfl, SqT.of (e1 _ _ ha), atI_nat rfl, rfl, _, rfl, ?_⟩
      rw [str_ne n_give_check]
      refine ⟨_, rfl, a, _, 1, _, rfl, rfl, SqT.of (e1 _ _ ha), atI_nat rfl, _, h1, small, sPut e1 hD _, add n (grow n List.mem_cons_self)⟩
    | drop n =>
      obtain ⟨a, rfl, ha⟩ := k3
      refine ⟨_, rfl, a, _, 0, _, rfl, rfl, SqT.of (e1 _ _ ha), atI_nat rfl, rfl, _, rfl, ?_⟩
      rw [str_ne n_drop_check]
      refine ⟨_, rfl, a, _, 1, _, rfl, rfl, SqT.of (e1 _ _ ha), atI_nat rfl, _, h1, small, sPut e1 hD _, add n (grow n List.mem_cons_self)⟩
    | chk t =>
      obtain ⟨a, b, rfl, ha, hb⟩ := k3
      refine ⟨_, rfl, a, _, 0, _, rfl, rfl, SqT.of (e1 _ _ ha), atI_nat rfl, rfl, _, rfl, ?_⟩
      rw [decide_eq_true (rfl : V.str "check" = V.str "check")]
      exact ⟨e1, ys, h1, Nat.le_succ_of_le hy, hs⟩
  · rintro H1 ⟨e1, ys0, h1, hy0, hs0⟩
    refine ⟨_, rfl, p, rfl, ⟨ws, SqT.of (e1 _ _ hp)⟩, for_tup (xs := ws) (fun i σ H' => Same H H' ∧ (∃ x, σ = [some (.ref p), x, some (.ref D)]) ∧ ∃ ys : List Str, H' D = some (.lst (ys.map V.str)) ∧ ys.length ≤ 40 + i * 100000 ∧ ∀ y ∈ ys, y ∈ L)
      ⟨e1, ⟨none, rfl⟩, ys0, h1, by have := ok.few; omega, hs0⟩ (fun i σ H' _ z => SqT.of (z.1 _ _ hp)) ?_ ?_⟩
    · rintro i x σ H2 hx ⟨e2, ⟨y, rfl⟩, ys, h2, hy, hs⟩
      obtain ⟨r, k1, k2, k3⟩ := ht.at hx
      have tx := Rw.text_ok (ok.ok r k2)
      have i40 : i < ws.length := (List.getElem?_eq_some_iff.mp hx).1
      have f40 := ok.few
      refine ⟨_, rfl, .inl ⟨rfl, _, SqL.of h2⟩, _, rfl, x, r, rfl, k3.keep (sTups e2), fun b H3 e3 hb => ⟨b, r.text, rfl, hb, tx.2, tx.1, fun l H4 e4 new h4 => ?_⟩⟩
      have e5 := e2.trans (e3.trans e4)
      have hD4 := e4 _ _ (e3 _ _ h2)
      have nl := Nat.le_trans (Er.T.names_wS r.text) tx.1
      refine ⟨D, l, _, _, rfl, rfl, hD4, h4, ?_, sPut e5 hD _, ⟨_, rfl⟩, ys ++ r.text.names, ?_, ?_, ?_⟩
      · rw [List.length_map, List.length_map]
        exact Nat.le_trans (by omega) (show 40 + 40 * 100000 + 100000 ≤ sizeLine by decide)
      · rw [upd_same, List.map_append]
      · rw [List.length_append]
        omega
      · intro z hz
        rcases List.mem_append.mp hz with hz | hz
        · exact hs z hz
        · exact sub r k2 z ((r.names_eq z).mpr (.inr hz))
    · rintro σ H2 ⟨e2, ⟨y, rfl⟩, ys, h2, hy, hs⟩
      refine ⟨_, rfl, D, ys, L, rfl, SqL.of h2, hL, hs, fun p1 hp1 => ⟨p1, L, rfl, upd_same, hL, fun zs p2 hz hp2 => ?_⟩⟩
      exact q p2 _ _ (e2.trans ((sNew hp1 _).trans (sNew hp2 _))) upd_same (by rw [List.length_map]; omega)

/-! ### need_file -/
abbrev sNeedFile : Stmt := topS 28
theorem scNeedFile : FnScope ["thing", "number", "row"] ["thing"] (defScope sNeedFile) := ⟨rfl, rfl, rfl, by decide +kernel, rfl, by decide +kernel, by decide +kernel⟩
def spNeedFile : Sp := fun vs H Q _ => ∃ (p : Addr) (rs : List Rw), vs = [.ref p] ∧ FAt H p rs ∧ okF rs ∧ ∀ H', Same H H' → Q (.ref p) H'
theorem ok_need_file {f f1 f2 : Addr} {fd fd1 fd2 : FuncData} (F : Fun K "need_file" "need_file" sNeedFile f fd) (T : Txt K mg) (D1 : Df K mg "is_row" sIsRow ["thing"] f1 fd1) (G1 : FnOk P w K mg base CX0 11 f1 fd1 ["thing"] spIsRow)
    (D2 : Df K mg "names_in" sNamesIn ["rows"] f2 fd2) (G2 : FnOk P w K mg base CX0 6 f2 fd2 ["rows"] spNamesIn) : FnOk P w K mg base CX0 12 f fd ["thing"] spNeedFile := by
  refine F.ok scNeedFile (fun vs H Q E h => ?_) (fun cdv A outer s H vs Q E hr h => ?_)
  · obtain ⟨v, t, rfl, _⟩ := h
    rfl
  have nd := scNeedFile.nd
  refine ⟨_, pss_cons (ps_if (PW.pt (pw_or (pt_not (pt_val (isU T.b_isinstance T.b_tuple (pv 0)))) (pw_or1 (pt_cmpR op_gt (lenQ T.b_len (pv 0)) (gI T.c_MOST_ROWS) (nomark _))))) (pss_one ps_never) pss_nil)
    (pss_cons (ps_for PassesOwn.never rfl (pi_enumT rfl T.b_enumerate (pa_cons (pv 0) pa_nil)) (pg_tup rfl (pgs_cons (pg_name (i := 1) nd rfl (Or.inl rfl)) (pgs_cons (pg_name (i := 2) nd rfl (Or.inl rfl)) pgs_nil)))
      (pss_one (ps_if (pt_not (pt_val (cal D1 G1 hr (pa_cons (pv 2) pa_nil)))) (pss_one ps_never) pss_nil)))
    (pss_cons (ps_if (pt_cmpR op_gt (lenQ T.b_len (cal D2 G2 (hr.mono (by decide)) (pa_cons (pv 0) pa_nil))) (gI T.c_MOST_NAMES) (nomark _)) (pss_one ps_never) pss_nil)
    (pss_one (ps_ret (pv 0))))), ?_⟩
  obtain ⟨p, rs, rfl, ⟨ws, hp, ht⟩, ok, q⟩ := h
  have hlen := ht.len
  refine ⟨_, rfl, rfl, .inr ⟨p, ws, rfl, hp, _, rfl, iteF ?_⟩⟩
  refine ⟨_, rfl, ws, .inr (SqT.of hp), _, _, rfl, rfl, _, rfl, ?_⟩
  have e40 : decide ((ws.length : Int) > 40) = false := decide_eq_false (by have := ok.few; omega)
  rw [e40]
  refine iteF ?_
  refine ⟨_, rfl, p, ws, rfl, SqT.of hp, for_it walk_G (fun i σ H' => Same H H' ∧ ∃ x y, σ = [some (.ref p), x, y]) ⟨Same.refl H, none, none, rfl⟩ (fun i σ H' _ z => SqT.of (z.1 _ _ hp)) ?_ ?_⟩
  · rintro i v σ H1 H2 hi ⟨e1, x, y, rfl⟩ ⟨tp, z, rfl, fresh, rfl, hz⟩
    have e2 : Same H (upd H1 tp (.tup [.int (i : Nat), z])) := e1.trans (sNew fresh _)
    obtain ⟨r, k1, k2, k3⟩ := ht.at hz
    refine ⟨tp, _, rfl, SqT.of upd_same, rfl, _, _, rfl, _, _, rfl, rfl, ?_⟩
    exact ⟨_, rfl, z, r, rfl, k3.keep (sTups e2), ok.ok r k2, fun H3 e3 => ⟨_, rfl, iteF ⟨e2.trans e3, _, _, rfl⟩⟩⟩
  · rintro σ H1 ⟨e1, x, y, rfl⟩
    refine ⟨_, rfl, p, rs, rfl, ⟨ws, e1 _ _ hp, ht.keep (sTups e1)⟩, ok, fun l ys H2 e2 h2 hy => ⟨ys, .inl (SqL.of h2), _, _, rfl, rfl, _, rfl, ?_⟩⟩
    have e12 : decide ((ys.length : Int) > 12) = false := decide_eq_false (by omega)
    rw [e12]
    exact iteF ⟨_, rfl, q _ (e1.trans e2)⟩
end
end Er
namespace Er
open PySem L2 TL
section
variable {P : Program} {w : World} {K : PySem.W.Frag} {mg : Str → Option Value} {base : Heap}
theorem joinL_flat : ∀ l : List (List Nat), joinL [] l = l.flatten
  | [] => rfl
  | [p] => by simp [joinL]
  | p :: q :: r => by
    show p ++ ([] ++ joinL [] (q :: r)) = p ++ (q :: r).flatten
    rw [List.nil_append, joinL_flat (q :: r)]
/-- "".join -/
theorem join_void (parts : List Str) : Txt.join ("" : Str) parts = ofC (parts.map tl).flatten := ext_tl (by
  rw [join_eq, tl_join, tl_empty, joinL_flat]
  rfl)
/-- the file's written form -/
def fileS (rs : List Rw) : Str := Txt.join ("\n" : Str) (rs.map fun r => ofC r.wr)

/-! ### written -/
abbrev sWritten : Stmt := topS 41
theorem scWritten : FnScope ["text", "found", "piece"] ["text"] (defScope sWritten) := ⟨rfl, rfl, rfl, by decide +kernel, rfl, by decide +kernel, by decide +kernel⟩
def spWritten (n : Nat) : Sp := fun vs H Q _ => ∃ (p : Addr) (t : T), vs = [.ref p] ∧ TAt H p t ∧ t.dp ≤ n ∧ t.wS ≤ 100000 ∧ ∀ H', Same H H' → Q (.str (ofC t.wr)) H'
theorem tl_begin : tl ("${" : Str) = [36, 123] := by decide +kernel
theorem tl_end : tl ("}" : Str) = [125] := by decide +kernel
/-- the piece put together -/
theorem part_str (n s : Str) (u : T) : ("${" : Str) ++ n ++ s ++ ofC u.wr ++ ("}" : Str) = ofC (Pc.pt n s u).wr := ext_tl (by
  rw [tl_append, tl_append, tl_append, tl_append, tl_begin, tl_end, tl_ofC, tl_ofC]
  show _ = 36 :: 123 :: (tl n ++ (tl s ++ (u.wr ++ [125])))
  simp only [List.append_assoc, List.cons_append, List.nil_append])
theorem wr_pc : ∀ (t : T) (pc : Pc), pc ∈ t.pcs → pc.wr.length ≤ t.wS
  | .nil, _, h => nomatch h
  | .plain s r, pc, h => by
    rcases List.mem_cons.mp h with z | z
    · rw [z]
      show (tl s).length ≤ 10 * (tl s).length + 4 + r.wS
      omega
    · have := wr_pc r pc z
      show pc.wr.length ≤ 10 * (tl s).length + 4 + r.wS
      omega
  | .part n s u r, pc, h => by
    rcases List.mem_cons.mp h with z | z
    · rw [z]
      have := Er.T.wr_len u
      show (36 :: 123 :: (tl n ++ (tl s ++ (u.wr ++ [125])))).length ≤ 10 * (tl n).length + 10 * (tl s).length + 16 + u.wS + r.wS
      simp only [List.length_cons, List.length_append, List.length_nil]
      omega
    · have := wr_pc r pc z
      show pc.wr.length ≤ 10 * (tl n).length + 10 * (tl s).length + 16 + u.wS + r.wS
      omega
theorem pt_len (n s : Str) (u : T) : (Pc.pt n s u).wr.length = n.length + s.length + u.wr.length + 3 := by
  show (36 :: 123 :: (tl n ++ (tl s ++ (u.wr ++ [125])))).length = _
  rw [len_tl n, len_tl s]
  simp only [List.length_cons, List.length_append, List.length_nil]
  omega
theorem begin_len : ("${" : Str).length = 2 := by decide +kernel
theorem end_len : ("}" : Str).length = 1 := by decide +kernel
theorem sApp (a b : Str) : (a ++ b).length = a.length + b.length := by rw [len_tl, len_tl, len_tl, tl_append, List.length_append]
/-- the piece's text, as it lies in the list -/
def Pc.v (pc : Pc) : V := .str (ofC pc.wr)
theorem ok_written {n : Nat} {f f1 : Addr} {fd fd1 : FuncData} (F : Fun K "written" "written" sWritten f fd) (T : Txt K mg) (D1 : Df K mg "written" sWritten ["text"] f1 fd1)
    (G1 : FnOk P w K mg base CX0 n f1 fd1 ["text"] (spWritten n)) : FnOk P w K mg base CX0 (n + 1) f fd ["text"] (spWritten (n + 1)) := by
  refine F.ok scWritten (fun vs H Q E h => ?_) (fun cdv A outer s H vs Q E hr h => ?_)
  · obtain ⟨v, t, rfl, _⟩ := h
    rfl
  have nd := scWritten.nd
  refine ⟨_, pss_cons (ps_set (i := 1) nd rfl (Or.inl rfl) (pe_lst pa_nil))
    (pss_cons (ps_for PassesOwn.never rfl (pi_tup (pv 0)) (pg_name (i := 2) nd rfl (Or.inl rfl))
      (pss_one (ps_if (pt_val (isS T.b_isinstance T.b_str (pv 2)))
        (pss_one (ps_expr (pe_bm PySem.F.plainAttrs_list PySem.F.slot_list_append PySem.F.type_list_append mt_append (pv 1) (pa_cons (pv 2) pa_nil))))
        (pss_one (ps_expr (pe_bm PySem.F.plainAttrs_list PySem.F.slot_list_append PySem.F.type_list_append mt_append (pv 1) (pa_cons
          (pe_op op_add_str (pe_op op_add_str (pe_op op_add_str (pe_op op_add_str (gS T.c_BEGIN) (pe_ix ix_tup (pv 2) pe_int (fun _ _ => rfl))) (pe_ix ix_tup (pv 2) pe_int (fun _ _ => rfl)))
            (cal D1 G1 hr (pa_cons (pe_ix ix_tup (pv 2) pe_int (fun _ _ => rfl)) pa_nil))) (gS T.c_END)) pa_nil)))))))
    (pss_one (ps_ret (pe_join pe_str (pv 1))))), ?_⟩
  obtain ⟨p, t, rfl, ⟨ws, hp, ht⟩, hd, hw, q⟩ := h
  have hlen := ht.len
  refine ⟨Nat.zero_le _, fun l hl => ?_⟩
  refine ⟨_, rfl, p, rfl, ⟨ws, SqT.of ((sNew hl _) _ _ hp)⟩, for_tup (xs := ws) (fun i σ H' => Same H H' ∧ H' l = some (.lst ((t.pcs.take i).map Pc.v)) ∧ ∃ x, σ = [some (.ref p), some (.ref l), x]) ⟨sNew hl _, upd_same, none, rfl⟩ (fun i σ H' _ z => SqT.of (z.1 _ _ hp)) ?_ ?_⟩
  · rintro i x σ H1 hx ⟨e1, h1, y, rfl⟩
    obtain ⟨pc, k1, k2, k3⟩ := ht.at hx
    have step := map_take Pc.v k1
    have room : ((t.pcs.take i).map Pc.v).length < sizeLine := by
      have hi : i < ws.length := (List.getElem?_eq_some_iff.mp hx).1
      have := Er.T.len_wS t
      rw [List.length_map, List.length_take]
      exact Nat.lt_of_lt_of_le (show min i t.pcs.length < 100001 by omega) (by decide)
    have wl := wr_pc t pc k2
    refine ⟨_, rfl, rfl, ?_⟩
    cases pc with
    | pl s0 =>
      obtain rfl : x = .str s0 := k3
      refine .inl ⟨s0, rfl, _, rfl, iteT ?_⟩
      refine ⟨_, rfl, .inl ⟨rfl, _, SqL.of h1⟩, _, rfl, l, _, _, rfl, rfl, h1, room, sPut e1 hl _, ?_, _, rfl⟩
      rw [upd_same, step]
      show some (HO.lst ((t.pcs.take i).map Pc.v ++ [V.str s0])) = some (HO.lst ((t.pcs.take i).map Pc.v ++ [V.str (ofC (tl s0))]))
      rw [ofC_tl]
    | pt n0 s0 u =>
      obtain ⟨a, b, rfl, ha, hb⟩ := k3
      have ha1 := e1 _ _ ha
      rw [pt_len] at wl
      have big : ∀ {m : Nat}, m ≤ 100000 → m ≤ sizeLine := fun h => Nat.le_trans h (by decide)
      have dpu : u.dp + 1 ≤ t.dp := Er.T.dp_pcs t _ k2
      have wsu : u.wS ≤ t.wS := Er.T.wS_pcs t _ k2
      refine .inr ⟨a, _, rfl, ha1, _, rfl, iteF ?_⟩
      refine ⟨_, rfl, .inl ⟨rfl, _, SqL.of h1⟩, _, rfl, a, _, 0, _, rfl, rfl, SqT.of ha1, atI_nat rfl, _, _, rfl, rfl, ?_, _, rfl, a, _, 1, _, rfl, rfl, SqT.of ha1, atI_nat rfl, _, _, rfl, rfl, ?_,
        _, rfl, a, _, 2, _, rfl, rfl, SqT.of ha1, atI_nat rfl, b, u, rfl, hb.keep (sTups e1), ?_, ?_, fun H2 e2 => ⟨_, _, rfl, rfl, ?_, _, _, rfl, rfl, ?_, l, _, _, rfl, rfl, e2 _ _ h1, room, sPut (e1.trans e2) hl _, ?_, _, rfl⟩⟩
      · rw [begin_len]
        exact big (by omega)
      · rw [sApp, begin_len]
        exact big (by omega)
      · omega
      · omega
      · rw [sApp, sApp, begin_len, len_ofC]
        exact big (by omega)
      · rw [sApp, sApp, sApp, begin_len, end_len, len_ofC]
        exact big (by omega)
      · rw [upd_same, step, part_str]
        rfl
  · rintro σ H1 ⟨e1, h1, y, rfl⟩
    rw [hlen, ← Er.T.len_pcs, List.take_length] at h1
    have em : (t.pcs.map fun pc => ofC pc.wr).map V.str = t.pcs.map Pc.v := by
      rw [List.map_map]
      rfl
    refine ⟨⟨_, rfl⟩, _, rfl, ("" : Str), l, t.pcs.map (fun pc => ofC pc.wr), rfl, rfl, .inl (SqL.of (by rw [em]; exact h1)), ?_, ?_⟩
    · have e0 : ("" : Str).length = 0 := by decide +kernel
      have wl := Er.T.wr_len t
      rw [Er.T.wr_pcs, List.length_flatten] at wl
      rw [e0, Nat.mul_zero, Nat.add_zero, List.map_map]
      have es : ((t.pcs.map Pc.wr).map List.length) = t.pcs.map ((fun x => Str.length x) ∘ fun pc => ofC pc.wr) := by
        rw [List.map_map]
        exact List.map_congr_left fun pc _ => (len_ofC pc.wr).symm
      rw [← es]
      omega
    · rw [join_void, List.map_map]
      have es : (t.pcs.map (tl ∘ fun pc => ofC pc.wr)).flatten = t.wr := by
        rw [Er.T.wr_pcs]
        rfl
      rw [es]
      exact q _ e1
theorem none_written {k : Nat} {f : Addr} {fd : FuncData} : FnOk P w K mg base CX0 k f fd ["text"] (spWritten 0) := by
  have no : ∀ vs H Q E, ¬ spWritten 0 vs H Q E := fun vs H Q E ⟨_, t, _, _, d, _⟩ => by
    have := Er.T.dp_pos t
    omega
  exact ⟨fun vs H Q E h => absurd h (no vs H Q E), fun A outer s H args us vs Q E _ _ _ _ h => absurd h (no vs H Q E)⟩
theorem all_written {f : Addr} {fd : FuncData} (T : Txt K mg) (D : Df K mg "written" sWritten ["text"] f fd) : ∀ n : Nat, FnOk P w K mg base CX0 n f fd ["text"] (spWritten n)
  | 0 => none_written
  | n + 1 => ok_written D.F T D (all_written T D n)

/-! ### text_of -/
abbrev sTextOf : Stmt := topS 42
theorem scTextOf : FnScope ["text"] ["text"] (defScope sTextOf) := ⟨rfl, rfl, rfl, by decide +kernel, rfl, by decide +kernel, by decide +kernel⟩
def spTextOut : Sp := fun vs H Q _ => ∃ (p : Addr) (t : T), vs = [.ref p] ∧ TAt H p t ∧ okT t ∧ ∀ H', Same H H' → Q (.str (ofC t.wr)) H'
theorem ok_text_of {f f1 f2 : Addr} {fd fd1 fd2 : FuncData} (F : Fun K "text_of" "text_of" sTextOf f fd) (T : Txt K mg) (D1 : Df K mg "is_text" sIsText ["thing"] f1 fd1) (G1 : FnOk P w K mg base CX0 10 f1 fd1 ["thing"] spIsText)
    (D2 : Df K mg "written" sWritten ["text"] f2 fd2) (G2 : FnOk P w K mg base CX0 5 f2 fd2 ["text"] (spWritten 5)) : FnOk P w K mg base CX0 11 f fd ["text"] spTextOut := by
  refine F.ok scTextOf (fun vs H Q E h => ?_) (fun cdv A outer s H vs Q E hr h => ?_)
  · obtain ⟨v, t, rfl, _⟩ := h
    rfl
  refine ⟨_, pss_cons (ps_if (pt_not (pt_val (cal D1 G1 hr (pa_cons (pv 0) pa_nil)))) (pss_one ps_never) pss_nil) (pss_one (ps_ret (cal D2 G2 (hr.mono (by decide)) (pa_cons (pv 0) pa_nil)))), ?_⟩
  obtain ⟨p, t, rfl, ht, ok, q⟩ := h
  exact ⟨_, rfl, p, t, rfl, ht, ok, fun H1 e1 => ⟨_, rfl, iteF ⟨_, rfl, p, t, rfl, ht.keep (sTups e1), Er.T.gd_dp t 4 false (by decide) ok.1, ok.2.2, fun H2 e2 => q _ (e1.trans e2)⟩⟩⟩

/-! ### row_text -/
abbrev sRowText : Stmt := topS 43
theorem scRowText : FnScope ["row"] ["row"] (defScope sRowText) := ⟨rfl, rfl, rfl, by decide +kernel, rfl, by decide +kernel, by decide +kernel⟩
def spRowText : Sp := fun vs H Q _ => ∃ (v : V) (r : Rw), vs = [v] ∧ RIs H r v ∧ r.ok ∧ ∀ H', Same H H' → Q (.str (ofC r.wr)) H'
theorem w_drop (n : Str) : ("drop" : Str) ++ (" " : Str) ++ n = ofC (Rw.drop n).wr := ext_tl (by
  have e : tl (("drop" : Str) ++ (" " : Str)) = [100, 114, 111, 112, 32] := by decide +kernel
  rw [tl_append, e]
  rfl)
theorem w_check (t : T) : ("check" : Str) ++ (" " : Str) ++ ofC t.wr = ofC (Rw.chk t).wr := ext_tl (by
  have e : tl (("check" : Str) ++ (" " : Str)) = [99, 104, 101, 99, 107, 32] := by decide +kernel
  rw [tl_append, e]
  rfl)
theorem tl_eqs : tl ("=" : Str) = [61] := by decide +kernel
theorem tl_given : tl ("?=" : Str) = [63, 61] := by decide +kernel
theorem w_set (n : Str) (t : T) : n ++ ("=" : Str) ++ ofC t.wr = ofC (Rw.set n t).wr := ext_tl (by
  rw [tl_append, tl_append, tl_eqs, List.append_assoc]
  rfl)
theorem w_give (n : Str) (t : T) : n ++ ("?=" : Str) ++ ofC t.wr = ofC (Rw.give n t).wr := ext_tl (by
  rw [tl_append, tl_append, tl_given, List.append_assoc]
  rfl)
theorem name_short {n : Str} (h : okN n) : n.length ≤ 8 := by
  rw [len_tl]
  exact (okN_len h).2
theorem okT_short {t : T} (h : okT t) : (ofC t.wr).length ≤ 100000 := by
  rw [len_ofC]
  exact Nat.le_trans (Er.T.wr_len t) h.2.2
theorem okT_dp {t : T} (h : okT t) : t.dp ≤ 5 := Er.T.gd_dp t 4 false (by decide) h.1
theorem ok_row_text {f f1 : Addr} {fd fd1 : FuncData} (F : Fun K "row_text" "row_text" sRowText f fd) (T : Txt K mg) (D1 : Df K mg "written" sWritten ["text"] f1 fd1) (G1 : FnOk P w K mg base CX0 5 f1 fd1 ["text"] (spWritten 5)) :
    FnOk P w K mg base CX0 6 f fd ["row"] spRowText := by
  refine F.ok scRowText (fun vs H Q E h => ?_) (fun cdv A outer s H vs Q E hr h => ?_)
  · obtain ⟨v, t, rfl, _⟩ := h
    rfl
  refine ⟨_, pss_cons (ps_if (pt_cmpR op_eq (pe_ix ix_tup (pv 0) pe_int (fun _ _ => rfl)) (gS T.c_DROP) (nomark _))
      (pss_one (ps_ret (pe_op op_add_str (pe_op op_add_str (gS T.c_DROP) (gS T.c_BLANK)) (pe_ix ix_tup (pv 0) pe_int (fun _ _ => rfl))))) pss_nil)
    (pss_cons (ps_if (pt_cmpR op_eq (pe_ix ix_tup (pv 0) pe_int (fun _ _ => rfl)) (gS T.c_CHECK) (nomark _))
      (pss_one (ps_ret (pe_op op_add_str (pe_op op_add_str (gS T.c_CHECK) (gS T.c_BLANK)) (cal D1 G1 hr (pa_cons (pe_ix ix_tup (pv 0) pe_int (fun _ _ => rfl)) pa_nil))))) pss_nil)
    (pss_one (ps_ret (pe_op op_add_str (pe_op op_add_str (pe_ix ix_tup (pv 0) pe_int (fun _ _ => rfl))
      (pe_ifExp (pt_cmpR op_eq (pe_ix ix_tup (pv 0) pe_int (fun _ _ => rfl)) (gS T.c_SET) (nomark _)) (gS T.c_EQUALS) (gS T.c_GIVEN))) (cal D1 G1 hr (pa_cons (pe_ix ix_tup (pv 0) pe_int (fun _ _ => rfl)) pa_nil)))))), ?_⟩
  obtain ⟨v, r, rfl, hv, ok, q⟩ := h
  have big : ∀ {m : Nat}, m ≤ 200000 → m ≤ sizeLine := fun h => Nat.le_trans h (by decide)
  have l1 : (("drop" : Str) ++ (" " : Str)).length = 5 := by decide +kernel
  have l2 : (("check" : Str) ++ (" " : Str)).length = 6 := by decide +kernel
  have l3 : ("=" : Str).length = 1 := by decide +kernel
  have l4 : ("?=" : Str).length = 2 := by decide +kernel
  cases r with
  | drop n =>
    obtain ⟨a, rfl, ha⟩ := hv
    refine ⟨_, rfl, a, _, 0, _, rfl, rfl, SqT.of ha, atI_nat rfl, rfl, _, rfl, ?_⟩
    rw [decide_eq_true (rfl : V.str "drop" = V.str "drop")]
    refine iteT ⟨_, _, rfl, rfl, (by decide +kernel), _, rfl, a, _, 1, _, rfl, rfl, SqT.of ha, atI_nat rfl, _, _, rfl, rfl, ?_, ?_⟩
    · have := name_short ok
      rw [l1]
      exact big (by omega)
    · rw [w_drop]
      exact q H (Same.refl H)
  | chk t =>
    obtain ⟨a, b, rfl, ha, hb⟩ := hv
    refine ⟨_, rfl, a, _, 0, _, rfl, rfl, SqT.of ha, atI_nat rfl, rfl, _, rfl, ?_⟩
    rw [str_ne n_check_drop]
    refine iteF ⟨_, rfl, a, _, 0, _, rfl, rfl, SqT.of ha, atI_nat rfl, rfl, _, rfl, ?_⟩
    rw [decide_eq_true (rfl : V.str "check" = V.str "check")]
    refine iteT ⟨_, _, rfl, rfl, (by decide +kernel), _, rfl, a, _, 1, _, rfl, rfl, SqT.of ha, atI_nat rfl, b, t, rfl, hb, okT_dp ok, ok.2.2, fun H1 e1 => ⟨_, _, rfl, rfl, ?_, ?_⟩⟩
    · have := okT_short ok
      rw [l2]
      exact big (by omega)
    · rw [w_check]
      exact q H1 e1
  | set n t =>
    obtain ⟨a, b, rfl, ha, hb⟩ := hv
    refine ⟨_, rfl, a, _, 0, _, rfl, rfl, SqT.of ha, atI_nat rfl, rfl, _, rfl, ?_⟩
    rw [str_ne n_set_drop]
    refine iteF ⟨_, rfl, a, _, 0, _, rfl, rfl, SqT.of ha, atI_nat rfl, rfl, _, rfl, ?_⟩
    rw [str_ne n_set_check]
    have k1 := name_short ok.1
    have k2 := okT_short ok.2
    refine iteF ⟨_, rfl, a, _, 1, _, rfl, rfl, SqT.of ha, atI_nat rfl, _, rfl, a, _, 0, _, rfl, rfl, SqT.of ha, atI_nat rfl, rfl, _, rfl, ?_⟩
    rw [decide_eq_true (rfl : V.str "set" = V.str "set")]
    refine iteT ⟨_, _, rfl, rfl, ?_, _, rfl, a, _, 2, _, rfl, rfl, SqT.of ha, atI_nat rfl, b, t, rfl, hb, okT_dp ok.2, ok.2.2.2, fun H1 e1 => ⟨_, _, rfl, rfl, ?_, ?_⟩⟩
    · rw [l3]
      exact big (by omega)
    · rw [sApp, l3]
      exact big (by omega)
    · rw [w_set]
      exact q H1 e1
  | give n t =>
    obtain ⟨a, b, rfl, ha, hb⟩ := hv
    refine ⟨_, rfl, a, _, 0, _, rfl, rfl, SqT.of ha, atI_nat rfl, rfl, _, rfl, ?_⟩
    rw [str_ne n_give_drop]
    refine iteF ⟨_, rfl, a, _, 0, _, rfl, rfl, SqT.of ha, atI_nat rfl, rfl, _, rfl, ?_⟩
    rw [str_ne n_give_check]
    have k1 := name_short ok.1
    have k2 := okT_short ok.2
    refine iteF ⟨_, rfl, a, _, 1, _, rfl, rfl, SqT.of ha, atI_nat rfl, _, rfl, a, _, 0, _, rfl, rfl, SqT.of ha, atI_nat rfl, rfl, _, rfl, ?_⟩
    rw [str_ne n_give_set]
    refine iteF ⟨_, _, rfl, rfl, ?_, _, rfl, a, _, 2, _, rfl, rfl, SqT.of ha, atI_nat rfl, b, t, rfl, hb, okT_dp ok.2, ok.2.2.2, fun H1 e1 => ⟨_, _, rfl, rfl, ?_, ?_⟩⟩
    · rw [l4]
      exact big (by omega)
    · rw [sApp, l4]
      exact big (by omega)
    · rw [w_give]
      exact q H1 e1

/-! ### file_text -/
abbrev sFileText : Stmt := topS 44
theorem scFileText : FnScope ["file", "row"] ["file"] (defScope sFileText) := ⟨rfl, rfl, rfl, by decide +kernel, rfl, by decide +kernel, by decide +kernel⟩
def spFileText : Sp := fun vs H Q _ => ∃ (p : Addr) (rs : List Rw), vs = [.ref p] ∧ FAt H p rs ∧ okF rs ∧ ∀ H', Same H H' → Q (.str (fileS rs)) H'
def Rw.v (r : Rw) : V := .str (ofC r.wr)
theorem row_short {r : Rw} (h : r.ok) : r.wr.length ≤ 100020 := by
  cases r with
  | set n t =>
    have k1 := (okN_len h.1).2
    have k2 := Nat.le_trans (Er.T.wr_len t) h.2.2.2
    show (tl n ++ 61 :: t.wr).length ≤ 100020
    rw [List.length_append, List.length_cons]
    omega
  | give n t =>
    have k1 := (okN_len h.1).2
    have k2 := Nat.le_trans (Er.T.wr_len t) h.2.2.2
    show (tl n ++ 63 :: 61 :: t.wr).length ≤ 100020
    rw [List.length_append, List.length_cons, List.length_cons]
    omega
  | drop n =>
    have k1 := (okN_len h).2
    show (tl n).length + 1 + 1 + 1 + 1 + 1 ≤ 100020
    omega
  | chk t =>
    have k2 := Nat.le_trans (Er.T.wr_len t) h.2.2
    show t.wr.length + 1 + 1 + 1 + 1 + 1 + 1 ≤ 100020
    omega
theorem rows_sum : ∀ rs : List Rw, (∀ r ∈ rs, r.ok) → ((rs.map fun r => ofC r.wr).map (·.length)).sum ≤ rs.length * 100020
  | [], _ => Nat.zero_le _
  | r :: rs, h => by
    have h1 := row_short (h r List.mem_cons_self)
    have h2 := rows_sum rs fun x hx => h x (List.mem_cons_of_mem _ hx)
    rw [List.map_cons, List.map_cons, List.sum_cons, len_ofC, List.length_cons, Nat.succ_mul]
    omega
theorem file_sum {rs : List Rw} (ok : okF rs) : ((rs.map fun r => ofC r.wr).map (·.length)).sum + (rs.map fun r => ofC r.wr).length * ("\n" : Str).length ≤ 16777216 := by
  have h1 := rows_sum rs ok.ok
  have h2 := ok.few
  have e : ("\n" : Str).length = 1 := by decide +kernel
  have h3 : rs.length * 100020 ≤ 40 * 100020 := Nat.mul_le_mul_right _ h2
  rw [e, Nat.mul_one, List.length_map]
  omega
theorem ok_file_text {f f1 f2 : Addr} {fd fd1 fd2 : FuncData} (F : Fun K "file_text" "file_text" sFileText f fd) (T : Txt K mg) (D1 : Df K mg "need_file" sNeedFile ["thing"] f1 fd1) (G1 : FnOk P w K mg base CX0 12 f1 fd1 ["thing"] spNeedFile)
    (D2 : Df K mg "row_text" sRowText ["row"] f2 fd2) (G2 : FnOk P w K mg base CX0 6 f2 fd2 ["row"] spRowText) : FnOk P w K mg base CX0 13 f fd ["file"] spFileText := by
  refine F.ok scFileText (fun vs H Q E h => ?_) (fun cdv A outer s H vs Q E hr h => ?_)
  · obtain ⟨v, t, rfl, _⟩ := h
    rfl
  have nd := scFileText.nd
  refine ⟨_, pss_one (ps_ret (pe_join (gS T.c_NEWLINE) (pe_lc (own := [("row", 1)]) (g := gName 1) (tt := tYes) rfl nd (pi_tup (cal D1 G1 hr (pa_cons (pv 0) pa_nil))) (blkOk_by (N := ["file", "row"]) (sc := defScope sFileText) (by decide +kernel))
      (fun _ _ _ _ _ => pg_name (i := 1) nd rfl (Or.inl rfl)) (fun _ _ _ _ _ => pts_nil) (fun _ _ _ _ _ => cal D2 G2 (hr.mono (by decide)) (pa_cons (pv 1) pa_nil))))), ?_⟩
  obtain ⟨p, rs, rfl, ⟨ws, hp, ht⟩, ok, q⟩ := h
  have hlen := ht.len
  refine ⟨⟨_, rfl⟩, _, rfl, p, rs, rfl, ⟨ws, hp, ht⟩, ok, fun H1 e1 => ⟨p, rfl, ⟨ws, SqT.of (e1 _ _ hp)⟩, fun D hD => ?_⟩⟩
  refine lc_tup (xs := ws) (fun i H' => Same H1 H' ∧ H' D = some (.lst ((rs.take i).map Rw.v))) ⟨sNew hD _, upd_same⟩ (fun i H' _ z => SqT.of (z.1 _ _ (e1 _ _ hp))) ?_ ?_
  · rintro i x H2 hx ⟨e2, h2⟩
    obtain ⟨r, k1, k2, k3⟩ := ht.at hx
    refine ⟨rfl, _, rfl, x, r, rfl, k3.keep (sTups (e1.trans e2)), ok.ok r k2, fun H3 e3 => ⟨_, e3 _ _ h2, ?_, sPut (e2.trans e3) hD _, ?_⟩⟩
    · have f40 := ok.few
      rw [List.length_map, List.length_take]
      exact Nat.lt_of_le_of_lt (show min i rs.length ≤ 40 by omega) (by decide)
    · rw [upd_same, map_take Rw.v k1]
      rfl
  · rintro H2 ⟨e2, h2⟩
    rw [hlen, List.take_length] at h2
    refine ⟨("\n" : Str), D, List.map (fun r : Rw => ofC r.wr) rs, rfl, rfl, .inl (SqL.of ?_), file_sum ok, q H2 (e1.trans e2)⟩
    rw [h2, List.map_map]
    rfl
end
end Er
namespace Er
open PySem L2 TL
section
variable {P : Program} {w : World} {K : PySem.W.Frag} {mg : Str → Option Value} {base : Heap}
theorem len_at {z : Str} {p r : List Nat} (h : tl z = p ++ r) : z.length = p.length + r.length := by rw [len_tl, h, List.length_append]

theorem sNone {H H1 : Hp} {a : Addr} (e : Same H H1) (h : H1 a = none) : H a = none := by
  cases q : H a with
  | none => rfl
  | some o => rw [e a o q] at h; cases h

/-! ### need_sign -/
abbrev sNeedSign : Stmt := topS 45
theorem scNeedSign : FnScope ["line", "at", "signs", "row"] ["line", "at", "signs", "row"] (defScope sNeedSign) := ⟨rfl, rfl, rfl, by decide +kernel, rfl, by decide +kernel, by decide +kernel⟩
def spNeedSign : Sp := fun vs H Q _ => ∃ (z : Str) (i : Int) (p r : List Nat) (c : Nat) (sg : Str) (rv : V), vs = [.str z, .int i, .str sg, rv] ∧ i = (p.length : Int) ∧ tl z = p ++ c :: r ∧ c ∈ tl sg ∧ z.length ≤ sizeLine ∧ Q .non H
theorem ok_need_sign {f : Addr} {fd : FuncData} (F : Fun K "need_sign" "need_sign" sNeedSign f fd) (T : Txt K mg) : FnOk P w K mg base CX0 1 f fd ["line", "at", "signs", "row"] spNeedSign := by
  refine F.ok scNeedSign (fun vs H Q E h => ?_) (fun cdv A outer s H vs Q E hr h => ?_)
  · obtain ⟨z, i, p, r, c, sg, rv, rfl, _⟩ := h
    rfl
  refine ⟨_, pss_one (ps_if (PW.pt (pw_or (pt_cmpR op_ge (pv 1) (lenS T.b_len (pv 0)) (nomark _)) (pw_or1 (pt_cmpR op_notIn_sign (pe_ix ix_str (pv 0) (pv 1) (fun _ _ => rfl)) (pv 2) rfl)))) (pss_one ps_never) pss_nil), ?_⟩
  obtain ⟨z, i, p, r, c, sg, rv, rfl, hi, hz, hc, hs, q⟩ := h
  have hl := len_at hz
  rw [List.length_cons] at hl
  refine ⟨_, rfl, _, rfl, hs, _, _, rfl, rfl, _, rfl, ?_⟩
  have e1 : decide (i ≥ (z.length : Int)) = false := decide_eq_false (by omega)
  rw [show decide ((z.length : Int) ≤ i) = false from e1]
  refine iteF ⟨_, rfl, _, rfl, z, i, c, rfl, rfl, hs, by rw [hi]; exact at_here hz, _, rfl, c, sg, rfl, rfl, _, rfl, ?_⟩
  rw [in_pos hc]
  exact iteF q

/-! ### name_at -/
abbrev sNameAt : Stmt := topS 46
theorem scNameAt : FnScope ["line", "at", "row", "end"] ["line", "at", "row"] (defScope sNameAt) := ⟨rfl, rfl, rfl, by decide +kernel, rfl, by decide +kernel, by decide +kernel⟩
def spNameAt : Sp := fun vs H Q _ => ∃ (z : Str) (i : Int) (p : List Nat) (n : Str) (r : List Nat) (rv : V), vs = [.str z, .int i, rv] ∧ i = (p.length : Int) ∧ tl z = p ++ (tl n ++ r) ∧ okN n ∧ (∀ c r', r = c :: r' → c ∉ capUL) ∧ z.length ≤ sizeLine ∧
  ∀ q H', H q = none → H' = upd H q (.tup [.str n, .int ((p ++ tl n).length : Nat)]) → Q (.ref q) H'
theorem cut_at {z n : Str} {p r : List Nat} (h : tl z = p ++ (tl n ++ r)) : cutS z (some (p.length : Int)) (some ((p.length + (tl n).length : Nat) : Int)) = n := by
  have hl := len_at h
  rw [List.length_append] at hl
  refine ext_tl ?_
  show ((tl z).drop (HT.sIx z.length 0 (some (p.length : Int)))).take (HT.sIx z.length z.length (some ((p.length + (tl n).length : Nat) : Int)) - HT.sIx z.length 0 (some (p.length : Int))) = tl n
  rw [HT.sIx_nat, HT.sIx_nat, Nat.min_eq_left (by omega), Nat.min_eq_left (by omega), h, List.drop_left, Nat.add_sub_cancel_left, List.take_left]
theorem ok_name_at {f f1 : Addr} {fd fd1 : FuncData} (F : Fun K "name_at" "name_at" sNameAt f fd) (T : Txt K mg) (D1 : Df K mg "need_sign" sNeedSign ["line", "at", "signs", "row"] f1 fd1) (G1 : FnOk P w K mg base CX0 1 f1 fd1 ["line", "at", "signs", "row"] spNeedSign) :
    FnOk P w K mg base CX0 2 f fd ["line", "at", "row"] spNameAt := by
  refine F.ok scNameAt (fun vs H Q E h => ?_) (fun cdv A outer s H vs Q E hr h => ?_)
  · obtain ⟨z, i, p, n, r, rv, rfl, _⟩ := h
    rfl
  have nd := scNameAt.nd
  refine ⟨_, pss_cons (ps_expr (cal D1 G1 hr (pa_cons (pv 0) (pa_cons (pv 1) (pa_cons (gS T.c_CAPITALS) (pa_cons (pv 2) pa_nil))))))
    (pss_cons (ps_set (i := 3) nd rfl (Or.inl rfl) (pe_op op_add (pv 1) pe_int))
    (pss_cons (ps_while PassesOwn.never (PW.pt (pw_and (pt_cmpR op_lt (pv 3) (lenS T.b_len (pv 0)) (nomark _)) (pw_and (pt_cmpR op_lt (pv 3) (pe_op op_add (pv 1) (gI T.c_MOST_IN_NAME)) (nomark _))
        (pw_and1 (pt_cmpR op_in_sign (pe_ix ix_str (pv 0) (pv 3) (fun _ _ => rfl)) (pe_op op_add_str (gS T.c_CAPITALS) pe_str) rfl)))))
      (pss_one (ps_aug (i := 3) nd rfl (Or.inl rfl) pe_int ip_add)))
    (pss_one (ps_ret (pe_tup (pa_cons (pe_slice sl_str (pv 0) (po_some (pv 1)) (po_some (pv 3))) (pa_cons (pv 3) pa_nil))))))), ?_⟩
  obtain ⟨z, i, p, n, r, rv, rfl, rfl, hz, hn, hr', hs, q⟩ := h
  obtain ⟨c, cs, ec, hc, hcs, hcl⟩ := okN_cons hn
  have ln := (okN_len hn).2
  have hl := len_at hz
  rw [List.length_append] at hl
  refine ⟨_, rfl, _, rfl, _, rfl, z, _, p, cs ++ r, c, sCAP, rv, rfl, rfl, ?_, ?_, hs, ?_⟩
  · rw [hz, ec]
    rfl
  · rw [tl_cap]
    exact hc
  refine ⟨_, rfl, _, _, rfl, rfl, ?_⟩
  have hpos : 1 ≤ (tl n).length := (okN_len hn).1
  refine ⟨fun m σ H' => H' = H ∧ ∃ k : Nat, 1 ≤ k ∧ k ≤ (tl n).length ∧ m = (tl n).length - k ∧ σ = [some (.str z), some (.int (p.length : Nat)), some rv, some (.int ((p.length + k : Nat) : Int))], ⟨_, rfl, 1, Nat.le_refl _, hpos, rfl, rfl⟩, ?_⟩
  rintro m σ H' ⟨rfl, k, k1, k2, rfl, rfl⟩
  refine ⟨_, rfl, _, rfl, hs, _, _, rfl, rfl, _, rfl, ?_⟩
  have hl8 : ((p.length + k : Nat) : Int) = (p.length : Int) + (k : Int) := by omega
  have capu : (sCAP ++ ("_" : Str)).length ≤ sizeLine := by decide +kernel
  by_cases hk : k < (tl n).length
  · have e1 : decide (((p.length + k : Nat) : Int) < (z.length : Int)) = true := decide_eq_true (by omega)
    have e2 : decide (((p.length + k : Nat) : Int) < (p.length : Int) + 8) = true := decide_eq_true (by omega)
    rw [e1]
    refine iteT ⟨_, rfl, _, rfl, _, _, rfl, rfl, _, _, rfl, rfl, _, rfl, ?_⟩
    rw [e2]
    have hd : (tl n)[k]? = some ((tl n)[k]) := List.getElem?_eq_getElem hk
    have hz' : tl z = (p ++ (tl n).take k) ++ (tl n)[k] :: ((tl n).drop (k + 1) ++ r) := by
      rw [hz, List.append_assoc]
      congr 1
      rw [← List.cons_append, ← List.drop_eq_getElem_cons hk, ← List.append_assoc, List.take_append_drop]
    have hlen : p.length + k = (p ++ (tl n).take k).length := by
      rw [List.length_append, List.length_take, Nat.min_eq_left (by omega)]
    refine iteT ⟨_, rfl, _, rfl, z, _, (tl n)[k], rfl, rfl, hs, by rw [hlen]; exact at_here hz', _, _, rfl, rfl, capu, _, _, rfl, rfl, _, rfl, ?_⟩
    rw [in_pos (by rw [tl_capU]; exact okN_all hn _ (List.getElem_mem hk))]
    refine iteT ⟨_, fun _ _ z => z, _, rfl, _, _, rfl, rfl, (tl n).length - (k + 1), by omega, rfl, k + 1, by omega, hk, rfl, rfl⟩
  · have ek : k = (tl n).length := by omega
    subst ek
    have fin : ∀ a, H' a = none → Q (.ref a) (upd H' a (.tup [.str (cutS z (some (p.length : Int)) (some ((p.length + (tl n).length : Nat) : Int))), .int ((p.length + (tl n).length : Nat) : Int)])) := fun a ha => q a _ ha (by
      rw [cut_at hz, List.length_append])
    have two : 2 ≤ sizeLine := by decide
    by_cases h0 : r = []
    · have e1 : decide (((p.length + (tl n).length : Nat) : Int) < (z.length : Int)) = false := decide_eq_false (by rw [h0, List.length_nil] at hl; omega)
      rw [e1]
      exact iteF (iteF ⟨_, rfl, _, rfl, _, rfl, _, rfl, _, rfl, z, rfl, hs, _, rfl, two, fin⟩)
    · obtain ⟨d, r', rfl⟩ := List.exists_cons_of_ne_nil h0
      rw [List.length_cons] at hl
      have e1 : decide (((p.length + (tl n).length : Nat) : Int) < (z.length : Int)) = true := decide_eq_true (by omega)
      rw [e1]
      refine iteT ⟨_, rfl, _, rfl, _, _, rfl, rfl, _, _, rfl, rfl, _, rfl, ?_⟩
      by_cases h8 : (tl n).length = 8
      · have e2 : decide (((p.length + (tl n).length : Nat) : Int) < (p.length : Int) + 8) = false := decide_eq_false (by omega)
        rw [e2]
        exact iteF (iteF ⟨_, rfl, _, rfl, _, rfl, _, rfl, _, rfl, z, rfl, hs, _, rfl, two, fin⟩)
      · have e2 : decide (((p.length + (tl n).length : Nat) : Int) < (p.length : Int) + 8) = true := decide_eq_true (by omega)
        rw [e2]
        have hz' : tl z = (p ++ tl n) ++ d :: r' := by rw [hz, List.append_assoc]
        refine iteT ⟨_, rfl, _, rfl, z, _, d, rfl, rfl, hs, by rw [← List.length_append]; exact at_here hz', _, _, rfl, rfl, capu, _, _, rfl, rfl, _, rfl, ?_⟩
        rw [in_neg (by rw [tl_capU]; exact hr' d r' rfl)]
        exact iteF ⟨_, rfl, _, rfl, _, rfl, _, rfl, _, rfl, z, rfl, hs, _, rfl, two, fin⟩

/-! ### head_at -/
abbrev sHeadAt : Stmt := topS 47
theorem scHeadAt : FnScope ["line", "at", "row", "name", "place"] ["line", "at", "row"] (defScope sHeadAt) := ⟨rfl, rfl, rfl, by decide +kernel, rfl, by decide +kernel, by decide +kernel⟩
/-- what stands behind a part's name -/
def Mid (s : Str) (mid : List Nat) : Prop := (s = ("" : Str) ∧ mid = [125]) ∨ (s ∈ signsL ∧ s ≠ ("" : Str) ∧ mid = tl s)
def spHeadAt : Sp := fun vs H Q _ => ∃ (z : Str) (i : Int) (p : List Nat) (n s : Str) (mid r : List Nat) (rv : V), vs = [.str z, .int i, rv] ∧ i = (p.length : Int) ∧ tl z = p ++ 36 :: 123 :: (tl n ++ (mid ++ r)) ∧ okN n ∧ Mid s mid ∧ z.length ≤ sizeLine ∧
  ∀ q H', Same H H' → H q = none → H' q = some (.tup [.str n, .str s, .int ((p ++ 36 :: 123 :: (tl n ++ mid)).length : Nat)]) → Q (.ref q) H'
theorem tl_curly : tl ("{" : Str) = [123] := by decide +kernel
theorem tl_colon : tl (":" : Str) = [58] := by decide +kernel
theorem tl_dollar : tl ("$" : Str) = [36] := by decide +kernel
theorem kce : ∀ k ∈ kindL ++ [58, 125], k ∉ capUL := by decide
theorem tl_kce : tl (sKIND ++ (":" : Str) ++ ("}" : Str)) = kindL ++ [58, 125] := by decide +kernel
theorem same_at {x y : V} {i j : Int} (h : i = j) : some (HO.tup [x, y, .int i]) = some (HO.tup [x, y, .int j]) := by rw [h]
theorem ok_head_at {f f1 f2 : Addr} {fd fd1 fd2 : FuncData} (F : Fun K "head_at" "head_at" sHeadAt f fd) (T : Txt K mg) (D1 : Df K mg "need_sign" sNeedSign ["line", "at", "signs", "row"] f1 fd1) (G1 : FnOk P w K mg base CX0 1 f1 fd1 ["line", "at", "signs", "row"] spNeedSign)
    (D2 : Df K mg "name_at" sNameAt ["line", "at", "row"] f2 fd2) (G2 : FnOk P w K mg base CX0 2 f2 fd2 ["line", "at", "row"] spNameAt) : FnOk P w K mg base CX0 3 f fd ["line", "at", "row"] spHeadAt := by
  refine F.ok scHeadAt (fun vs H Q E h => ?_) (fun cdv A outer s H vs Q E hr h => ?_)
  · obtain ⟨z, i, p, n, s, mid, r, rv, rfl, _⟩ := h
    rfl
  have nd := scHeadAt.nd
  have hr1 : Room 1 (A.deeper (PyProof.Rows.envOfC "head_at" (defScope sHeadAt) s.heap.objs.size f cdv)) := hr.mono (by decide)
  refine ⟨_, pss_cons (ps_expr (cal D1 G1 hr1 (pa_cons (pv 0) (pa_cons (pe_op op_add (pv 1) pe_int) (pa_cons (gS T.c_CURLY) (pa_cons (pv 2) pa_nil))))))
    (pss_cons (ps_asg (cal D2 G2 hr (pa_cons (pv 0) (pa_cons (pe_op op_add (pv 1) pe_int) (pa_cons (pv 2) pa_nil)))) (pg_tup rfl (pgs_cons (pg_name (i := 3) nd rfl (Or.inl rfl)) (pgs_cons (pg_name (i := 4) nd rfl (Or.inl rfl)) pgs_nil))))
    (pss_cons (ps_expr (cal D1 G1 hr1 (pa_cons (pv 0) (pa_cons (pv 4) (pa_cons (pe_op op_add_str (pe_op op_add_str (gS T.c_KINDS) (gS T.c_COLON)) (gS T.c_END)) (pa_cons (pv 2) pa_nil))))))
    (pss_cons (ps_if (pt_cmpR op_eq (pe_ix ix_str (pv 0) (pv 4) (fun _ _ => rfl)) (gS T.c_END) (nomark _)) (pss_one (ps_ret (pe_tup (pa_cons (pv 3) (pa_cons pe_str (pa_cons (pe_op op_add (pv 4) pe_int) pa_nil)))))) pss_nil)
    (pss_cons (ps_if (pt_cmpR op_ne (pe_ix ix_str (pv 0) (pv 4) (fun _ _ => rfl)) (gS T.c_COLON) (nomark _)) (pss_one (ps_ret (pe_tup (pa_cons (pv 3) (pa_cons (pe_ix ix_str (pv 0) (pv 4) (fun _ _ => rfl)) (pa_cons (pe_op op_add (pv 4) pe_int) pa_nil)))))) pss_nil)
    (pss_cons (ps_expr (cal D1 G1 hr1 (pa_cons (pv 0) (pa_cons (pe_op op_add (pv 4) pe_int) (pa_cons (gS T.c_KINDS) (pa_cons (pv 2) pa_nil))))))
    (pss_one (ps_ret (pe_tup (pa_cons (pv 3) (pa_cons (pe_op op_add_str (gS T.c_COLON) (pe_ix ix_str (pv 0) (pe_op op_add (pv 4) pe_int) (fun _ _ => rfl))) (pa_cons (pe_op op_add (pv 4) pe_int) pa_nil))))))))))), ?_⟩
  obtain ⟨z, i, p, n, s, mid, r, rv, rfl, rfl, hz, hn, hm, hs, q⟩ := h
  obtain ⟨m, ms, em, hm1⟩ : ∃ m ms, mid = m :: ms ∧ m ∈ kindL ++ [58, 125] := by
    rcases hm with ⟨_, e⟩ | ⟨h1, h2, e⟩
    · exact ⟨125, [], e, by decide⟩
    · rcases sign_tl h1 with z | ⟨k, hk, z⟩ | ⟨k, hk, z⟩
      · exact absurd (sign_nil z) h2
      · exact ⟨k, [], by rw [e, z], List.mem_append_left _ hk⟩
      · exact ⟨58, [k], by rw [e, z], by decide⟩
  have z1 : tl z = (p ++ [36]) ++ 123 :: (tl n ++ (mid ++ r)) := by rw [hz, List.append_assoc]; rfl
  have z2 : tl z = (p ++ [36, 123]) ++ (tl n ++ (mid ++ r)) := by rw [hz, List.append_assoc]; rfl
  have z3 : tl z = ((p ++ [36, 123]) ++ tl n) ++ m :: (ms ++ r) := by rw [z2, em, ← List.append_assoc (p ++ [36, 123]), List.cons_append]
  have c1 : (123 : Nat) ∈ tl ("{" : Str) := by decide +kernel
  refine ⟨_, rfl, _, rfl, _, _, rfl, rfl, _, rfl, z, _, p ++ [36], _, 123, _, rv, rfl, by rw [List.length_append]; rfl, z1, c1, hs, ?_⟩
  refine ⟨_, rfl, _, rfl, _, _, rfl, rfl, _, rfl, z, _, p ++ [36, 123], n, mid ++ r, rv, rfl, by rw [List.length_append]; rfl, z2, hn, ?_, hs, ?_⟩
  · intro c r' e
    rw [em, List.cons_append] at e
    rw [← List.head_eq_of_cons_eq e]
    exact kce m hm1
  intro a1 H1 ha1 e1
  have hH1 : H1 a1 = some (.tup [.str n, .int ((p ++ [36, 123] ++ tl n).length : Nat)]) := by rw [e1, upd_same]
  have s1 : Same H H1 := by rw [e1]; exact sNew ha1 _
  clear e1
  refine ⟨a1, _, rfl, SqT.of hH1, rfl, _, _, rfl, _, _, rfl, rfl, ?_⟩
  have km : m ∈ tl (sKIND ++ (":" : Str) ++ ("}" : Str)) := by
    rw [tl_kce]
    exact hm1
  refine ⟨_, rfl, _, rfl, _, _, rfl, rfl, (by decide +kernel), _, _, rfl, rfl, (by decide +kernel), _, rfl, z, _, p ++ [36, 123] ++ tl n, _, m, _, rv, rfl, rfl, z3, km, hs, ?_⟩
  refine ⟨_, rfl, _, rfl, z, _, m, rfl, rfl, hs, at_here z3, rfl, _, rfl, ?_⟩
  have three : 3 ≤ sizeLine := by decide
  rcases hm with ⟨rfl, rfl⟩ | ⟨h1, h2, rfl⟩
  · obtain ⟨rfl, rfl⟩ := List.cons.inj em
    rw [ch_eq tl_end]
    refine iteT ⟨_, rfl, _, rfl, _, _, rfl, rfl, three, fun a2 ha2 => q a2 _ (s1.trans (sNew ha2 _)) (sNone s1 ha2) ?_⟩
    rw [upd_same]
    refine same_at ?_
    simp only [List.length_append, List.length_cons, List.length_nil]
    omega
  · rcases sign_tl h1 with x | ⟨k, hk, x⟩ | ⟨k, hk, x⟩
    · exact absurd (sign_nil x) h2
    · rw [x] at em
      obtain ⟨rfl, rfl⟩ := List.cons.inj em
      have k1 : k ≠ 125 := fun e => absurd (e ▸ hk) (by decide)
      have k2 : k ≠ 58 := fun e => absurd (e ▸ hk) (by decide)
      rw [ch_ne tl_end k1]
      refine iteF ⟨_, rfl, _, rfl, z, _, k, rfl, rfl, hs, at_here z3, rfl, _, rfl, ?_⟩
      rw [ch_ne tl_colon k2]
      refine iteT ⟨_, rfl, _, rfl, _, rfl, z, _, k, rfl, rfl, hs, at_here z3, _, rfl, _, _, rfl, rfl, three, fun a2 ha2 => q a2 _ (s1.trans (sNew ha2 _)) (sNone s1 ha2) ?_⟩
      have es : s = (⟨#[k]⟩ : Str) := ext_tl x
      rw [upd_same, ← es]
      refine same_at ?_
      simp only [List.length_append, List.length_cons, List.length_nil, x]
      omega
    · rw [x] at em
      obtain ⟨rfl, rfl⟩ := List.cons.inj em
      have z4 : tl z = ((p ++ [36, 123] ++ tl n) ++ [58]) ++ k :: r := by
        rw [z3, List.append_assoc _ [58]]
        rfl
      have ck : k ∈ tl sKIND := by
        rw [tl_kind]
        exact hk
      have lp : ((p ++ [36, 123] ++ tl n).length : Int) + 1 = (((p ++ [36, 123] ++ tl n) ++ [58]).length : Nat) := by
        simp only [List.length_append, List.length_cons, List.length_nil]
        omega
      rw [ch_ne tl_end (by decide)]
      refine iteF ⟨_, rfl, _, rfl, z, _, 58, rfl, rfl, hs, at_here z3, rfl, _, rfl, ?_⟩
      rw [ch_eq tl_colon]
      refine iteF ⟨_, rfl, _, rfl, _, _, rfl, rfl, _, rfl, z, _, _, _, k, _, rv, rfl, lp, z4, ck, hs, ?_⟩
      refine ⟨_, rfl, _, rfl, _, rfl, _, _, rfl, rfl, z, _, k, rfl, rfl, hs, by rw [lp]; exact at_here z4, _, _, rfl, rfl, ?_, _, rfl, _, _, rfl, rfl, three, fun a2 ha2 => q a2 _ (s1.trans (sNew ha2 _)) (sNone s1 ha2) ?_⟩
      · exact (show (":" : Str).length + 1 ≤ sizeLine by decide +kernel)
      · have es : s = (":" : Str) ++ (⟨#[k]⟩ : Str) := ext_tl (by rw [x, tl_append, tl_colon]; rfl)
        rw [upd_same, ← es]
        refine same_at ?_
        simp only [List.length_append, List.length_cons, List.length_nil, x]
        omega
end
end Er
namespace Er
open PySem L2 TL
section
variable {P : Program} {w : World} {K : PySem.W.Frag} {mg : Str → Option Value} {base : Heap}
/-- all but l stays -/
def But (l : Addr) (H H' : Hp) : Prop := ∀ b o, b ≠ l → H b = some o → H' b = some o
theorem But.tups {l : Addr} {H H' : Hp} {xs : List V} (e : But l H H') (h : H l = some (.lst xs)) : Tups H H' := fun b ys q => e b _ (fun z => by
  rw [z, h] at q
  cases q) q
theorem But.put {l : Addr} {H H' : Hp} (e : But l H H') (o : HO) : But l H (upd H' l o) := fun b u hb q => by
  rw [upd_ne hb]
  exact e b u hb q
theorem sBut {l : Addr} {H H' : Hp} (e : Same H H') : But l H H' := fun b o _ q => e b o q

/-! ### with_plain -/
abbrev sWithPlain : Stmt := topS 48
theorem scWithPlain : FnScope ["pieces", "sign"] ["pieces", "sign"] (defScope sWithPlain) := ⟨rfl, rfl, rfl, by decide +kernel, rfl, by decide +kernel, by decide +kernel⟩
def spWithPlain : Sp := fun vs H Q _ => ∃ (l : Addr) (xs : List V) (c : Nat), vs = [.ref l, .str ⟨#[c]⟩] ∧ H l = some (.lst xs) ∧
  ((∃ t : T, xs.length ≤ 1000 ∧ TIs H t xs ∧ t.lay = true ∧ t.lastB false = false ∧ ∀ H', But l H H' → H' l = some (.lst (xs ++ [.str ⟨#[c]⟩])) → Q .non H') ∨
   (∃ (t : T) (s : Str), TIs H (t.app (T.plain s T.nil)) xs ∧ (t.app (T.plain s T.nil)).lay = true ∧ (tl s).length ≤ 100 ∧ ∀ ys H', xs = ys ++ [.str s] → TIs H t ys → But l H H' → H' l = some (.lst (ys ++ [.str (s ++ (⟨#[c]⟩ : Str))])) → Q .non H'))
theorem ok_with_plain {f : Addr} {fd : FuncData} (F : Fun K "with_plain" "with_plain" sWithPlain f fd) (T : Txt K mg) : FnOk P w K mg base CX0 1 f fd ["pieces", "sign"] spWithPlain := by
  refine F.ok scWithPlain (fun vs H Q E h => ?_) (fun cdv A outer s H vs Q E hr h => ?_)
  · obtain ⟨l, xs, c, rfl, _⟩ := h
    rfl
  refine ⟨_, pss_one (ps_if (PW.pt (pw_and (pt_cmpR (ne_void hr) (pv 0) (pe_lst pa_nil) (nomark _)) (pw_and1 (pt_val (isS T.b_isinstance T.b_str (pe_ix ix_list (pv 0) (pe_un un_neg pe_int) (fun _ _ => rfl)))))))
    (pss_one (ps_asg (pe_op op_add_str (pe_ix ix_list (pv 0) (pe_un un_neg pe_int) (fun _ _ => rfl)) (pv 1)) (pg_sub (pv 0) (pe_un un_neg pe_int) set_list)))
    (pss_one (ps_expr (pe_bm PySem.F.plainAttrs_list PySem.F.slot_list_append PySem.F.type_list_append mt_append (pv 0) (pa_cons (pv 1) pa_nil))))), ?_⟩
  obtain ⟨l, xs, c, rfl, hl, h⟩ := h
  refine ⟨_, rfl, Nat.zero_le _, fun a ha => ?_⟩
  have e1 : Same H (upd H a (.lst [])) := sNew ha _
  have hl1 := e1 _ _ hl
  have small : ∀ {n : Nat}, n ≤ 1000 → n < sizeLine := fun h => Nat.lt_of_le_of_lt h (by decide)
  have b1 : But l H (upd H a (.lst [])) := sBut e1
  rcases h with ⟨t, hx, ht, lay, lb, q⟩ | ⟨t, s, ht, lay, hs, q⟩
  · refine ⟨l, xs, _, a, rfl, rfl, SqL.of hl1, (ht.keep (sTups e1)).dp, Er.T.lay_dat t lay, SqL.of upd_same, _, rfl, ?_⟩
    rcases ht.last false lb with ⟨rfl, _⟩ | ⟨ys, p, us, rfl, hp⟩
    · exact iteF (iteF ⟨_, rfl, .inl ⟨rfl, _, SqL.of hl1⟩, _, rfl, l, _, _, rfl, rfl, hl1, small hx, q _ (b1.put _) upd_same⟩)
    · rw [if_pos rfl, show (!(ys ++ [V.ref p]).isEmpty) = true from by simp]
      refine iteT ⟨_, rfl, _, rfl, l, _, -1, _, rfl, rfl, SqL.of hl1, atI_last _ _, rfl, .inr ⟨p, us, rfl, e1 _ _ hp, _, rfl, ?_⟩⟩
      exact iteF ⟨_, rfl, .inl ⟨rfl, _, SqL.of hl1⟩, _, rfl, l, _, _, rfl, rfl, hl1, small hx, q _ (b1.put _) upd_same⟩
  · refine ⟨l, xs, _, a, rfl, rfl, SqL.of hl1, (ht.keep (sTups e1)).dp, Er.T.lay_dat _ lay, SqL.of upd_same, _, rfl, ?_⟩
    obtain ⟨ys, zs, rfl, k1, k2⟩ := ht.split
    obtain ⟨us, rfl, k3⟩ := k2
    obtain rfl : us = [] := k3
    rw [if_pos rfl, show (!(ys ++ [V.str s]).isEmpty) = true from by simp]
    refine iteT ⟨_, rfl, _, rfl, l, _, -1, _, rfl, rfl, SqL.of hl1, atI_last _ _, rfl, .inl ⟨s, rfl, _, rfl, ?_⟩⟩
    have sz : s.length + 1 ≤ sizeLine := by
      rw [len_tl]
      exact Nat.le_trans (show (tl s).length + 1 ≤ 101 by omega) (by decide)
    refine iteT ⟨_, rfl, _, rfl, l, _, -1, _, rfl, rfl, SqL.of hl1, atI_last _ _, _, rfl, s, _, rfl, rfl, sz, ?_⟩
    have ix : ixN (ys ++ [V.str s]).length (-1) = some ys.length := by
      unfold ixN
      rw [List.length_append, List.length_singleton, if_neg (by decide), if_pos (by omega)]
      congr 1
      omega
    refine ⟨_, rfl, _, rfl, l, _, _, ys.length, rfl, rfl, hl1, ix, q ys _ rfl k1 (b1.put _) ?_⟩
    rw [upd_same]
    simp

end
end Er
namespace Er
open PySem L2 TL
section
variable {P : Program} {w : World} {K : PySem.W.Frag} {mg : Str → Option Value} {base : Heap}
/-- a head of an open part, as it lies -/
def HdIs (H : Hp) (h : Str × Str) (v : V) : Prop := ∃ a, v = V.ref a ∧ H a = some (.tup [.str h.1, .str h.2]) ∧ okN h.1 ∧ h.2 ∈ signsL
theorem HdIs.keep {H H' : Hp} (e : Tups H H') {h : Str × Str} {v : V} (k : HdIs H h v) : HdIs H' h v := let ⟨a, h1, h2, h3⟩ := k; ⟨a, h1, e _ _ h2, h3⟩
/-- the lists of pieces of the texts that are open -/
def Stk (H0 H : Hp) (hl sl : Addr) : List T → List Addr → Prop
  | [], ls => ls = []
  | t :: st, ls => ∃ l ls', ls = l :: ls' ∧ H0 l = none ∧ l ≠ hl ∧ l ≠ sl ∧ l ∉ ls' ∧ (∃ xs, H l = some (.lst xs) ∧ TIs H t xs) ∧ Stk H0 H hl sl st ls'
theorem Stk.keep {H0 H H' : Hp} {hl sl : Addr} (e : Tups H H') : ∀ {st : List T} {ls : List Addr}, (∀ l ∈ ls, ∀ xs, H l = some (.lst xs) → H' l = some (.lst xs)) → Stk H0 H hl sl st ls → Stk H0 H' hl sl st ls
  | [], _, _, h => h
  | t :: st, _, k, ⟨l, ls', h1, h2, h3, h4, h5, ⟨xs, h6, h7⟩, h8⟩ => ⟨l, ls', h1, h2, h3, h4, h5, ⟨xs, k l (by rw [h1]; exact List.mem_cons_self) xs h6, h7.keep e⟩, Stk.keep e (fun m hm => k m (by rw [h1]; exact List.mem_cons_of_mem _ hm)) h8⟩
theorem Stk.lies {H0 H : Hp} {hl sl : Addr} : ∀ {st : List T} {ls : List Addr}, Stk H0 H hl sl st ls → ls.length = st.length ∧ ∀ l ∈ ls, H0 l = none ∧ l ≠ hl ∧ l ≠ sl ∧ ∃ xs, H l = some (.lst xs)
  | [], _, h => by
    rw [show _ = [] from h]
    exact ⟨rfl, fun l z => nomatch z⟩
  | t :: st, _, ⟨l, ls', h1, h2, h3, h4, h5, ⟨xs, h6, h7⟩, h8⟩ => by
    obtain ⟨k1, k2⟩ := Stk.lies h8
    rw [h1]
    refine ⟨by rw [List.length_cons, List.length_cons, k1], fun m hm => ?_⟩
    rcases List.mem_cons.mp hm with z | z
    · rw [z]
      exact ⟨h2, h3, h4, xs, h6⟩
    · exact k2 m z
structure TW (H0 H : Hp) (hl sl : Addr) (h : List (Str × Str)) (st : List T) (vs : List V) (ls : List Addr) : Prop where
  same : Same H0 H
  nh : H0 hl = none
  ns : H0 sl = none
  ne : hl ≠ sl
  lh : H hl = some (.lst vs.reverse)
  hd : Paired (HdIs H) h vs
  lk : H sl = some (.lst (ls.map V.ref).reverse)
  sk : Stk H0 H hl sl st ls
namespace TW
variable {H0 H H' : Hp} {hl sl : Addr} {h : List (Str × Str)} {st : List T} {vs : List V} {ls : List Addr}
theorem keep (W : TW H0 H hl sl h st vs ls) (e : Same H H') : TW H0 H' hl sl h st vs ls :=
  ⟨W.same.trans e, W.nh, W.ns, W.ne, e _ _ W.lh, Paired.mapP W.hd fun _ _ k => k.keep (sTups e), e _ _ W.lk, W.sk.keep (sTups e) fun l _ xs q => e _ _ q⟩
/-- what is written to nothing but l, which has come since -/
theorem same_but {l : Addr} (W : TW H0 H hl sl h st vs ls) (n : H0 l = none) (b : But l H H') : Same H0 H' := fun c o q => b c o (ne_of_none q n) (W.same c o q)
/-- the top list is written -/
theorem top {a a' : T} {l : Addr} {xs : List V} (W : TW H0 H hl sl h (a :: st) vs (l :: ls)) (b : But l H H') (hl' : H' l = some (.lst xs)) (ht : TIs H' a' xs) : TW H0 H' hl sl h (a' :: st) vs (l :: ls) := by
  obtain ⟨l1, ls1, h1, h2, h3, h4, h5, ⟨ys, h6, h7⟩, h8⟩ := W.sk
  obtain ⟨rfl, rfl⟩ := List.cons.inj h1
  have tu := b.tups h6
  exact ⟨W.same_but h2 b, W.nh, W.ns, W.ne, b _ _ (Ne.symm h3) W.lh, Paired.mapP W.hd fun _ _ k => k.keep tu, b _ _ (Ne.symm h4) W.lk,
    l, ls, rfl, h2, h3, h4, h5, ⟨xs, hl', ht⟩, h8.keep tu fun m hm zs q => b _ _ (fun z => h5 (z ▸ hm)) q⟩
/-- a head more -/
theorem pushH {n : Str × Str} {v : V} (W : TW H0 H hl sl h st vs ls) (k : HdIs H n v) : TW H0 (upd H hl (.lst (vs.reverse ++ [v]))) hl sl (n :: h) st (v :: vs) ls := by
  have b : But hl H (upd H hl (.lst (vs.reverse ++ [v]))) := (sBut (Same.refl H)).put _
  have tu := b.tups W.lh
  exact ⟨W.same_but W.nh b, W.nh, W.ns, W.ne, by rw [upd_same, List.reverse_cons], .cons (k.keep tu) (Paired.mapP W.hd fun _ _ k => k.keep tu), b _ _ (Ne.symm W.ne) W.lk,
    W.sk.keep tu fun l hl zs q => b _ _ (W.sk.lies.2 l hl).2.1 q⟩
/-- a new list more -/
theorem pushS {p : Addr} (W : TW H0 H hl sl h st vs ls) (hp : H p = some (.lst [])) (n : H0 p = none) (n1 : p ≠ hl) (n2 : p ≠ sl) (n3 : p ∉ ls) : TW H0 (upd H sl (.lst ((ls.map V.ref).reverse ++ [V.ref p]))) hl sl h (T.nil :: st) vs (p :: ls) := by
  have b : But sl H (upd H sl (.lst ((ls.map V.ref).reverse ++ [V.ref p]))) := (sBut (Same.refl H)).put _
  have tu := b.tups W.lk
  exact ⟨W.same_but W.ns b, W.nh, W.ns, W.ne, b _ _ W.ne W.lh, Paired.mapP W.hd fun _ _ k => k.keep tu, by rw [upd_same, List.map_cons, List.reverse_cons],
    p, ls, rfl, n, n1, n2, n3, ⟨[], b _ _ n2 hp, rfl⟩, W.sk.keep tu fun l hl zs q => b _ _ (W.sk.lies.2 l hl).2.2.1 q⟩
/-- a head less -/
theorem popH {n : Str × Str} {v : V} (W : TW H0 H hl sl (n :: h) st (v :: vs) ls) : HdIs H n v ∧ TW H0 (upd H hl (.lst vs.reverse)) hl sl h st vs ls := by
  have b : But hl H (upd H hl (.lst vs.reverse)) := (sBut (Same.refl H)).put _
  have tu := b.tups W.lh
  cases W.hd with
  | cons k t => exact ⟨k, W.same_but W.nh b, W.nh, W.ns, W.ne, upd_same, Paired.mapP t fun _ _ k => k.keep tu, b _ _ (Ne.symm W.ne) W.lk, W.sk.keep tu fun l hl zs q => b _ _ (W.sk.lies.2 l hl).2.1 q⟩
/-- a list less -/
theorem popS {a : T} {l : Addr} (W : TW H0 H hl sl h (a :: st) vs (l :: ls)) : TW H0 (upd H sl (.lst (ls.map V.ref).reverse)) hl sl h st vs ls ∧ ∃ xs, (upd H sl (.lst (ls.map V.ref).reverse)) l = some (.lst xs) ∧ TIs (upd H sl (.lst (ls.map V.ref).reverse)) a xs := by
  have b : But sl H (upd H sl (.lst (ls.map V.ref).reverse)) := (sBut (Same.refl H)).put _
  have tu := b.tups W.lk
  obtain ⟨l1, ls1, h1, h2, h3, h4, h5, ⟨ys, h6, h7⟩, h8⟩ := W.sk
  obtain ⟨rfl, rfl⟩ := List.cons.inj h1
  exact ⟨⟨W.same_but W.ns b, W.nh, W.ns, W.ne, b _ _ W.ne W.lh, Paired.mapP W.hd fun _ _ k => k.keep tu, upd_same, h8.keep tu fun m hm zs q => b _ _ (h8.lies.2 m hm).2.2.1 q⟩, ys, b _ _ h4 h6, h7.keep tu⟩
theorem add {a b : T} {l : Addr} {xs : List V} {v : V} (W : TW H0 H hl sl h (a :: st) vs (l :: ls)) (k6 : H l = some (.lst xs)) (k7 : TIs H a xs) (k : TIs H b [v]) : TW H0 (upd H l (.lst (xs ++ [v]))) hl sl h (a.app b :: st) vs (l :: ls) := by
  have bt : But l H (upd H l (.lst (xs ++ [v]))) := (sBut (Same.refl H)).put _
  have tu := bt.tups k6
  exact W.top bt upd_same ((k7.keep tu).app (k.keep tu))
theorem few (W : TW H0 H hl sl h st vs ls) : vs.reverse.length = h.length ∧ ((ls.map V.ref).reverse).length = st.length := by
  rw [List.length_reverse, List.length_reverse, List.length_map]
  exact ⟨(Paired.length W.hd).symm, W.sk.lies.1⟩
end TW
theorem at_top {l : Addr} {ls : List Addr} : atI (((l :: ls).map V.ref).reverse) (-1) = some (V.ref l) := by
  rw [List.map_cons, List.reverse_cons]
  exact atI_last _ _
theorem dp_each {H : Hp} : ∀ vs : List V, (∀ v ∈ vs, ∃ d, Dp K H v d ∧ PyData.canLay0 d = true) → ∃ ds, DpAll K H vs ds ∧ PyData.canLayAll0 ds = true
  | [], _ => ⟨[], .nil, by simp only [PyData.canLayAll0]⟩
  | v :: vs, h => by
    obtain ⟨d, h1, h2⟩ := h v List.mem_cons_self
    obtain ⟨ds, h3, h4⟩ := dp_each vs fun x hx => h x (List.mem_cons_of_mem _ hx)
    exact ⟨d :: ds, .cons h1 h3, by simp only [PyData.canLayAll0, h2, h4, Bool.and_self]⟩
theorem hd_each {H : Hp} {h : List (Str × Str)} {vs : List V} (k : Paired (HdIs H) h vs) : ∀ v ∈ vs, ∃ d, Dp K H v d ∧ PyData.canLay0 d = true := by
  induction k with
  | nil => exact fun v z => nomatch z
  | cons k t ih =>
    intro v hv
    rcases List.mem_cons.mp hv with z | z
    · rw [z]
      obtain ⟨a, rfl, h2, h3, h4⟩ := k
      exact ⟨_, .tup (SqT.of h2) (.cons (.str _) (.cons (.str _) .nil)), by simp only [PyData.canLay0, PyData.canLayAll0, okN_ok h3, sign_ok h4, Bool.and_self]⟩
    · exact ih v z
theorem hd_dp {H : Hp} {h : List (Str × Str)} {vs : List V} (k : Paired (HdIs H) h vs) : ∃ ds, DpAll K H vs.reverse ds ∧ PyData.canLayAll0 ds = true := dp_each vs.reverse fun v hv => hd_each k v (List.mem_reverse.mp hv)

/-! ### text_at -/
abbrev sTextAt : Stmt := topS 49
theorem scTextAt : FnScope ["line", "at", "row", "heads", "stack", "name", "sign", "own"] ["line", "at", "row"] (defScope sTextAt) := ⟨rfl, rfl, rfl, by decide +kernel, rfl, by decide +kernel, by decide +kernel⟩
def spTextAt : Sp := fun vs H Q _ => ∃ (z : Str) (i : Int) (p : List Nat) (t : T) (rv : V), vs = [.str z, .int i, rv] ∧ i = (p.length : Int) ∧ tl z = p ++ t.wr ∧ okT t ∧ z.length ≤ sizeLine ∧
  ∀ q H', Same H H' → H q = none → TAt H' q t → Q (.ref q) H'
theorem ok_text_at {f f1 f2 f3 : Addr} {fd fd1 fd2 fd3 : FuncData} (F : Fun K "text_at" "text_at" sTextAt f fd) (T : Txt K mg) (D1 : Df K mg "need_sign" sNeedSign ["line", "at", "signs", "row"] f1 fd1) (G1 : FnOk P w K mg base CX0 1 f1 fd1 ["line", "at", "signs", "row"] spNeedSign)
    (D2 : Df K mg "head_at" sHeadAt ["line", "at", "row"] f2 fd2) (G2 : FnOk P w K mg base CX0 3 f2 fd2 ["line", "at", "row"] spHeadAt) (D3 : Df K mg "with_plain" sWithPlain ["pieces", "sign"] f3 fd3) (G3 : FnOk P w K mg base CX0 1 f3 fd3 ["pieces", "sign"] spWithPlain) :
    FnOk P w K mg base CX0 4 f fd ["line", "at", "row"] spTextAt := by
  refine F.ok scTextAt (fun vs H Q E h => ?_) (fun cdv A outer s H vs Q E hr h => ?_)
  · obtain ⟨z, i, p, t, rv, rfl, _⟩ := h
    rfl
  have nd := scTextAt.nd
  have hr1 : Room 1 (A.deeper (PyProof.Rows.envOfC "text_at" (defScope sTextAt) s.heap.objs.size f cdv)) := hr.mono (by decide)
  refine ⟨_, pss_cons (ps_par (i := 3) (j := 4) rfl nd rfl rfl (by decide) rfl rfl (pa_cons (pe_lst pa_nil) (pa_cons (pe_lst (pa_cons (pe_lst pa_nil) pa_nil)) pa_nil)) (by rfl))
    (pss_cons (ps_while PassesOwn.never (pt_cmpR op_lt (pv 1) (lenS T.b_len (pv 0)) (nomark _))
      (pss_one (ps_if (pt_cmpR op_eq (pe_ix ix_str (pv 0) (pv 1) (fun _ _ => rfl)) (gS T.c_DOLLAR) (nomark _))
        (pss_cons (ps_asg (cal D2 G2 hr (pa_cons (pv 0) (pa_cons (pv 1) (pa_cons (pv 2) pa_nil)))) (pg_tup rfl (pgs_cons (pg_name (i := 5) nd rfl (Or.inl rfl)) (pgs_cons (pg_name (i := 6) nd rfl (Or.inl rfl)) (pgs_cons (pg_name (i := 1) nd rfl (Or.inl rfl)) pgs_nil)))))
          (pss_one (ps_if (pt_cmpR op_eq (pv 6) pe_str (nomark _))
            (pss_one (ps_expr (pe_bm PySem.F.plainAttrs_list PySem.F.slot_list_append PySem.F.type_list_append mt_append (pe_ix ix_list (pv 4) (pe_un un_neg pe_int) (fun _ _ => rfl)) (pa_cons (pe_tup (pa_cons (pv 5) (pa_cons (pv 6) (pa_cons (pe_tup pa_nil) pa_nil)))) pa_nil))))
            (pss_cons (ps_expr (pe_bm PySem.F.plainAttrs_list PySem.F.slot_list_append PySem.F.type_list_append mt_append (pv 3) (pa_cons (pe_tup (pa_cons (pv 5) (pa_cons (pv 6) pa_nil))) pa_nil)))
              (pss_one (ps_expr (pe_bm PySem.F.plainAttrs_list PySem.F.slot_list_append PySem.F.type_list_append mt_append (pv 4) (pa_cons (pe_lst pa_nil) pa_nil))))))))
        (pss_one (ps_if (PW.pt (pw_and (pt_cmpR op_eq (pe_ix ix_str (pv 0) (pv 1) (fun _ _ => rfl)) (gS T.c_END) (nomark _)) (pw_and1 (pt_cmpR (ne_void hr1) (pv 3) (pe_lst pa_nil) (nomark _)))))
          (pss_cons (ps_asg (pe_bm0 PySem.F.plainAttrs_list PySem.F.slot_list_pop PySem.F.type_list_pop mt_pop (pv 3)) (pg_tup rfl (pgs_cons (pg_name (i := 5) nd rfl (Or.inl rfl)) (pgs_cons (pg_name (i := 6) nd rfl (Or.inl rfl)) pgs_nil))))
          (pss_cons (ps_set (i := 7) nd rfl (Or.inl rfl) (pe_callTy call_tuple_of rfl T.b_tuple boot_tupT (pa_cons (pe_bm0 PySem.F.plainAttrs_list PySem.F.slot_list_pop PySem.F.type_list_pop mt_pop (pv 4)) pa_nil)))
          (pss_cons (ps_expr (pe_bm PySem.F.plainAttrs_list PySem.F.slot_list_append PySem.F.type_list_append mt_append (pe_ix ix_list (pv 4) (pe_un un_neg pe_int) (fun _ _ => rfl)) (pa_cons (pe_tup (pa_cons (pv 5) (pa_cons (pv 6) (pa_cons (pv 7) pa_nil)))) pa_nil)))
          (pss_one (ps_aug (i := 1) nd rfl (Or.inl rfl) pe_int ip_add)))))
          (pss_cons (ps_expr (cal D1 G1 hr1 (pa_cons (pv 0) (pa_cons (pv 1) (pa_cons (gS T.c_PLAIN_SIGNS) (pa_cons (pv 2) pa_nil))))))
          (pss_cons (ps_expr (cal D3 G3 hr1 (pa_cons (pe_ix ix_list (pv 4) (pe_un un_neg pe_int) (fun _ _ => rfl)) (pa_cons (pe_ix ix_str (pv 0) (pv 1) (fun _ _ => rfl)) pa_nil))))
          (pss_one (ps_aug (i := 1) nd rfl (Or.inl rfl) pe_int ip_add)))))))))
    (pss_cons (ps_if (pt_cmpR (ne_void hr1) (pv 3) (pe_lst pa_nil) (nomark _)) (pss_one ps_never) pss_nil)
    (pss_one (ps_ret (pe_callTy call_tuple_of rfl T.b_tuple boot_tupT (pa_cons (pe_ix ix_list (pv 4) pe_int (fun _ _ => rfl)) pa_nil)))))), ?_⟩
  obtain ⟨z, i, p0, t, rv, rfl, rfl, hz0, ok, hs, q⟩ := h
  have big : ∀ {n : Nat}, n ≤ 1000 → n < sizeLine := fun h => Nat.lt_of_le_of_lt h (by decide)
  refine ⟨Nat.zero_le _, fun hl hhl => ⟨Nat.zero_le _, fun l0 hl0 => ⟨Nat.le_of_lt (big (show 1 ≤ 1000 by decide)), fun sl hsl => ⟨_, _, rfl, ?_⟩⟩⟩⟩
  refine ⟨fun m σ H' => ∃ p r h st vs ls x5 x6 x7, tl z = p ++ r ∧ m = r.length ∧ σ = [some (.str z), some (.int ((p.length : Nat) : Int)), some rv, some (.ref hl), some (.ref sl), x5, x6, x7] ∧ Run h st r t ∧ TW H H' hl sl h st vs ls, ⟨_, p0, t.wr, [], [Er.T.nil], [], [l0], none, none, none, hz0, rfl, rfl, run_okT ok, ?_⟩, ?_⟩
  · have n1 : l0 ≠ hl := fun e => by
      rw [e, upd_same] at hl0
      cases hl0
    have n2 : sl ≠ l0 := fun e => by
      rw [e, upd_same] at hsl
      cases hsl
    rw [upd_ne n2] at hsl
    have n3 : sl ≠ hl := fun e => by
      rw [e, upd_same] at hsl
      cases hsl
    rw [upd_ne n3] at hsl
    rw [upd_ne n1] at hl0
    refine ⟨sPut (sPut (sNew hhl _) hl0 _) hsl _, hhl, hsl, Ne.symm n3, ?_, .nil, upd_same, l0, [], rfl, hl0, n1, Ne.symm n2, (fun z => nomatch z), ⟨[], ?_, rfl⟩, rfl⟩
    · rw [upd_ne (Ne.symm n3), upd_ne (Ne.symm n1), upd_same]
      rfl
    · rw [upd_ne (Ne.symm n2), upd_same]
  rintro m σ H' ⟨p, r, h, st, vs, ls, x5, x6, x7, hz, rfl, rfl, run, W⟩
  refine ⟨_, rfl, _, rfl, hs, _, _, rfl, rfl, _, rfl, ?_⟩
  have hlen := len_at hz
  have go : ∀ c r', r = c :: r' → decide ((p.length : Int) < (z.length : Int)) = true := fun c r' e => decide_eq_true (by rw [e, List.length_cons] at hlen; omega)
  cases run with
  | done =>
    have e1 : decide ((p.length : Int) < (z.length : Int)) = false := decide_eq_false (by rw [List.length_nil] at hlen; omega)
    rw [e1]
    refine iteF ⟨_, rfl, Nat.zero_le _, fun a ha => ?_⟩
    have hd := W.hd
    cases hd
    have W1 := W.keep (sNew ha (.lst []))
    refine ⟨hl, [], [], a, rfl, rfl, SqL.of W1.lh, .nil, (by simp only [PyData.canLayAll0]), SqL.of upd_same, _, rfl, iteF ?_⟩
    obtain ⟨l, ls1, rfl, k2, k3, k4, k5, ⟨xs, k6, k7⟩, k8⟩ := W1.sk
    obtain rfl : ls1 = [] := k8
    refine ⟨_, rfl, sl, _, 0, _, rfl, rfl, SqL.of W1.lk, atI_nat rfl, l, xs, rfl, .inl ⟨SqL.of k6, fun b hb => q b _ (W1.same.trans (sNew hb _)) (sNone W1.same hb) ⟨xs, upd_same, k7.keep (Tups.new hb _)⟩⟩⟩
  | @empty h a st n r x hn hl1 k =>
    rw [go _ _ rfl]
    obtain ⟨l, ls1, rfl, k2, k3, k4, k5, ⟨xs, k6, k7⟩, k8⟩ := id W.sk
    have small : xs.length < sizeLine := by
      rw [k7.len]
      exact big (by omega)
    refine iteT ⟨_, fun _ _ z => z, _, rfl, _, rfl, z, _, 36, rfl, rfl, hs, at_here hz, rfl, _, rfl, ?_⟩
    rw [ch_eq tl_dollar]
    refine iteT ⟨_, rfl, _, rfl, _, rfl, z, _, p, n, "", [125], r, rv, rfl, rfl, hz, hn, .inl ⟨rfl, rfl⟩, hs, fun a1 H1 e1 _ h1 => ⟨a1, _, rfl, SqT.of h1, rfl, _, _, rfl, _, _, rfl, _, _, rfl, rfl, ?_⟩⟩
    have W1 := W.keep e1
    refine ⟨_, rfl, rfl, _, rfl, ?_⟩
    rw [decide_eq_true (rfl : V.str "" = V.str "")]
    refine iteT ⟨_, rfl, _, rfl, sl, _, -1, _, rfl, rfl, SqL.of W1.lk, at_top, .inl ⟨rfl, _, SqL.of (e1 _ _ k6)⟩, _, rfl, _, rfl, Nat.zero_le _, fun b hb => ⟨Nat.le_of_lt (big (show 3 ≤ 1000 by decide)), fun c hc => ?_⟩⟩
    have W3 := (W1.keep (sNew hb (.tup []))).keep (sNew hc (.tup [.str n, .str "", .ref b]))
    have e3 : Same H' (upd (upd H1 b (.tup [])) c (.tup [.str n, .str "", .ref b])) := (e1.trans (sNew hb _)).trans (sNew hc _)
    refine ⟨l, xs, _, rfl, rfl, e3 _ _ k6, small, r.length, by simp only [List.length_cons, List.length_append]; omega, p ++ 36 :: 123 :: (tl n ++ [125]), r, h, _, vs, l :: ls1, _, _, x7, ?_, rfl, rfl, k, ?_⟩
    · rw [hz]
      simp only [List.append_assoc, List.cons_append, List.nil_append]
    · exact W3.add (e3 _ _ k6) (k7.keep (sTups e3)) ⟨c, b, [], [], rfl, upd_same, sNew hc _ _ _ upd_same, rfl, rfl⟩
  | @head h a st n s r x hn hs1 he hh hst k =>
    rw [go _ _ rfl]
    have few := W.few
    refine iteT ⟨_, fun _ _ z => z, _, rfl, _, rfl, z, _, 36, rfl, rfl, hs, at_here hz, rfl, _, rfl, ?_⟩
    rw [ch_eq tl_dollar]
    refine iteT ⟨_, rfl, _, rfl, _, rfl, z, _, p, n, s, tl s, r, rv, rfl, rfl, hz, hn, .inr ⟨hs1, he, rfl⟩, hs, fun a1 H1 e1 _ h1 => ⟨a1, _, rfl, SqT.of h1, rfl, _, _, rfl, _, _, rfl, _, _, rfl, rfl, ?_⟩⟩
    have W1 := W.keep e1
    refine ⟨_, rfl, rfl, _, rfl, ?_⟩
    rw [decide_eq_false (fun e => he (V.str.inj e))]
    refine iteF ⟨_, rfl, .inl ⟨rfl, _, SqL.of W1.lh⟩, _, rfl, _, rfl, Nat.le_of_lt (big (show 2 ≤ 1000 by decide)), fun c hc => ?_⟩
    have W2 := W1.keep (sNew hc (.tup [.str n, .str s]))
    refine ⟨hl, vs.reverse, _, rfl, rfl, W2.lh, by rw [few.1]; exact big (by omega), ?_⟩
    have W3 := W2.pushH (n := (n, s)) (v := .ref c) ⟨c, rfl, upd_same, hn, hs1⟩
    refine ⟨_, rfl, .inl ⟨rfl, _, SqL.of W3.lk⟩, Nat.zero_le _, fun b hb => ?_⟩
    have W4 := W3.keep (sNew hb (.lst []))
    refine ⟨sl, _, _, rfl, rfl, W4.lk, by rw [few.2, List.length_cons]; exact big (by omega), r.length, by simp only [List.length_cons, List.length_append]; omega, p ++ 36 :: 123 :: (tl n ++ tl s), r, (n, s) :: h, _, V.ref c :: vs, b :: ls, _, _, x7, ?_, rfl, rfl, k, ?_⟩
    · rw [hz]
      simp only [List.append_assoc, List.cons_append, List.nil_append]
    · refine W4.pushS upd_same (sNone W3.same hb) (fun e => ?_) (fun e => ?_) (fun e => ?_)
      · rw [e, W3.lh] at hb
        cases hb
      · rw [e, W3.lk] at hb
        cases hb
      · obtain ⟨_, _, _, ys, q⟩ := W3.sk.lies.2 b e
        rw [q] at hb
        cases hb
  | @close h a b st n s r x hl1 k =>
    rw [go _ _ rfl]
    refine iteT ⟨_, fun _ _ z => z, _, rfl, _, rfl, z, _, 125, rfl, rfl, hs, at_here hz, rfl, _, rfl, ?_⟩
    rw [ch_ne tl_dollar (by decide)]
    refine iteF ⟨_, rfl, _, rfl, z, _, 125, rfl, rfl, hs, at_here hz, rfl, _, rfl, ?_⟩
    rw [ch_eq tl_end]
    refine iteT ⟨_, rfl, Nat.zero_le _, fun a0 ha0 => ?_⟩
    have W0 := W.keep (sNew ha0 (.lst []))
    obtain ⟨ds, d1, d2⟩ := hd_dp (K := K) W0.hd
    refine ⟨hl, vs.reverse, ds, a0, rfl, rfl, SqL.of W0.lh, d1, d2, SqL.of upd_same, _, rfl, ?_⟩
    obtain ⟨v, vs1, rfl⟩ : ∃ v vs1, vs = v :: vs1 := by
      cases W.hd with
      | cons _ _ => exact ⟨_, _, rfl⟩
    obtain ⟨l, ls0, rfl, _, _, _, _, _, l2, ls1, rfl, _⟩ := id W.sk
    rw [if_pos rfl, show (!((v :: vs1).reverse).isEmpty) = true from by simp]
    have lh := W0.lh
    rw [List.reverse_cons] at lh
    refine iteT ⟨_, rfl, .inl ⟨rfl, _, SqL.of lh⟩, hl, _, v, rfl, rfl, lh, by simp, ?_⟩
    rw [List.dropLast_concat]
    obtain ⟨⟨a1, rfl, h1, hn, hs1⟩, W2⟩ := W0.popH
    have tu2 : Tups (upd H' a0 (.lst [])) (upd (upd H' a0 (.lst [])) hl (.lst vs1.reverse)) := Tups.put W0.lh _
    refine ⟨a1, _, rfl, SqT.of (tu2 _ _ h1), rfl, _, _, rfl, _, _, rfl, rfl, ?_⟩
    have lk := W2.lk
    rw [List.map_cons, List.reverse_cons] at lk
    refine ⟨_, rfl, .inl ⟨rfl, _, SqL.of lk⟩, sl, _, .ref l, rfl, rfl, lk, by simp, ?_⟩
    rw [List.dropLast_concat]
    obtain ⟨W3, xs, k6, k7⟩ := W2.popS
    refine ⟨l, xs, rfl, .inl ⟨SqL.of k6, fun o ho => ?_⟩⟩
    have W4 := W3.keep (sNew ho (.tup xs))
    have k7' := k7.keep (Tups.new ho (.tup xs))
    obtain ⟨l3, ls3, q1, m2, m3, m4, m5, ⟨ys, m6, m7⟩, m8⟩ := id W4.sk
    obtain ⟨rfl, rfl⟩ := List.cons.inj q1
    have small : ys.length < sizeLine := by
      rw [m7.len]
      exact big (by omega)
    refine ⟨_, rfl, _, rfl, sl, _, -1, _, rfl, rfl, SqL.of W4.lk, at_top, .inl ⟨rfl, _, SqL.of m6⟩, _, rfl, _, rfl, _, rfl, Nat.le_of_lt (big (show 3 ≤ 1000 by decide)), fun c hc => ?_⟩
    have W5 := W4.keep (sNew hc (.tup [.str n, .str s, .ref o]))
    have e5 : Same _ _ := sNew hc (.tup [.str n, .str s, .ref o])
    refine ⟨l2, ys, _, rfl, rfl, e5 _ _ m6, small, _, rfl, _, _, rfl, rfl, r.length, Nat.lt_succ_self _, p ++ [125], r, h, _, vs1, l2 :: ls1, some (.str n), some (.str s), some (.ref o), ?_, rfl, ?_, k, ?_⟩
    · rw [hz]
      simp only [List.append_assoc, List.cons_append, List.nil_append]
    · rw [List.length_append]
      rfl
    · exact W5.add (e5 _ _ m6) (m7.keep (sTups e5)) ⟨c, o, xs, [], rfl, upd_same, e5 _ _ upd_same, k7'.keep (sTups e5), rfl⟩
  | @fresh h a st c r x hl1 la hp hc k =>
    rw [go _ _ rfl]
    obtain ⟨l, ls1, rfl, k2, k3, k4, k5, ⟨xs, k6, k7⟩, k8⟩ := id W.sk
    have small : xs.length ≤ 1000 := by
      rw [k7.len]
      omega
    have c1 : c ≠ 36 := fun e => absurd (e ▸ hc) (by decide)
    have c2 : c ≠ 125 := fun e => absurd (e ▸ hc) (by decide)
    refine iteT ⟨_, fun _ _ z => z, _, rfl, _, rfl, z, _, c, rfl, rfl, hs, at_here hz, rfl, _, rfl, ?_⟩
    rw [ch_ne tl_dollar c1]
    refine iteF ⟨_, rfl, _, rfl, z, _, c, rfl, rfl, hs, at_here hz, rfl, _, rfl, ?_⟩
    rw [ch_ne tl_end c2]
    refine iteF (iteF ⟨_, rfl, _, rfl, _, rfl, z, _, p, r, c, sPL, rv, rfl, rfl, hz, by rw [tl_pl]; exact hc, hs, ?_⟩)
    refine ⟨_, rfl, _, rfl, sl, _, -1, _, rfl, rfl, SqL.of W.lk, at_top, _, rfl, _, rfl, z, _, c, rfl, rfl, hs, at_here hz, l, xs, c, rfl, k6, .inl ⟨a, small, k7, la, hp, fun H1 b1 h1 => ?_⟩⟩
    refine ⟨_, rfl, _, _, rfl, rfl, r.length, Nat.lt_succ_self _, p ++ [c], r, h, _, vs, l :: ls1, x5, x6, x7, ?_, rfl, ?_, k, ?_⟩
    · rw [hz]
      simp only [List.append_assoc, List.cons_append, List.nil_append]
    · rw [List.length_append]
      rfl
    · exact W.top b1 h1 ((k7.keep (b1.tups k6)).app ⟨[], rfl, rfl⟩)
  | @more h a s st c r x hl1 la hc k =>
    rw [go _ _ rfl]
    obtain ⟨l, ls1, rfl, k2, k3, k4, k5, ⟨xs, k6, k7⟩, k8⟩ := id W.sk
    have c1 : c ≠ 36 := fun e => absurd (e ▸ hc) (by decide)
    have c2 : c ≠ 125 := fun e => absurd (e ▸ hc) (by decide)
    refine iteT ⟨_, fun _ _ z => z, _, rfl, _, rfl, z, _, c, rfl, rfl, hs, at_here hz, rfl, _, rfl, ?_⟩
    rw [ch_ne tl_dollar c1]
    refine iteF ⟨_, rfl, _, rfl, z, _, c, rfl, rfl, hs, at_here hz, rfl, _, rfl, ?_⟩
    rw [ch_ne tl_end c2]
    refine iteF (iteF ⟨_, rfl, _, rfl, _, rfl, z, _, p, r, c, sPL, rv, rfl, rfl, hz, by rw [tl_pl]; exact hc, hs, ?_⟩)
    refine ⟨_, rfl, _, rfl, sl, _, -1, _, rfl, rfl, SqL.of W.lk, at_top, _, rfl, _, rfl, z, _, c, rfl, rfl, hs, at_here hz, l, xs, c, rfl, k6, .inr ⟨a, s, k7, la, hl1, fun ys H1 _ k b1 h1 => ?_⟩⟩
    refine ⟨_, rfl, _, _, rfl, rfl, r.length, Nat.lt_succ_self _, p ++ [c], r, h, _, vs, l :: ls1, x5, x6, x7, ?_, rfl, ?_, ‹Run _ _ r t›, ?_⟩
    · rw [hz]
      simp only [List.append_assoc, List.cons_append, List.nil_append]
    · rw [List.length_append]
      rfl
    · exact W.top b1 h1 ((k.keep (b1.tups k6)).app ⟨[], rfl, rfl⟩)
end
end Er
namespace Er
open PySem L2 TL
section
variable {P : Program} {w : World} {K : PySem.W.Frag} {mg : Str → Option Value} {base : Heap}

/-! ### word_at -/
abbrev sWordAt : Stmt := topS 50
theorem scWordAt : FnScope ["line", "word", "row", "at", "sign"] ["line", "word", "row"] (defScope sWordAt) := ⟨rfl, rfl, rfl, by decide +kernel, rfl, by decide +kernel, by decide +kernel⟩
def spWordAt : Sp := fun vs H Q _ => ∃ (z wd : Str) (r : List Nat) (rv : V), vs = [.str z, .str wd, rv] ∧ tl z = tl wd ++ 32 :: r ∧ z.length ≤ sizeLine ∧ ∀ H', Same H H' → Q (.int ((wd.length : Int) + 1)) H'
theorem tl_blank : tl (" " : Str) = [32] := by decide +kernel
theorem ok_word_at {f f1 : Addr} {fd fd1 : FuncData} (F : Fun K "word_at" "word_at" sWordAt f fd) (T : Txt K mg) (D1 : Df K mg "need_sign" sNeedSign ["line", "at", "signs", "row"] f1 fd1) (G1 : FnOk P w K mg base CX0 1 f1 fd1 ["line", "at", "signs", "row"] spNeedSign) :
    FnOk P w K mg base CX0 2 f fd ["line", "word", "row"] spWordAt := by
  refine F.ok scWordAt (fun vs H Q E h => ?_) (fun cdv A outer s H vs Q E hr h => ?_)
  · obtain ⟨z, wd, r, rv, rfl, _⟩ := h
    rfl
  have nd := scWordAt.nd
  refine ⟨_, pss_cons (ps_for PassesOwn.never rfl (pi_enumS rfl T.b_enumerate (pa_cons (pe_op op_add_str (pv 1) (gS T.c_BLANK)) pa_nil)) (pg_tup rfl (pgs_cons (pg_name (i := 3) nd rfl (Or.inl rfl)) (pgs_cons (pg_name (i := 4) nd rfl (Or.inl rfl)) pgs_nil)))
      (pss_one (ps_expr (cal D1 G1 hr (pa_cons (pv 0) (pa_cons (pv 3) (pa_cons (pv 4) (pa_cons (pv 2) pa_nil))))))))
    (pss_one (ps_ret (pe_op op_add (lenS T.b_len (pv 1)) pe_int))), ?_⟩
  obtain ⟨z, wd, r, rv, rfl, hz, hs, q⟩ := h
  have ln := len_at (p := tl wd) (r := 32 :: r) hz
  rw [List.length_cons, ← len_tl] at ln
  have b1 : (" " : Str).length = 1 := by decide +kernel
  refine ⟨_, rfl, _, _, rfl, rfl, by rw [b1]; omega, _, rfl, ?_⟩
  refine for_it walk_G (fun i σ H' => Same H H' ∧ ∃ x y, σ = [some (.str z), some (.str wd), some rv, x, y]) ⟨Same.refl H, none, none, rfl⟩ (fun i σ H' _ z => trivial) ?_ ?_
  · rintro i v σ H1 H2 hi ⟨e1, x, y, rfl⟩ ⟨tp, z2, rfl, fresh, rfl, c, hc, rfl⟩
    have e2 : Same H (upd H1 tp (.tup [.int (i : Nat), .str ⟨#[c]⟩])) := e1.trans (sNew fresh _)
    have hc' : (tl (wd ++ (" " : Str)))[i]? = some c := by
      rw [← hc]
      simp [tl]
    rw [tl_append, tl_blank] at hc'
    have hi' : i < (tl wd ++ [32]).length := (List.getElem?_eq_some_iff.mp hc').1
    have hz' : tl z = (tl z).take i ++ c :: (tl z).drop (i + 1) := by
      have : (tl z)[i]? = some c := by
        rw [hz, show tl wd ++ 32 :: r = (tl wd ++ [32]) ++ r by simp, List.getElem?_append_left hi']
        exact hc'
      obtain ⟨h1, h2⟩ := List.getElem?_eq_some_iff.mp this
      rw [← h2, ← List.drop_eq_getElem_cons h1, List.take_append_drop]
    refine ⟨tp, _, rfl, SqT.of upd_same, rfl, _, _, rfl, _, _, rfl, rfl, ?_⟩
    refine ⟨_, rfl, _, rfl, _, rfl, _, rfl, z, _, (tl z).take i, _, c, ⟨#[c]⟩, rv, rfl, ?_, hz', List.mem_singleton.mpr rfl, hs, e2, _, _, rfl⟩
    rw [List.length_take, Nat.min_eq_left]
    rw [List.length_append, List.length_singleton] at hi'
    rw [hz, List.length_append, List.length_cons]
    omega
  · rintro σ H1 ⟨e1, x, y, rfl⟩
    exact ⟨_, rfl, Nat.le_trans (by omega) hs, _, _, rfl, rfl, q _ e1⟩

/-! ### row_told -/
abbrev sRowTold : Stmt := topS 51
theorem scRowTold : FnScope ["line", "row", "name", "at"] ["line", "row"] (defScope sRowTold) := ⟨rfl, rfl, rfl, by decide +kernel, rfl, by decide +kernel, by decide +kernel⟩
def spRowTold : Sp := fun vs H Q _ => ∃ (z : Str) (r : Rw) (rv : V), vs = [.str z, rv] ∧ tl z = r.wr ∧ r.ok ∧ z.length ≤ sizeLine ∧ ∀ q H', Same H H' → H q = none → RIs H' r (.ref q) → Q (.ref q) H'
theorem at_c : atI ("check" : Str).cps.toList 0 = some 99 := by decide +kernel
theorem at_d : atI ("drop" : Str).cps.toList 0 = some 100 := by decide +kernel
theorem tl_heads : tl (sCAP ++ (⟨#[100]⟩ : Str) ++ (⟨#[99]⟩ : Str)) = capL ++ [100, 99] := by decide +kernel
theorem ok_row_told {f f1 f2 f3 f4 : Addr} {fd fd1 fd2 fd3 fd4 : FuncData} (F : Fun K "row_told" "row_told" sRowTold f fd) (T : Txt K mg) (D1 : Df K mg "need_sign" sNeedSign ["line", "at", "signs", "row"] f1 fd1) (G1 : FnOk P w K mg base CX0 1 f1 fd1 ["line", "at", "signs", "row"] spNeedSign)
    (D2 : Df K mg "word_at" sWordAt ["line", "word", "row"] f2 fd2) (G2 : FnOk P w K mg base CX0 2 f2 fd2 ["line", "word", "row"] spWordAt) (D3 : Df K mg "name_at" sNameAt ["line", "at", "row"] f3 fd3) (G3 : FnOk P w K mg base CX0 2 f3 fd3 ["line", "at", "row"] spNameAt)
    (D4 : Df K mg "text_at" sTextAt ["line", "at", "row"] f4 fd4) (G4 : FnOk P w K mg base CX0 4 f4 fd4 ["line", "at", "row"] spTextAt) : FnOk P w K mg base CX0 5 f fd ["line", "row"] spRowTold := by
  refine F.ok scRowTold (fun vs H Q E h => ?_) (fun cdv A outer s H vs Q E hr h => ?_)
  · obtain ⟨z, r, rv, rfl, _⟩ := h
    rfl
  have nd := scRowTold.nd
  have hr1 : Room 1 (A.deeper (PyProof.Rows.envOfC "row_told" (defScope sRowTold) s.heap.objs.size f cdv)) := hr.mono (by decide)
  have hr2 : Room 2 (A.deeper (PyProof.Rows.envOfC "row_told" (defScope sRowTold) s.heap.objs.size f cdv)) := hr.mono (by decide)
  refine ⟨_, pss_cons (ps_expr (cal D1 G1 hr1 (pa_cons (pv 0) (pa_cons pe_int (pa_cons (pe_op op_add_str (pe_op op_add_str (gS T.c_CAPITALS) (pe_ix ix_str (gS T.c_DROP) pe_int (fun _ _ => rfl))) (pe_ix ix_str (gS T.c_CHECK) pe_int (fun _ _ => rfl))) (pa_cons (pv 1) pa_nil))))))
    (pss_cons (ps_if (pt_cmpR op_eq (pe_ix ix_str (pv 0) pe_int (fun _ _ => rfl)) (pe_ix ix_str (gS T.c_CHECK) pe_int (fun _ _ => rfl)) (nomark _))
      (pss_one (ps_ret (pe_tup (pa_cons (gS T.c_CHECK) (pa_cons (cal D4 G4 hr (pa_cons (pv 0) (pa_cons (cal D2 G2 hr2 (pa_cons (pv 0) (pa_cons (gS T.c_CHECK) (pa_cons (pv 1) pa_nil)))) (pa_cons (pv 1) pa_nil)))) pa_nil))))) pss_nil)
    (pss_cons (ps_if (pt_cmpR op_eq (pe_ix ix_str (pv 0) pe_int (fun _ _ => rfl)) (pe_ix ix_str (gS T.c_DROP) pe_int (fun _ _ => rfl)) (nomark _))
      (pss_cons (ps_asg (cal D3 G3 hr2 (pa_cons (pv 0) (pa_cons (cal D2 G2 hr2 (pa_cons (pv 0) (pa_cons (gS T.c_DROP) (pa_cons (pv 1) pa_nil)))) (pa_cons (pv 1) pa_nil)))) (pg_tup rfl (pgs_cons (pg_name (i := 2) nd rfl (Or.inl rfl)) (pgs_cons (pg_name (i := 3) nd rfl (Or.inl rfl)) pgs_nil))))
        (pss_cons (ps_if (pt_cmpR op_lt (pv 3) (lenS T.b_len (pv 0)) (nomark _)) (pss_one ps_never) pss_nil)
        (pss_one (ps_ret (pe_tup (pa_cons (gS T.c_DROP) (pa_cons (pv 2) pa_nil))))))) pss_nil)
    (pss_cons (ps_asg (cal D3 G3 hr2 (pa_cons (pv 0) (pa_cons pe_int (pa_cons (pv 1) pa_nil)))) (pg_tup rfl (pgs_cons (pg_name (i := 2) nd rfl (Or.inl rfl)) (pgs_cons (pg_name (i := 3) nd rfl (Or.inl rfl)) pgs_nil))))
    (pss_cons (ps_expr (cal D1 G1 hr1 (pa_cons (pv 0) (pa_cons (pv 3) (pa_cons (pe_op op_add_str (gS T.c_EQUALS) (gS T.c_ASKED)) (pa_cons (pv 1) pa_nil))))))
    (pss_cons (ps_if (pt_cmpR op_eq (pe_ix ix_str (pv 0) (pv 3) (fun _ _ => rfl)) (gS T.c_EQUALS) (nomark _))
      (pss_one (ps_ret (pe_tup (pa_cons (gS T.c_SET) (pa_cons (pv 2) (pa_cons (cal D4 G4 hr (pa_cons (pv 0) (pa_cons (pe_op op_add (pv 3) pe_int) (pa_cons (pv 1) pa_nil)))) pa_nil)))))) pss_nil)
    (pss_cons (ps_expr (cal D1 G1 hr1 (pa_cons (pv 0) (pa_cons (pe_op op_add (pv 3) pe_int) (pa_cons (gS T.c_EQUALS) (pa_cons (pv 1) pa_nil))))))
    (pss_one (ps_ret (pe_tup (pa_cons (gS T.c_GIVE) (pa_cons (pv 2) (pa_cons (cal D4 G4 hr (pa_cons (pv 0) (pa_cons (pe_op op_add (pv 3) pe_int) (pa_cons (pv 1) pa_nil)))) pa_nil)))))))))))), ?_⟩
  obtain ⟨z, r, rv, rfl, hz, ok, hs, q⟩ := h
  obtain ⟨c, rest, ec, mem⟩ : ∃ c rest, r.wr = c :: rest ∧ c ∈ capL ++ [100, 99] := by
    cases r with
    | drop n => exact ⟨100, _, rfl, by decide⟩
    | chk t => exact ⟨99, _, rfl, by decide⟩
    | set n t =>
      obtain ⟨c, cs, e, hc, _⟩ := okN_cons ok.1
      exact ⟨c, cs ++ 61 :: t.wr, by show tl n ++ 61 :: t.wr = _; rw [e]; rfl, List.mem_append_left _ hc⟩
    | give n t =>
      obtain ⟨c, cs, e, hc, _⟩ := okN_cons ok.1
      exact ⟨c, cs ++ 63 :: 61 :: t.wr, by show tl n ++ 63 :: 61 :: t.wr = _; rw [e]; rfl, List.mem_append_left _ hc⟩
  have hz1 := hz.trans ec
  have s5 : ("check" : Str).length ≤ sizeLine := by decide +kernel
  have s4 : ("drop" : Str).length ≤ sizeLine := by decide +kernel
  have two : 2 ≤ sizeLine := by decide
  have three : 3 ≤ sizeLine := by decide
  have mem' : c ∈ tl (sCAP ++ (⟨#[100]⟩ : Str) ++ (⟨#[99]⟩ : Str)) := by
    rw [tl_heads]
    exact mem
  refine ⟨_, rfl, _, _, _, rfl, rfl, s4, at_d, _, _, rfl, rfl, (by decide +kernel), _, _, _, rfl, rfl, s5, at_c, _, _, rfl, rfl, (by decide +kernel), _, rfl, z, _, [], rest, c, _, rv, rfl, rfl, hz1, mem', hs, ?_⟩
  refine ⟨_, rfl, z, _, c, rfl, rfl, hs, at_head hz1, _, _, _, rfl, rfl, s5, at_c, rfl, _, rfl, ?_⟩
  cases r with
  | chk t =>
    obtain ⟨rfl, _⟩ := List.cons.inj ec
    rw [ch_eq (z := ⟨#[99]⟩) rfl]
    refine iteT ⟨_, rfl, _, rfl, _, rfl, z, "check", t.wr, rv, rfl, hz, hs, fun H1 e1 => ?_⟩
    refine ⟨_, rfl, z, _, [99, 104, 101, 99, 107, 32], t, rv, rfl, (by decide +kernel), hz, ok, hs, fun a H2 e2 _ h2 => ⟨two, fun b hb => q b _ ((e1.trans e2).trans (sNew hb _)) (sNone (e1.trans e2) hb) ⟨b, a, rfl, upd_same, h2.keep (Tups.new hb _)⟩⟩⟩
  | drop n =>
    obtain ⟨rfl, _⟩ := List.cons.inj ec
    rw [ch_ne (z := ⟨#[99]⟩) rfl (by decide)]
    refine iteF ⟨_, rfl, z, _, 100, rfl, rfl, hs, at_head hz1, _, _, _, rfl, rfl, s4, at_d, rfl, _, rfl, ?_⟩
    rw [ch_eq (z := ⟨#[100]⟩) rfl]
    refine iteT ⟨_, rfl, _, rfl, _, rfl, z, "drop", tl n, rv, rfl, hz, hs, fun H1 e1 => ?_⟩
    have z4 : tl z = [100, 114, 111, 112, 32] ++ (tl n ++ []) := by
      rw [hz, List.append_nil]
      rfl
    refine ⟨_, rfl, z, _, [100, 114, 111, 112, 32], n, [], rv, rfl, (by decide +kernel), z4, ok, (fun _ _ e => nomatch e), hs, fun a H2 ha e2 => ?_⟩
    have h2 : H2 a = some (.tup [.str n, .int (([100, 114, 111, 112, 32] ++ tl n).length : Nat)]) := by rw [e2, upd_same]
    have s2 : Same H1 H2 := by rw [e2]; exact sNew ha _
    refine ⟨a, _, rfl, SqT.of h2, rfl, _, _, rfl, _, _, rfl, rfl, ?_⟩
    refine ⟨_, rfl, _, rfl, hs, _, _, rfl, rfl, _, rfl, ?_⟩
    have ln := len_at z4
    rw [List.append_nil] at ln
    have e1' : decide (((([100, 114, 111, 112, 32] ++ tl n).length : Nat) : Int) < (z.length : Int)) = false := decide_eq_false (by rw [List.length_append]; omega)
    rw [e1']
    exact iteF ⟨_, rfl, two, fun b hb => q b _ ((e1.trans s2).trans (sNew hb _)) (sNone (e1.trans s2) hb) ⟨b, rfl, upd_same⟩⟩
  | set n t =>
    obtain ⟨c0, cs, e0, hc, _⟩ := okN_cons ok.1
    have hcc : c = c0 := by
      have : tl n ++ 61 :: t.wr = c :: rest := ec
      rw [e0, List.cons_append] at this
      exact (List.head_eq_of_cons_eq this).symm
    have n1 : c ≠ 99 := fun e => by
      rw [← hcc, e] at hc
      exact absurd hc (by decide)
    have n2 : c ≠ 100 := fun e => by
      rw [← hcc, e] at hc
      exact absurd hc (by decide)
    rw [ch_ne (z := ⟨#[99]⟩) rfl n1]
    refine iteF ⟨_, rfl, z, _, c, rfl, rfl, hs, at_head hz1, _, _, _, rfl, rfl, s4, at_d, rfl, _, rfl, ?_⟩
    rw [ch_ne (z := ⟨#[100]⟩) rfl n2]
    refine iteF ⟨_, rfl, _, rfl, z, _, [], n, 61 :: t.wr, rv, rfl, rfl, hz, ok.1, (fun d r' e => ?_), hs, fun a H1 ha e1 => ?_⟩
    · rw [← List.head_eq_of_cons_eq e]
      decide
    have h1 : H1 a = some (.tup [.str n, .int ((tl n).length : Nat)]) := by rw [e1, upd_same]; rfl
    have s1 : Same H H1 := by rw [e1]; exact sNew ha _
    clear e1
    have ce : 61 ∈ tl (("=" : Str) ++ ("?" : Str)) := by decide +kernel
    refine ⟨a, _, rfl, SqT.of h1, rfl, _, _, rfl, _, _, rfl, rfl, ?_⟩
    refine ⟨_, rfl, _, rfl, _, _, rfl, rfl, (by decide +kernel), _, rfl, z, _, tl n, _, 61, _, rv, rfl, rfl, hz, ce, hs, ?_⟩
    refine ⟨_, rfl, _, rfl, z, _, 61, rfl, rfl, hs, at_here hz, rfl, _, rfl, ?_⟩
    have z2 : tl z = (tl n ++ [61]) ++ t.wr := by
      rw [hz, List.append_assoc]
      rfl
    rw [ch_eq tl_eqs]
    refine iteT ⟨_, rfl, _, rfl, _, rfl, _, _, rfl, rfl, _, rfl, z, _, tl n ++ [61], t, rv, rfl, by rw [List.length_append]; rfl, z2, ok.2, hs, fun b H2 e2 _ h2 => ⟨three, fun d hd => q d _ ((s1.trans e2).trans (sNew hd _)) (sNone (s1.trans e2) hd) ⟨d, b, rfl, upd_same, h2.keep (Tups.new hd _)⟩⟩⟩
  | give n t =>
    obtain ⟨c0, cs, e0, hc, _⟩ := okN_cons ok.1
    have hcc : c = c0 := by
      have : tl n ++ 63 :: 61 :: t.wr = c :: rest := ec
      rw [e0, List.cons_append] at this
      exact (List.head_eq_of_cons_eq this).symm
    have n1 : c ≠ 99 := fun e => by
      rw [← hcc, e] at hc
      exact absurd hc (by decide)
    have n2 : c ≠ 100 := fun e => by
      rw [← hcc, e] at hc
      exact absurd hc (by decide)
    rw [ch_ne (z := ⟨#[99]⟩) rfl n1]
    refine iteF ⟨_, rfl, z, _, c, rfl, rfl, hs, at_head hz1, _, _, _, rfl, rfl, s4, at_d, rfl, _, rfl, ?_⟩
    rw [ch_ne (z := ⟨#[100]⟩) rfl n2]
    refine iteF ⟨_, rfl, _, rfl, z, _, [], n, 63 :: 61 :: t.wr, rv, rfl, rfl, hz, ok.1, (fun d r' e => ?_), hs, fun a H1 ha e1 => ?_⟩
    · rw [← List.head_eq_of_cons_eq e]
      decide
    have h1 : H1 a = some (.tup [.str n, .int ((tl n).length : Nat)]) := by rw [e1, upd_same]; rfl
    have s1 : Same H H1 := by rw [e1]; exact sNew ha _
    clear e1
    have ce : 63 ∈ tl (("=" : Str) ++ ("?" : Str)) := by decide +kernel
    refine ⟨a, _, rfl, SqT.of h1, rfl, _, _, rfl, _, _, rfl, rfl, ?_⟩
    refine ⟨_, rfl, _, rfl, _, _, rfl, rfl, (by decide +kernel), _, rfl, z, _, tl n, _, 63, _, rv, rfl, rfl, hz, ce, hs, ?_⟩
    refine ⟨_, rfl, _, rfl, z, _, 63, rfl, rfl, hs, at_here hz, rfl, _, rfl, ?_⟩
    have z1 : tl z = (tl n ++ [63]) ++ 61 :: t.wr := by
      rw [hz, List.append_assoc]
      rfl
    have z2 : tl z = (tl n ++ [63, 61]) ++ t.wr := by
      rw [hz, List.append_assoc]
      rfl
    have c61 : 61 ∈ tl ("=" : Str) := by decide +kernel
    rw [ch_ne tl_eqs (by decide)]
    refine iteF ⟨_, rfl, _, rfl, _, _, rfl, rfl, _, rfl, z, _, tl n ++ [63], _, 61, _, rv, rfl, by rw [List.length_append]; rfl, z1, c61, hs, ?_⟩
    refine ⟨_, rfl, _, rfl, _, rfl, _, _, rfl, rfl, _, rfl, z, _, tl n ++ [63, 61], t, rv, rfl, by rw [List.length_append]; rfl, z2, ok.2, hs, fun b H2 e2 _ h2 => ⟨three, fun d hd => q d _ ((s1.trans e2).trans (sNew hd _)) (sNone (s1.trans e2) hd) ⟨d, b, rfl, upd_same, h2.keep (Tups.new hd _)⟩⟩⟩

/-! ### need_string, read_text -/
abbrev sNeedString : Stmt := topS 52
theorem scNeedString : FnScope ["thing"] ["thing"] (defScope sNeedString) := ⟨rfl, rfl, rfl, by decide +kernel, rfl, by decide +kernel, by decide +kernel⟩
def spNeedString : Sp := fun vs H Q _ => ∃ z : Str, vs = [.str z] ∧ Q .non H
theorem ok_need_string {f : Addr} {fd : FuncData} (F : Fun K "need_string" "need_string" sNeedString f fd) (T : Txt K mg) : FnOk P w K mg base CX0 1 f fd ["thing"] spNeedString := by
  refine F.ok scNeedString (fun vs H Q E h => ?_) (fun cdv A outer s H vs Q E hr h => ?_)
  · obtain ⟨z, rfl, _⟩ := h
    rfl
  refine ⟨_, pss_one (ps_if (pt_not (pt_val (isS T.b_isinstance T.b_str (pv 0)))) (pss_one ps_never) pss_nil), ?_⟩
  obtain ⟨z, rfl, q⟩ := h
  exact ⟨_, rfl, rfl, .inl ⟨z, rfl, _, rfl, iteF q⟩⟩
abbrev sReadText : Stmt := topS 53
theorem scReadText : FnScope ["string", "found"] ["string"] (defScope sReadText) := ⟨rfl, rfl, rfl, by decide +kernel, rfl, by decide +kernel, by decide +kernel⟩
def spReadText : Sp := fun vs H Q _ => ∃ (z : Str) (t : T), vs = [.str z] ∧ tl z = t.wr ∧ okT t ∧ z.length ≤ sizeLine ∧ ∀ q H', Same H H' → TAt H' q t → Q (.ref q) H'
theorem ok_read_text {f f1 f2 f3 : Addr} {fd fd1 fd2 fd3 : FuncData} (F : Fun K "read_text" "read_text" sReadText f fd) (D1 : Df K mg "need_string" sNeedString ["thing"] f1 fd1) (G1 : FnOk P w K mg base CX0 1 f1 fd1 ["thing"] spNeedString)
    (D2 : Df K mg "text_at" sTextAt ["line", "at", "row"] f2 fd2) (G2 : FnOk P w K mg base CX0 4 f2 fd2 ["line", "at", "row"] spTextAt) (D3 : Df K mg "is_text" sIsText ["thing"] f3 fd3) (G3 : FnOk P w K mg base CX0 10 f3 fd3 ["thing"] spIsText) :
    FnOk P w K mg base CX0 11 f fd ["string"] spReadText := by
  refine F.ok scReadText (fun vs H Q E h => ?_) (fun cdv A outer s H vs Q E hr h => ?_)
  · obtain ⟨z, t, rfl, _⟩ := h
    rfl
  have nd := scReadText.nd
  have hr1 : Room 1 (A.deeper (PyProof.Rows.envOfC "read_text" (defScope sReadText) s.heap.objs.size f cdv)) := hr.mono (by decide)
  have hr4 : Room 4 (A.deeper (PyProof.Rows.envOfC "read_text" (defScope sReadText) s.heap.objs.size f cdv)) := hr.mono (by decide)
  refine ⟨_, pss_cons (ps_expr (cal D1 G1 hr1 (pa_cons (pv 0) pa_nil)))
    (pss_cons (ps_set (i := 1) nd rfl (Or.inl rfl) (cal D2 G2 hr4 (pa_cons (pv 0) (pa_cons pe_int (pa_cons pe_int pa_nil)))))
    (pss_cons (ps_if (pt_not (pt_val (cal D3 G3 hr (pa_cons (pv 1) pa_nil)))) (pss_one ps_never) pss_nil)
    (pss_one (ps_ret (pv 1))))), ?_⟩
  obtain ⟨z, t, rfl, hz, ok, hs, q⟩ := h
  refine ⟨_, rfl, z, rfl, _, rfl, z, _, [], t, _, rfl, rfl, hz, ok, hs, fun a H1 e1 _ h1 => ?_⟩
  exact ⟨_, rfl, a, t, rfl, h1, ok, fun H2 e2 => ⟨_, rfl, iteF ⟨_, rfl, q a _ (e1.trans e2) (h1.keep (sTups e2))⟩⟩⟩

/-! ### read_file -/
abbrev sReadFile : Stmt := topS 54
theorem scReadFile : FnScope ["string", "lines", "number", "line"] ["string"] (defScope sReadFile) := ⟨rfl, rfl, rfl, by decide +kernel, rfl, by decide +kernel, by decide +kernel⟩
def spReadFile : Sp := fun vs H Q _ => ∃ rs : List Rw, vs = [.str (fileS rs)] ∧ okF rs ∧ ∀ q H', Same H H' → FAt H' q rs → Q (.ref q) H'
theorem tl_nl : tl ("\n" : Str) = [10] := by decide +kernel
theorem file_len {rs : List Rw} (ok : okF rs) : (fileS rs).length ≤ 8000000 := by
  have h1 := rows_sum rs ok.ok
  have h2 := ok.few
  have h3 : rs.length * 100020 ≤ 40 * 100020 := Nat.mul_le_mul_right _ h2
  have e : ("\n" : Str).length = 1 := by decide +kernel
  unfold fileS
  rw [join_eq]
  cases rs with
  | nil =>
    rw [List.map_nil]
    decide +kernel
  | cons r rs =>
    rw [List.map_cons] at h1 ⊢
    rw [PyProof.Rows.len_join_cons, e, Nat.mul_one, List.length_map]
    rw [List.length_cons] at h1 h2 h3
    omega
theorem file_split {rs : List Rw} (ok : okF rs) (ne : rs ≠ []) : Txt.split (fileS rs) ("\n" : Str) = rs.map fun r => ofC r.wr :=
  split_join tl_nl (by decide +kernel) (fun e => ne (List.map_eq_nil_iff.mp e)) fun p hp => by
    obtain ⟨r, hr, rfl⟩ := List.mem_map.mp hp
    exact r.wr_ink (ok.ok r hr)
theorem file_nil : fileS [] = ("" : Str) := ext_tl (by decide +kernel)
theorem file_ne {rs : List Rw} (ok : okF rs) (ne : rs ≠ []) : fileS rs ≠ ("" : Str) := fun e => by
  have h := file_split ok ne
  rw [e] at h
  have h0 : Txt.split ("" : Str) ("\n" : Str) = [("" : Str)] := by decide +kernel
  rw [h0] at h
  cases rs with
  | nil => exact ne rfl
  | cons r rs =>
    rw [List.map_cons] at h
    have := congrArg tl (List.head_eq_of_cons_eq h)
    rw [tl_empty, tl_ofC] at this
    exact r.wr_ne this.symm
theorem pe_weak {X : Cx} {e : Expr} {t t' : TE} (h : PE X e t) (k : ∀ σ H Q, t' σ H Q → t σ H Q) : PE X e t' := ⟨fun pins s σ H Q I q => h.run pins s σ H Q I (k σ H Q q)⟩
/-- the file's rows, each a text -/
def tLines : TE := fun σ H Q => ∃ rs, σ[0]? = some (some (.str (fileS rs))) ∧ okF rs ∧ ∀ l H1, Same H H1 → H1 l = some (.lst (rs.map Rw.v)) → Q (.ref l) H1
theorem paired_snoc {α β : Type} {F : α → β → Prop} {a : α} {b : β} (k : F a b) : ∀ {l : List α} {m : List β}, Paired F l m → Paired F (l ++ [a]) (m ++ [b])
  | _, _, .nil => .cons k .nil
  | _, _, .cons h t => .cons h (paired_snoc k t)
theorem ok_read_file {f f1 f2 f3 : Addr} {fd fd1 fd2 fd3 : FuncData} (F : Fun K "read_file" "read_file" sReadFile f fd) (T : Txt K mg) (D1 : Df K mg "need_string" sNeedString ["thing"] f1 fd1) (G1 : FnOk P w K mg base CX0 1 f1 fd1 ["thing"] spNeedString)
    (D2 : Df K mg "row_told" sRowTold ["line", "row"] f2 fd2) (G2 : FnOk P w K mg base CX0 5 f2 fd2 ["line", "row"] spRowTold) (D3 : Df K mg "need_file" sNeedFile ["thing"] f3 fd3) (G3 : FnOk P w K mg base CX0 12 f3 fd3 ["thing"] spNeedFile) :
    FnOk P w K mg base CX0 13 f fd ["string"] spReadFile := by
  refine F.ok scReadFile (fun vs H Q E h => ?_) (fun cdv A outer s H vs Q E hr h => ?_)
  · obtain ⟨rs, rfl, _⟩ := h
    rfl
  have nd := scReadFile.nd
  have hr1 : Room 1 (A.deeper (PyProof.Rows.envOfC "read_file" (defScope sReadFile) s.heap.objs.size f cdv)) := hr.mono (by decide)
  refine ⟨_, pss_cons (ps_expr (cal D1 G1 hr1 (pa_cons (pv 0) pa_nil)))
    (pss_cons (ps_set (i := 1) nd rfl (Or.inl rfl) (pe_weak (t' := tLines) (pe_ifExp (pt_cmpR op_ne (pv 0) pe_str (nomark _)) (pe_split (pv 0) (gS T.c_NEWLINE)) (pe_lst pa_nil)) fun σ H Q h => by
      obtain ⟨rs, e0, ok, q⟩ := h
      refine ⟨_, e0, rfl, _, rfl, ?_⟩
      by_cases h0 : rs = []
      · subst h0
        rw [file_nil, decide_eq_true (rfl : V.str "" = V.str "")]
        exact iteF ⟨Nat.zero_le _, fun l hl => q l _ (sNew hl _) upd_same⟩
      · rw [decide_eq_false (fun e => file_ne ok h0 (V.str.inj e))]
        have len := file_len ok
        refine iteT ⟨_, e0, ⟨_, rfl⟩, fileS rs, "\n", rfl, rfl, (by decide +kernel), Nat.le_trans (show (fileS rs).length + 2 ≤ 8000002 by omega) (by decide), fun l hl => q l _ (sNew hl _) ?_⟩
        rw [upd_same, file_split ok h0, List.map_map]
        rfl))
    (pss_one (ps_ret (cal D3 G3 hr (pa_cons (pe_callTy call_tuple_of rfl T.b_tuple boot_tupT (pa_cons
      (pe_lc (own := [("number", 2), ("line", 3)]) (g := gTup K 2 (gCons (gName 2) (gCons (gName 3) gNil))) (tt := tYes) rfl nd (pi_enum rfl T.b_enumerate (pa_cons (pv 1) pa_nil)) (blkOk_by (N := ["string", "lines", "number", "line"]) (sc := defScope sReadFile) (by decide +kernel))
        (fun _ _ _ _ _ => pg_tup rfl (pgs_cons (pg_name (i := 2) nd rfl (Or.inl rfl)) (pgs_cons (pg_name (i := 3) nd rfl (Or.inl rfl)) pgs_nil))) (fun _ _ _ _ _ => pts_nil)
        (fun _ _ _ _ _ => cal D2 G2 (hr.mono (by decide)) (pa_cons (pv 3) (pa_cons (pv 2) pa_nil)))) pa_nil)) pa_nil))))), ?_⟩
  obtain ⟨rs, rfl, ok, q⟩ := h
  refine ⟨_, rfl, _, rfl, rs, rfl, ok, fun l H1 e1 h1 => ?_⟩
  refine ⟨_, rfl, l, _, rfl, SqL.of h1, fun D hD => ?_⟩
  have hlen : (rs.map Rw.v).length = rs.length := List.length_map ..
  refine lc_it walk_enum (fun i H2 => Same H1 H2 ∧ ∃ vs, H2 D = some (.lst vs) ∧ Paired (RIs H2) (rs.take i) vs) ⟨sNew hD _, [], upd_same, .nil⟩ (fun i H2 _ z => SqL.of (z.1 _ _ h1)) ?_ ?_
  · rintro i v H2 H3 hi ⟨e2, vs, h2, pv⟩ ⟨tp, x, y, rfl, fresh, rfl, hx, hy⟩
    obtain rfl : V.int (i : Nat) = x := Option.some.inj hx
    obtain ⟨r, hr', rfl⟩ : ∃ r, rs[i]? = some r ∧ Rw.v r = y := by
      replace hy : (rs.map Rw.v)[i]? = some y := hy
      rw [List.getElem?_map] at hy
      cases hq : rs[i]? with
      | none => rw [hq] at hy; cases hy
      | some r => exact ⟨r, rfl, by rw [hq] at hy; exact Option.some.inj hy⟩
    have mem : r ∈ rs := List.mem_of_getElem? hr'
    have len : (ofC r.wr).length ≤ sizeLine := by
      rw [len_ofC]
      exact Nat.le_trans (row_short (ok.ok r mem)) (by decide)
    have e3 : Same H2 (upd H2 tp (.tup [.int (i : Nat), Rw.v r])) := sNew fresh _
    refine ⟨tp, _, rfl, SqT.of upd_same, rfl, _, _, rfl, _, _, rfl, rfl, rfl, _, rfl, _, rfl, ofC r.wr, r, _, rfl, rfl, ok.ok r mem, len, fun a H4 e4 _ h4 => ⟨vs, e4 _ _ (e3 _ _ h2), ?_, sPut (e2.trans (e3.trans e4)) hD _, _, upd_same, ?_⟩⟩
    · have := Paired.length pv
      rw [List.length_take] at this
      have := ok.few
      exact Nat.lt_of_le_of_lt (show vs.length ≤ 40 by omega) (by decide)
    · have tu : Tups H4 (upd H4 D (.lst (vs ++ [.ref a]))) := Tups.put (e4 _ _ (e3 _ _ h2)) _
      rw [List.take_add_one, hr']
      exact paired_snoc (h4.keep tu) (Paired.mapP pv fun _ _ k => (k.keep (sTups (e3.trans e4))).keep tu)
  · rintro H2 ⟨e2, vs, h2, pv⟩
    rw [hlen, List.take_length] at pv
    refine ⟨D, vs, rfl, .inl ⟨SqL.of h2, fun b hb => ?_⟩⟩
    have e5 : Same H (upd H2 b (.tup vs)) := (e1.trans e2).trans (sNew hb _)
    have fa : FAt (upd H2 b (.tup vs)) b rs := ⟨vs, upd_same, Paired.mapP pv fun _ _ k => k.keep (Tups.new hb _)⟩
    exact ⟨b, rs, rfl, fa, ok, fun H3 e6 => q b _ (e5.trans e6) (fa.keep (sTups e6))⟩
end
end Er
namespace Er
open PySem L2 TL
section
variable {P : Program} {w : World} {K : PySem.W.Frag} {mg : Str → Option Value} {base : Heap}

/-! ### _law_mixed -/
abbrev sMixed : Stmt := topS 56
theorem scMixed : FnScope ["cell", "k"] ["cell", "k"] (defScope sMixed) := ⟨rfl, rfl, rfl, by decide +kernel, rfl, by decide +kernel, by decide +kernel⟩
def spMixed : Sp := fun vs H Q _ => ∃ c k : Int, vs = [.int c, .int k] ∧ 0 ≤ k ∧ k ≤ 1152921504606846976 ∧ ∀ r : Int, 0 ≤ r → r < 2147483629 → Q (.int r) H
theorem ok_mixed {f : Addr} {fd : FuncData} (F : Fun K "_law_mixed" "_law_mixed" sMixed f fd) (T : Txt K mg) : FnOk P w K mg base CX0 1 f fd ["cell", "k"] spMixed := by
  refine F.ok scMixed (fun vs H Q E h => ?_) (fun cdv A outer s H vs Q E hr h => ?_)
  · obtain ⟨c, k, rfl, _⟩ := h
    rfl
  have nd := scMixed.nd
  refine ⟨_, pss_cons (ps_set (i := 0) nd rfl (Or.inl rfl) (pe_op op_mod (pe_callTy call_int1 rfl T.b_int boot_intT (pa_cons (pv 0) pa_nil)) pe_int))
    (pss_one (ps_ret (pe_op op_mod (pe_op op_mul (pe_op op_mod (pe_op op_add (pe_op op_add (pe_op op_mul (pv 0) (pe_op op_add pe_int (pe_op op_mul (pe_op op_mul pe_int (pv 1)) (pv 1)))) (pe_op op_mul pe_int (pv 1))) pe_int) pe_int) pe_int) pe_int))), ?_⟩
  obtain ⟨c, k, rfl, k0, k1, q⟩ := h
  have h1 := Int.emod_nonneg c (show (2147483647 : Int) ≠ 0 by decide)
  have h2 := Int.emod_lt_of_pos c (show (0 : Int) < 2147483647 by decide)
  have p1 : (0 : Int) < 2147483647 := by decide
  have p2 : (0 : Int) < 2147483629 := by decide
  refine ⟨_, rfl, .inl ⟨c, rfl, _, _, rfl, rfl, p1, ?_⟩⟩
  refine ⟨_, rfl, _, rfl, _, _, rfl, rfl, .inl ⟨by decide, by decide⟩, _, rfl, _, _, rfl, rfl, .inl ⟨by omega, by omega⟩, _, _, rfl, rfl, _, _, rfl, rfl, .inl ⟨by omega, by omega⟩, ?_⟩
  refine ⟨_, rfl, _, _, rfl, rfl, .inl ⟨by decide, by decide⟩, _, _, rfl, rfl, _, _, rfl, rfl, _, _, rfl, rfl, p1, ?_⟩
  refine ⟨_, _, rfl, rfl, .inr ⟨by decide, by decide⟩, _, _, rfl, rfl, p2, q _ (Int.emod_nonneg _ (by decide)) (Int.emod_lt_of_pos _ p2)⟩

/-! ### the state -/
def stK (c l : Addr) (a : Int) : List (Key × V) := [(.inr "cells", .ref c), (.inr "lefts", .ref l), (.inr "at", .int a), (.inr "room", .int 0)]
structure Sta (H : Hp) (d c l : Addr) (n : Nat) (a : Int) : Prop where
  dc : H d = some (.dK (stK c l a))
  cs : ∃ ns : List Int, H c = some (.lst (ns.map V.int)) ∧ ns.length = n
  ls : ∃ ms : List Int, H l = some (.lst (ms.map V.int)) ∧ ms.length = n
  pos : 0 < n
  few : n ≤ 1000
  ne : c ≠ l
theorem st_cells {c l : Addr} {a : Int} : some (V.ref c) = valV (stK c l a) (.inr "cells") := rfl
theorem st_lefts {c l : Addr} {a : Int} : some (V.ref l) = valV (stK c l a) (.inr "lefts") := rfl
theorem st_at {c l : Addr} {a : Int} : some (V.int a) = valV (stK c l a) (.inr "at") := rfl
theorem st_put {c l : Addr} {a b : Int} : putK (stK c l a) (.inr "at") (.int b) = stK c l b := rfl
/-- all but the state stays -/
def Kp (d l : Addr) (H H' : Hp) : Prop := ∀ b o, b ≠ d → b ≠ l → H b = some o → H' b = some o
theorem Kp.refl {d l : Addr} (H : Hp) : Kp d l H H := fun _ _ _ _ q => q
theorem Kp.trans {d l : Addr} {H H1 H2 : Hp} (a : Kp d l H H1) (b : Kp d l H1 H2) : Kp d l H H2 := fun c o h1 h2 q => b c o h1 h2 (a c o h1 h2 q)
theorem Kp.of {d l : Addr} {H H' : Hp} (e : Same H H') : Kp d l H H' := fun b o _ _ q => e b o q
/-- what has come since may change -/
theorem Kp.put {d l p : Addr} {H H' : Hp} (e : Kp d l H H') (h : H p = none) (o : HO) : Kp d l H (upd H' p o) := fun b u h1 h2 q => by
  rw [upd_ne (ne_of_none q h)]
  exact e b u h1 h2 q
theorem Sta.dl {H : Hp} {d c l : Addr} {n : Nat} {a : Int} (S : Sta H d c l n a) : d ≠ l ∧ d ≠ c := by
  obtain ⟨ms, h, _⟩ := S.ls
  obtain ⟨ns, h2, _⟩ := S.cs
  refine ⟨fun e => ?_, fun e => ?_⟩
  · have := S.dc
    rw [e, h] at this
    cases this
  · have := S.dc
    rw [e, h2] at this
    cases this
theorem Kp.tups {d l c : Addr} {n : Nat} {a : Int} {H H' : Hp} (e : Kp d l H H') (S : Sta H d c l n a) : Tups H H' := fun b ys q => e b _ (fun z => by
  have := S.dc
  rw [← z, q] at this
  cases this) (fun z => by
  obtain ⟨ms, h, _⟩ := S.ls
  rw [← z, q] at h
  cases h) q
/-- what stands and isn't the state's -/
theorem Kp.lst {d l c p : Addr} {n : Nat} {a : Int} {H H' : Hp} {o : HO} (e : Kp d l H H') (h : H p = some o) (n1 : p ≠ d) (n2 : p ≠ l) : H' p = some o := e p o n1 n2 h
theorem Sta.keep {H H' : Hp} {d c l : Addr} {n : Nat} {a : Int} (S : Sta H d c l n a) (e : Same H H') : Sta H' d c l n a :=
  ⟨e _ _ S.dc, let ⟨ns, h, k⟩ := S.cs; ⟨ns, e _ _ h, k⟩, let ⟨ns, h, k⟩ := S.ls; ⟨ns, e _ _ h, k⟩, S.pos, S.few, S.ne⟩
/-- what is new isn't the state's -/
theorem Sta.new {H : Hp} {d c l p : Addr} {n : Nat} {a : Int} (S : Sta H d c l n a) (h : H p = none) : p ≠ d ∧ p ≠ c ∧ p ≠ l :=
  ⟨(fun e => by rw [e, S.dc] at h; exact nomatch h), (fun e => by obtain ⟨_, q, _⟩ := S.cs; rw [e, q] at h; exact nomatch h), (fun e => by obtain ⟨_, q, _⟩ := S.ls; rw [e, q] at h; exact nomatch h)⟩
/-- another list is written -/
theorem Sta.put {H : Hp} {d c l p : Addr} {n : Nat} {a : Int} (S : Sta H d c l n a) (o : HO) (h : p ≠ d ∧ p ≠ c ∧ p ≠ l) : Sta (upd H p o) d c l n a :=
  ⟨by rw [upd_ne (Ne.symm h.1)]; exact S.dc, let ⟨ns, q, k⟩ := S.cs; ⟨ns, by rw [upd_ne (Ne.symm h.2.1)]; exact q, k⟩, let ⟨ns, q, k⟩ := S.ls; ⟨ns, by rw [upd_ne (Ne.symm h.2.2)]; exact q, k⟩, S.pos, S.few, S.ne⟩

/-! ### _law_draw -/
abbrev sDraw : Stmt := topS 58
theorem scDraw : FnScope ["state", "many", "at", "place", "left", "number"] ["state", "many"] (defScope sDraw) := ⟨rfl, rfl, rfl, by decide +kernel, rfl, by decide +kernel, by decide +kernel⟩
/-- draws one time -/
def spDraw : Sp := fun vs H Q _ => ∃ (d c l : Addr) (n : Nat) (a m : Int), vs = [.ref d, .int m] ∧ Sta H d c l n a ∧ 0 ≤ a ∧ a ≤ 1000000000000 ∧ 1 ≤ m ∧ m ≤ 1000 ∧ ∀ r H', Kp d l H H' → Sta H' d c l n (a + 1) → 0 ≤ r → r < m → Q (.int r) H'
theorem ok_draw {f f1 : Addr} {fd fd1 : FuncData} (F : Fun K "_law_draw" "_law_draw" sDraw f fd) (T : Txt K mg) (D1 : Df K mg "_law_mixed" sMixed ["cell", "k"] f1 fd1) (G1 : FnOk P w K mg base CX0 1 f1 fd1 ["cell", "k"] spMixed) :
    FnOk P w K mg base CX0 2 f fd ["state", "many"] spDraw := by
  refine F.ok scDraw (fun vs H Q E h => ?_) (fun cdv A outer s H vs Q E hr h => ?_)
  · obtain ⟨d, c, l, n, a, m, rfl, _⟩ := h
    rfl
  have nd := scDraw.nd
  have hu : (A.deeper (PyProof.Rows.envOfC "_law_draw" (defScope sDraw) s.heap.objs.size f cdv)).units + 1 < cLine := by
    have := hr.units
    omega
  refine ⟨_, pss_cons (ps_set (i := 2) nd rfl (Or.inl rfl) (pe_dget hu (pv 0) pe_str (fun _ _ => rfl)))
    (pss_cons (ps_dput hu (pv 0) pe_str (pe_op op_add (pv 2) pe_int) (by rfl))
    (pss_cons (ps_set (i := 3) nd rfl (Or.inl rfl) (pe_op op_mod (pe_callTy call_int1 rfl T.b_int boot_intT (pa_cons (pv 2) pa_nil)) (lenQ T.b_len (pe_dget hu (pv 0) pe_str (fun _ _ => rfl)))))
    (pss_cons (ps_set (i := 4) nd rfl (Or.inl rfl) (pe_ix ix_list (pe_dget hu (pv 0) pe_str (fun _ _ => rfl)) (pv 3) (fun _ _ => rfl)))
    (pss_cons (ps_if (pt_cmpR op_gt (pv 4) pe_int (nomark _))
      (pss_cons (ps_asg (pe_op op_fdivN (pv 4) (pv 1)) (pg_sub (pe_dget hu (pv 0) pe_str (fun _ _ => rfl)) (pv 3) set_list))
        (pss_one (ps_ret (pe_op op_mod (pe_callTy call_int1 rfl T.b_int boot_intT (pa_cons (pv 4) pa_nil)) (pv 1))))) pss_nil)
    (pss_cons (ps_set (i := 5) nd rfl (Or.inl rfl) (cal D1 G1 hr (pa_cons (cal D1 G1 hr (pa_cons (pe_ix ix_list (pe_dget hu (pv 0) pe_str (fun _ _ => rfl)) (pv 3) (fun _ _ => rfl)) (pa_cons (pv 2) pa_nil))) (pa_cons (pe_op op_add pe_int (pv 2)) pa_nil))))
    (pss_one (ps_ret (pe_op op_mod (pe_op op_fdivN (pe_callTy call_int1 rfl T.b_int boot_intT (pa_cons (pe_op op_add (pe_op op_mul (pv 5) pe_int) (cal D1 G1 hr (pa_cons (pv 5) (pa_cons (pe_op op_add pe_int (pv 2)) pa_nil)))) pa_nil)) pe_int) (pv 1))))))))), ?_⟩
  obtain ⟨d, c, l, n, a, m, rfl, S, a0, a1, m1, m2, q⟩ := h
  obtain ⟨ns, hc, nc⟩ := S.cs
  obtain ⟨ms, hl, nl⟩ := S.ls
  have S1 : Sta (upd H d (.dK (stK c l (a + 1)))) d c l n (a + 1) := by
    refine ⟨upd_same, ⟨ns, ?_, nc⟩, ⟨ms, ?_, nl⟩, S.pos, S.few, S.ne⟩
    · rw [upd_ne (Ne.symm S.dl.2)]
      exact hc
    · rw [upd_ne (Ne.symm S.dl.1)]
      exact hl
  have K1 : Kp d l H (upd H d (.dK (stK c l (a + 1)))) := fun b o h1 h2 e => by
    rw [upd_ne h1]
    exact e
  have hn0 := S.pos
  have hn1 := S.few
  have npos : (0 : Int) < ((ns.map V.int).length : Int) := by rw [List.length_map, nc]; omega
  refine ⟨_, rfl, d, _, rfl, .inl ⟨_, .inr "at", .inl S.dc, rfl, st_at⟩, ?_⟩
  refine ⟨_, rfl, _, _, rfl, rfl, _, rfl, d, _, rfl, .inl ⟨_, .inr "at", S.dc, rfl, (show 4 < sizeLine by decide), rfl⟩, ?_⟩
  rw [st_put]
  obtain ⟨ns1, hc1, nc1⟩ := S1.cs
  obtain ⟨ms1, hl1, nl1⟩ := S1.ls
  have npos1 : (0 : Int) < ((ns1.map V.int).length : Int) := by rw [List.length_map, nc1]; omega
  refine ⟨_, rfl, .inl ⟨_, rfl, _, rfl, d, _, rfl, .inl ⟨_, .inr "cells", .inl S1.dc, rfl, st_cells⟩, _, .inl (SqL.of hc1), _, _, rfl, rfl, npos1, ?_⟩⟩
  obtain ⟨j, ej, hj⟩ : ∃ j : Nat, a % ((ns1.map V.int).length : Int) = (j : Int) ∧ j < n := by
    have h1 := Int.emod_nonneg a (show ((ns1.map V.int).length : Int) ≠ 0 by omega)
    have h2 := Int.emod_lt_of_pos a npos1
    refine ⟨(a % ((ns1.map V.int).length : Int)).toNat, (Int.toNat_of_nonneg h1).symm, ?_⟩
    rw [List.length_map, nc1] at h1 h2 ⊢
    omega
  show gName 3 (.int (a % ((ns1.map V.int).length : Int))) _ _ _
  rw [ej]
  obtain ⟨x, hx⟩ : ∃ x, ms1[j]? = some x := ⟨ms1[j], List.getElem?_eq_getElem (by omega)⟩
  obtain ⟨y, hy⟩ : ∃ y, ns1[j]? = some y := ⟨ns1[j], List.getElem?_eq_getElem (by omega)⟩
  have hx' : atI (ms1.map V.int) (j : Int) = some (.int x) := atI_nat (by rw [List.getElem?_map, hx]; rfl)
  have hy' : atI (ns1.map V.int) (j : Int) = some (.int y) := atI_nat (by rw [List.getElem?_map, hy]; rfl)
  refine ⟨_, rfl, d, _, rfl, .inl ⟨_, .inr "lefts", .inl S1.dc, rfl, st_lefts⟩, _, rfl, l, _, _, _, rfl, rfl, SqL.of hl1, hx', ?_⟩
  refine ⟨_, rfl, _, _, rfl, rfl, _, rfl, ite2 (fun _ => ?_) (fun _ => ?_)⟩
  · have mnat : m.natAbs < 1073741824 := by omega
    refine ⟨_, rfl, _, rfl, x, m, rfl, rfl, ⟨by omega, mnat⟩, _, rfl, d, _, rfl, .inl ⟨_, .inr "lefts", .inl S1.dc, rfl, st_lefts⟩, _, rfl, l, _, _, j, rfl, rfl, hl1, ?_, ?_⟩
    · unfold ixN
      rw [List.length_map, nl1, if_pos (by omega), if_pos (by omega)]
      rfl
    refine ⟨_, rfl, .inl ⟨x, rfl, _, rfl, x, m, rfl, rfl, by omega, q _ _ (K1.trans fun b o h1 h2 e => ?_) ⟨?_, ⟨ns1, ?_, nc1⟩, ⟨ms1.set j (x.fdiv m), ?_, ?_⟩, S.pos, S.few, S.ne⟩ (Int.emod_nonneg _ (by omega)) (Int.emod_lt_of_pos _ (by omega))⟩⟩
    · rw [upd_ne h2]
      exact e
    · rw [upd_ne S.dl.1]
      exact S1.dc
    · rw [upd_ne S.ne]
      exact hc1
    · rw [upd_same, List.map_set]
    · rw [List.length_set]
      exact nl1
  · refine ⟨_, rfl, d, _, rfl, .inl ⟨_, .inr "cells", .inl S1.dc, rfl, st_cells⟩, _, rfl, c, _, _, _, rfl, rfl, SqL.of hc1, hy', _, rfl, y, a, rfl, a0, by omega, fun r1 r1a r1b => ?_⟩
    refine ⟨_, rfl, _, _, rfl, rfl, r1, 40 + a, rfl, by omega, by omega, fun r2 r2a r2b => ?_⟩
    refine ⟨_, rfl, _, _, rfl, rfl, .inl ⟨by omega, by omega⟩, _, rfl, _, rfl, _, _, rfl, rfl, r2, 7 + a, rfl, by omega, by omega, fun r3 r3a r3b => ?_⟩
    exact ⟨_, _, rfl, rfl, .inl ⟨_, rfl, _, _, rfl, rfl, ⟨by decide, by decide⟩, _, rfl, _, _, rfl, rfl, by omega, q _ _ K1 S1 (Int.emod_nonneg _ (by omega)) (Int.emod_lt_of_pos _ (by omega))⟩⟩
end
end Er
namespace Er
open PySem L2 TL
section
variable {P : Program} {w : World} {K : PySem.W.Frag} {mg : Str → Option Value} {base : Heap}

/-! ### _law_begin -/
abbrev sBegin : Stmt := topS 57
theorem scBegin : FnScope ["script", "cells", "cell"] ["script"] (defScope sBegin) := ⟨rfl, rfl, rfl, by decide +kernel, rfl, by decide +kernel, by decide +kernel⟩
def spBegin (K : PySem.W.Frag) : Sp := fun vs H Q _ => ∃ (p : Addr) (ns : List Int), vs = [.ref p] ∧ SqL K H p (ns.map V.int) ∧ ns.length ≤ 63 ∧ ∀ d c l n H', Same H H' → Sta H' d c l n 0 → Q (.ref d) H'
theorem sqKeep {H H' : Hp} {a : Addr} {xs : List V} (e : Same H H') (h : SqL K H a xs) : SqL K H' a xs := by
  rcases h with (h | ⟨o, h⟩) | h
  · exact .inl (.inl (e _ _ h))
  · exact .inl (.inr ⟨o, e _ _ h⟩)
  · exact .inr h
theorem dp_ints {H : Hp} : ∀ ns : List Int, DpAll K H (ns.map V.int) (ns.map PyData.int)
  | [] => .nil
  | i :: ns => .cons (.int i) (dp_ints ns)
theorem lay_ints : ∀ ns : List Int, PyData.canLayAll0 (ns.map PyData.int) = true
  | [] => by simp only [List.map_nil, PyData.canLayAll0]
  | i :: ns => by simp only [List.map_cons, PyData.canLayAll0, PyData.canLay0, lay_ints ns, Bool.and_self]
/-- the cells: the script's numbers, one at least -/
def tCells (K : PySem.W.Frag) : TE := fun σ H Q => ∃ (p : Addr) (ns : List Int), σ[0]? = some (some (.ref p)) ∧ SqL K H p (ns.map V.int) ∧ ns.length ≤ 63 ∧ ∀ (c : Addr) (ms : List Int) H', Same H H' → H' c = some (.lst (ms.map V.int)) → 0 < ms.length → ms.length ≤ 1000 → Q (.ref c) H'
theorem ok_begin {f : Addr} {fd : FuncData} (F : Fun K "_law_begin" "_law_begin" sBegin f fd) (T : Txt K mg) : FnOk P w K mg base CX0 1 f fd ["script"] (spBegin K) := by
  refine F.ok scBegin (fun vs H Q E h => ?_) (fun cdv A outer s H vs Q E hr h => ?_)
  · obtain ⟨p, ns, rfl, _⟩ := h
    rfl
  have nd := scBegin.nd
  refine ⟨_, pss_cons (ps_set (i := 1) nd rfl (Or.inl rfl) (pe_weak (t' := tCells K) (pe_ifExp (pt_cmpR (ne_void hr) (pv 0) (pe_lst pa_nil) (nomark _)) (pe_callTy call_list_of rfl T.b_list boot_listT (pa_cons (pv 0) pa_nil)) (pe_lst (pa_cons pe_int pa_nil))) fun σ H Q h => by
      obtain ⟨p, ns, e0, hp, few, q⟩ := h
      refine ⟨_, e0, Nat.zero_le _, fun b hb => ?_⟩
      have e1 : Same H (upd H b (.lst [])) := sNew hb _
      have hp1 := sqKeep e1 hp
      refine ⟨p, _, _, b, rfl, rfl, hp1, dp_ints ns, lay_ints ns, SqL.of upd_same, _, rfl, ?_⟩
      cases ns with
      | nil => exact iteF ⟨Nat.le_of_lt (show 1 < sizeLine by decide), fun c hc => q c [0] _ (e1.trans (sNew hc _)) upd_same Nat.one_pos (show 1 ≤ 1000 by decide)⟩
      | cons i ns => exact iteT ⟨_, e0, p, _, rfl, .inl hp1, fun c hc => q c (i :: ns) _ (e1.trans (sNew hc _)) upd_same (Nat.succ_pos _) (Nat.le_trans few (show 63 ≤ 1000 by decide))⟩))
    (pss_one (ps_ret (pe_disp (pps_cons pe_str (pv 1) (pps_cons pe_str (pe_lc (own := [("cell", 2)]) (g := gName 2) (tt := tYes) rfl nd (pi_list (pv 1)) (blkOk_by (N := ["script", "cells", "cell"]) (sc := defScope sBegin) (by decide +kernel))
        (fun _ _ _ _ _ => pg_name (i := 2) nd rfl (Or.inl rfl)) (fun _ _ _ _ _ => pts_nil)
        (fun _ _ _ _ _ => pe_ifExp (pt_cmpR op_ge (pv 2) (pe_op op_pow pe_int pe_int) (nomark _)) (pv 2) pe_int)) (pps_cons pe_str pe_int (pps_cons pe_str pe_int pps_nil)))) rfl rfl (by intro h; cases h) (by decide)))), ?_⟩
  obtain ⟨p, ns, rfl, hp, few, q⟩ := h
  refine ⟨p, ns, rfl, hp, few, fun c ms H1 e1 h1 m1 m2 d hd => ?_⟩
  have e2 : Same H1 (upd H1 d (.dK [])) := sNew hd _
  refine ⟨_, rfl, _, rfl, c, rfl, ⟨_, SqL.of (e2 _ _ h1)⟩, fun l hl => ?_⟩
  have hlen : (ms.map V.int).length = ms.length := List.length_map ..
  have nc : c ≠ l := fun e => by
    rw [← e, e2 _ _ h1] at hl
    cases hl
  refine lc_list (xs := ms.map V.int) (fun i H2 => Same (upd H1 d (.dK [])) H2 ∧ ∃ ks : List Int, H2 l = some (.lst (ks.map V.int)) ∧ ks.length = i) ⟨sNew hl _, [], upd_same, rfl⟩ (fun i H2 _ z => SqL.of (z.1 _ _ (e2 _ _ h1))) ?_ ?_
  · rintro i x H2 hx ⟨e3, ks, h3, rfl⟩
    obtain ⟨y, hy, rfl⟩ : ∃ y, ms[ks.length]? = some y ∧ V.int y = x := by
      rw [List.getElem?_map] at hx
      cases hq : ms[ks.length]? with
      | none => rw [hq] at hx; cases hx
      | some r => exact ⟨r, rfl, by rw [hq] at hx; exact Option.some.inj hx⟩
    have hi : ks.length < ms.length := (List.getElem?_eq_some_iff.mp hy).1
    have put : ∀ z : Int, (ks.map V.int).length < sizeLine ∧ Same (upd H1 d (.dK [])) (upd H2 l (.lst (ks.map V.int ++ [V.int z]))) ∧ ∃ ks' : List Int, (upd H2 l (.lst (ks.map V.int ++ [V.int z]))) l = some (.lst (ks'.map V.int)) ∧ ks'.length = ks.length + 1 := fun z =>
      ⟨by rw [List.length_map]; exact Nat.lt_of_lt_of_le hi (Nat.le_trans m2 (by decide)), sPut e3 hl _, ks ++ [z], by rw [upd_same, List.map_append]; rfl, by rw [List.length_append]; rfl⟩
    have cp : CPow 10 18 := ⟨by decide, by decide, by decide⟩
    refine ⟨rfl, _, rfl, _, _, rfl, rfl, cp, _, _, rfl, rfl, _, rfl, ite2 (fun _ => ?_) (fun _ => ?_)⟩
    · exact ⟨_, rfl, _, h3, put y⟩
    · exact ⟨_, h3, put 0⟩
  · rintro H2 ⟨e3, ks, h3, lk⟩
    refine ⟨e3 _ _ upd_same, stK c l 0, rfl, (show 4 ≤ 15 by decide), ?_⟩
    have hc2 := e3 _ _ (e2 _ _ h1)
    have ncd : c ≠ d := ne_of_none h1 hd
    have ndl : l ≠ d := fun e => by
      rw [e, upd_same] at hl
      cases hl
    refine q d c l ms.length _ (sPut (e1.trans (e2.trans e3)) (sNone e1 hd) _) ⟨upd_same, ⟨ms, ?_, rfl⟩, ⟨ks, ?_, by rw [lk, hlen]⟩, m1, m2, nc⟩
    · rw [upd_ne ncd]
      exact hc2
    · rw [upd_ne ndl]
      exact h3

/-! ### _law_of -/
abbrev sOf : Stmt := topS 59
theorem scOf : FnScope ["state", "some"] ["state", "some"] (defScope sOf) := ⟨rfl, rfl, rfl, by decide +kernel, rfl, by decide +kernel, by decide +kernel⟩
def spOf : Sp := fun vs H Q _ => ∃ (d c l : Addr) (n : Nat) (a : Int) (p : Addr) (ys : List V), vs = [.ref d, .ref p] ∧ Sta H d c l n a ∧ 0 ≤ a ∧ a ≤ 1000000000000 ∧ H p = some (.lst ys) ∧ p ≠ d ∧ p ≠ l ∧ 1 ≤ ys.length ∧ ys.length ≤ 1000 ∧
  ∀ y H', y ∈ ys → Kp d l H H' → Sta H' d c l n (a + 1) → Q y H'
theorem at_int {ys : List V} {r : Int} (h0 : 0 ≤ r) (h1 : r < ys.length) : ∃ y, y ∈ ys ∧ atI ys r = some y := by
  have hj : r.toNat < ys.length := by omega
  refine ⟨ys[r.toNat], List.getElem_mem hj, ?_⟩
  have e : ((r.toNat : Nat) : Int) = r := Int.toNat_of_nonneg h0
  have := atI_nat (xs := ys) (j := r.toNat) (List.getElem?_eq_getElem hj)
  rw [e] at this
  exact this
theorem ok_of {f f1 : Addr} {fd fd1 : FuncData} (F : Fun K "_law_of" "_law_of" sOf f fd) (T : Txt K mg) (D1 : Df K mg "_law_draw" sDraw ["state", "many"] f1 fd1) (G1 : FnOk P w K mg base CX0 2 f1 fd1 ["state", "many"] spDraw) :
    FnOk P w K mg base CX0 3 f fd ["state", "some"] spOf := by
  refine F.ok scOf (fun vs H Q E h => ?_) (fun cdv A outer s H vs Q E hr h => ?_)
  · obtain ⟨d, c, l, n, a, p, ys, rfl, _⟩ := h
    rfl
  refine ⟨_, pss_one (ps_ret (pe_ix ix_list (pv 1) (cal D1 G1 hr (pa_cons (pv 0) (pa_cons (lenQ T.b_len (pv 1)) pa_nil))) (fun _ _ => rfl))), ?_⟩
  obtain ⟨d, c, l, n, a, p, ys, rfl, S, a0, a1, hp, n1, n2, l1, l2, q⟩ := h
  refine ⟨_, rfl, _, rfl, _, rfl, ys, .inl (SqL.of hp), d, c, l, n, a, _, rfl, S, a0, a1, by omega, by omega, fun r H1 k1 S1 r0 r1 => ?_⟩
  obtain ⟨y, hy, ey⟩ := at_int r0 r1
  exact ⟨p, ys, r, y, rfl, rfl, SqL.of (k1 _ _ n1 n2 hp), ey, q y H1 hy k1 S1⟩

/-! ### _law_plain -/
abbrev sPlain : Stmt := topS 61
theorem scPlain : FnScope ["state"] ["state"] (defScope sPlain) := ⟨rfl, rfl, rfl, by decide +kernel, rfl, by decide +kernel, by decide +kernel⟩
def plainsL : List Str := ["a", "b", "x", "ab", "a b", "0", "-", "=", ":", "./", "a=b", "_:=,@-"]
theorem plains_ok : ∀ s ∈ plainsL, okP s ∧ (tl s).length ≤ 6 := by decide +kernel
def spPlain : Sp := fun vs H Q _ => ∃ (d c l : Addr) (n : Nat) (a : Int), vs = [.ref d] ∧ Sta H d c l n a ∧ 0 ≤ a ∧ a ≤ 1000000000000 ∧ ∀ s H', okP s → (tl s).length ≤ 6 → Kp d l H H' → Sta H' d c l n (a + 1) → Q (.str s) H'
theorem ok_plain {f f1 : Addr} {fd fd1 : FuncData} (F : Fun K "_law_plain" "_law_plain" sPlain f fd) (D1 : Df K mg "_law_draw" sDraw ["state", "many"] f1 fd1) (G1 : FnOk P w K mg base CX0 2 f1 fd1 ["state", "many"] spDraw) :
    FnOk P w K mg base CX0 3 f fd ["state"] spPlain := by
  refine F.ok scPlain (fun vs H Q E h => ?_) (fun cdv A outer s H vs Q E hr h => ?_)
  · obtain ⟨d, c, l, n, a, rfl, _⟩ := h
    rfl
  refine ⟨_, pss_one (ps_ret (pe_ix ix_list (pe_lst (pa_cons pe_str (pa_cons pe_str (pa_cons pe_str (pa_cons pe_str (pa_cons pe_str (pa_cons pe_str (pa_cons pe_str (pa_cons pe_str (pa_cons pe_str (pa_cons pe_str (pa_cons pe_str (pa_cons pe_str pa_nil)))))))))))))
    (cal D1 G1 hr (pa_cons (pv 0) (pa_cons pe_int pa_nil))) (fun _ _ => rfl))), ?_⟩
  obtain ⟨d, c, l, n, a, rfl, S, a0, a1, q⟩ := h
  refine ⟨(show 12 ≤ sizeLine by decide), fun p hp => ⟨_, rfl, d, c, l, n, a, 12, rfl, S.keep (sNew hp _), a0, a1, by decide, by decide, fun r H1 k1 S1 r0 r1 => ?_⟩⟩
  have np := S.new hp
  obtain ⟨y, hy, ey⟩ := at_int (ys := plainsL.map V.str) r0 r1
  obtain ⟨z, hz, rfl⟩ := List.mem_map.mp hy
  have ok := plains_ok z hz
  exact ⟨p, _, r, _, rfl, rfl, SqL.of (k1 _ _ np.1 np.2.2 upd_same), ey, q z H1 ok.1 ok.2 ((Kp.of (sNew hp _)).trans k1) S1⟩

/-! ### _law_names -/
theorem map_erase : ∀ (xs : List Str) (k : Nat), (xs.map V.str).eraseIdx k = (xs.eraseIdx k).map V.str
  | [], _ => rfl
  | _ :: _, 0 => rfl
  | x :: xs, k + 1 => congrArg (V.str x :: ·) (map_erase xs k)
theorem Kp.fresh {d c l p : Addr} {n : Nat} {a : Int} {H H1 : Hp} (k1 : Kp d l H H1) (S1 : Sta H1 d c l n a) (hq : H1 p = none) : H p = none := by
  cases e : H p with
  | none => rfl
  | some o => rw [k1 _ _ (S1.new hq).1 (S1.new hq).2.2 e] at hq; cases hq
abbrev sNames : Stmt := topS 60
theorem scNames : FnScope ["state", "many", "some", "found", "k"] ["state", "many"] (defScope sNames) := ⟨rfl, rfl, rfl, by decide +kernel, rfl, by decide +kernel, by decide +kernel⟩
def poolL : List Str := ["A", "B", "C", "D_", "DB", "HOST", "X", "Y", "Z_Z", "ABCDEFGH"]
theorem pool_ok : ∀ s ∈ poolL, okN s := by decide +kernel
def spNames : Sp := fun vs H Q _ => ∃ (d c l : Addr) (n : Nat) (a : Int) (m : Nat), vs = [.ref d, .int m] ∧ Sta H d c l n a ∧ 0 ≤ a ∧ a + 6 ≤ 1000000000000 ∧ 1 ≤ m ∧ m ≤ 6 ∧
  ∀ (zs : List Str) q H' a', Kp d l H H' → Sta H' d c l n a' → a ≤ a' → a' ≤ a + 6 → H q = none → H' q = some (.lst (zs.map V.str)) → zs.length = m → (∀ z ∈ zs, okN z) → Q (.ref q) H'
theorem ok_names {f f1 : Addr} {fd fd1 : FuncData} (F : Fun K "_law_names" "_law_names" sNames f fd) (T : Txt K mg) (D1 : Df K mg "_law_draw" sDraw ["state", "many"] f1 fd1) (G1 : FnOk P w K mg base CX0 2 f1 fd1 ["state", "many"] spDraw) :
    FnOk P w K mg base CX0 3 f fd ["state", "many"] spNames := by
  refine F.ok scNames (fun vs H Q E h => ?_) (fun cdv A outer s H vs Q E hr h => ?_)
  · obtain ⟨d, c, l, n, a, m, rfl, _⟩ := h
    rfl
  have nd := scNames.nd
  refine ⟨_, pss_cons (ps_par (i := 2) (j := 3) rfl nd rfl rfl (by decide) rfl rfl (pa_cons (pe_lst (pa_cons pe_str (pa_cons pe_str (pa_cons pe_str (pa_cons pe_str (pa_cons pe_str (pa_cons pe_str (pa_cons pe_str (pa_cons pe_str (pa_cons pe_str (pa_cons pe_str pa_nil))))))))))) (pa_cons (pe_lst pa_nil) pa_nil)) (by rfl))
    (pss_cons (ps_for PassesOwn.never rfl (pi_range1 rfl T.b_range (pa_cons (pv 1) pa_nil)) (pg_name (i := 4) nd rfl (Or.inl rfl))
      (pss_one (ps_expr (pe_bm PySem.F.plainAttrs_list PySem.F.slot_list_append PySem.F.type_list_append mt_append (pv 3) (pa_cons
        (pe_bm PySem.F.plainAttrs_list PySem.F.slot_list_pop PySem.F.type_list_pop mt_popAt (pv 2) (pa_cons (cal D1 G1 hr (pa_cons (pv 0) (pa_cons (lenQ T.b_len (pv 2)) pa_nil))) pa_nil)) pa_nil)))))
    (pss_one (ps_ret (pe_callB cr_sortedS rfl T.b_sorted boot_sortB (pa_cons (pv 3) pa_nil))))), ?_⟩
  obtain ⟨d, c, l, n, a, m, rfl, S, a0, a1, m1, m2, q⟩ := h
  refine ⟨(show 10 ≤ sizeLine by decide), fun p hp => ⟨Nat.zero_le _, fun g hg => ⟨_, _, rfl, ?_⟩⟩⟩
  have gp : g ≠ p := fun e => by
    rw [e, upd_same] at hg
    cases hg
  have hg0 : H g = none := sNone (sNew hp _) hg
  have e2 : Same H (upd (upd H p (.lst (poolL.map V.str))) g (.lst [])) := (sNew hp _).trans (sNew hg _)
  have np := S.new hp
  have ng := S.new hg0
  refine ⟨_, rfl, m, rfl, by omega, by omega, for_it walk_range (fun i σ H' => ∃ (xs ys : List Str) (x : Option V), σ = [some (.ref d), some (.int m), some (.ref p), some (.ref g), x] ∧ Kp d l H H' ∧ Sta H' d c l n (a + i) ∧
    H' p = some (.lst (xs.map V.str)) ∧ H' g = some (.lst (ys.map V.str)) ∧ xs.length = 10 - i ∧ ys.length = i ∧ (∀ z ∈ xs, okN z) ∧ ∀ z ∈ ys, okN z) ⟨poolL, [], none, rfl, Kp.of e2, ?_, ?_, upd_same, rfl, rfl, pool_ok, (fun z hz => nomatch hz)⟩ (fun _ _ _ _ _ => trivial) ?_ ?_⟩
  · rw [show a + ((0 : Nat) : Int) = a by omega]
    exact S.keep e2
  · rw [upd_ne (Ne.symm gp), upd_same]
    rfl
  · rintro i x σ H1 H2 hi ⟨xs, ys, x4, rfl, k1, S1, h1, h2, lx, ly, okx, oky⟩ ⟨rfl, rfl⟩
    have hi' : i < m := hi
    refine ⟨_, rfl, .inl ⟨rfl, _, SqL.of h2⟩, _, rfl, .inl ⟨rfl, _, SqL.of h1⟩, _, rfl, _, rfl, _, .inl (SqL.of h1), d, c, l, n, a + i, _, rfl, S1, by omega, by omega, ?_, ?_, fun r H3 k3 S3 r0 r1 => ?_⟩
    · rw [List.length_map, lx]
      omega
    · rw [List.length_map, lx]
      omega
    have hp3 := k3 _ _ np.1 np.2.2 h1
    have hg3 := k3 _ _ ng.1 ng.2.2 h2
    rw [List.length_map] at r1
    have hj : r.toNat < xs.length := by omega
    have e3 : (xs.map V.str)[r.toNat]? = some (.str xs[r.toNat]) := by rw [List.getElem?_map, List.getElem?_eq_getElem hj]; rfl
    refine ⟨p, _, r, r.toNat, _, rfl, rfl, hp3, by omega, by omega, seqIndex_of r0 (by rw [List.length_map]; exact r1), e3, ?_⟩
    have em : (xs.map V.str).eraseIdx r.toNat = (xs.eraseIdx r.toNat).map V.str := map_erase _ _
    rw [em]
    have hg4 : (upd H3 p (.lst ((xs.eraseIdx r.toNat).map V.str))) g = some (.lst (ys.map V.str)) := by
      rw [upd_ne gp]
      exact hg3
    refine ⟨g, _, _, rfl, rfl, hg4, ?_, xs.eraseIdx r.toNat, ys ++ [xs[r.toNat]], _, rfl, ?_, ?_, ?_, ?_, ?_, ?_, ?_, ?_⟩
    · rw [List.length_map, ly]
      exact Nat.lt_of_lt_of_le hi' (Nat.le_trans m2 (by decide))
    · exact ((k1.trans k3).put hp _).put hg0 _
    · rw [show a + ((i + 1 : Nat) : Int) = a + i + 1 by omega]
      exact (S3.put _ np).put _ ng
    · rw [upd_ne (Ne.symm gp), upd_same]
    · rw [upd_same, List.map_append]
      rfl
    · rw [List.length_eraseIdx_of_lt hj, lx]
      omega
    · rw [List.length_append, ly]
      rfl
    · exact fun z hz => okx z (List.mem_of_mem_eraseIdx hz)
    · intro z hz
      rcases List.mem_append.mp hz with hz | hz
      · exact oky z hz
      · rw [List.mem_singleton.mp hz]
        exact okx _ (List.getElem_mem hj)
  · rintro σ H1 ⟨xs, ys, x4, rfl, k1, S1, h1, h2, lx, ly, okx, oky⟩
    have lym : ys.length = m := ly
    refine ⟨_, rfl, g, ys, rfl, SqL.of h2, by omega, fun zs q1 perm _ hq => ?_⟩
    exact q zs q1 _ (a + m) (k1.trans (Kp.of (sNew hq _))) (S1.keep (sNew hq _)) (by omega) (by omega) (k1.fresh S1 hq) upd_same (by rw [perm.length_eq, lym]) fun z hz => oky z (perm.mem_iff.mp hz)
end
end Er
namespace Er
open PySem L2 TL
namespace T
theorem gd_app : ∀ (a b : T) (x : Bool) (l : Nat), gd a l x → gd b l (a.lastB x) → gd (a.app b) l x
  | nil, _, _, _, _, h => h
  | plain s r, b, x, l, ⟨h1, h2, h3⟩, h => ⟨h1, h2, gd_app r b true l h3 h⟩
  | part n s u r, b, x, l, ⟨h1, h2, h3, h4, h5⟩, h => ⟨h1, h2, h3, h4, gd_app r b false l h5 h⟩
theorem gd_mono : ∀ (a : T) (x : Bool) {l l' : Nat}, l ≤ l' → gd a l x → gd a l' x
  | nil, _, _, _, _, _ => trivial
  | plain s r, x, l, l', h, ⟨h1, h2, h3⟩ => ⟨h1, h2, gd_mono r true h h3⟩
  | part n s u r, x, l, l', h, ⟨h1, h2, h3, h4, h5⟩ => ⟨h1, h2, h3, fun e => ⟨Nat.le_trans (h4 e).1 h, (h4 e).2.1, gd_mono u false (Nat.sub_le_sub_right h 1) (h4 e).2.2⟩, gd_mono r false h h5⟩
theorem wS_app : ∀ a b : T, (a.app b).wS = a.wS + b.wS
  | nil, b => (Nat.zero_add _).symm
  | plain s r, b => by
    show 10 * (tl s).length + 4 + (r.app b).wS = 10 * (tl s).length + 4 + r.wS + b.wS
    rw [wS_app r b]
    omega
  | part n s u r, b => by
    show 10 * (tl n).length + 10 * (tl s).length + 16 + u.wS + (r.app b).wS = 10 * (tl n).length + 10 * (tl s).length + 16 + u.wS + r.wS + b.wS
    rw [wS_app r b]
    omega
theorem names_app : ∀ a b : T, (a.app b).names = a.names ++ b.names
  | nil, _ => rfl
  | plain s r, b => names_app r b
  | part n s u r, b => by
    show n :: (u.names ++ (r.app b).names) = n :: (u.names ++ r.names) ++ b.names
    rw [names_app r b]
    simp
end T
/-- what a drawn text may cost in draws; how heavy it may be -/
def cPc : Nat → Nat
  | 0 => 1
  | d + 1 => 3 + (2 + 3 * cPc d)
def cT (d : Nat) : Nat := 2 + 3 * cPc d
def wPc : Nat → Nat
  | 0 => 64
  | d + 1 => 116 + 3 * wPc d
def wT (d : Nat) : Nat := 3 * wPc d
section
variable {P : Program} {w : World} {K : PySem.W.Frag} {mg : Str → Option Value} {base : Heap}

/-! ### _law_text -/
abbrev sText : Stmt := topS 62
theorem scText : FnScope ["state", "names", "deep", "found", "k", "name", "sign"] ["state", "names", "deep"] (defScope sText) := ⟨rfl, rfl, rfl, by decide +kernel, rfl, by decide +kernel, by decide +kernel⟩
def spText (lim : Nat) : Sp := fun vs H Q _ => ∃ (d c l : Addr) (n : Nat) (a : Int) (p : Addr) (zs : List Str) (deep : Nat), vs = [.ref d, .ref p, .int (deep : Nat)] ∧ deep < lim ∧ Sta H d c l n a ∧ 0 ≤ a ∧ a + (cT deep : Nat) ≤ 1000000000000 ∧
  H p = some (.lst (zs.map V.str)) ∧ p ≠ d ∧ p ≠ l ∧ 1 ≤ zs.length ∧ zs.length ≤ 1000 ∧ (∀ z ∈ zs, okN z) ∧
  ∀ (t : T) q H' a', Kp d l H H' → Sta H' d c l n a' → a ≤ a' → a' ≤ a + (cT deep : Nat) → TAt H' q t → t.gd (deep + 1) false → t.len ≤ 3 → t.wS ≤ wT deep → (∀ z ∈ t.names, z ∈ zs) → Q (.ref q) H'
def drawnL : List Str := ["", "-", ":-", "+", ":+", "?", ":?", "=", ":=", "", ":-", "+"]
theorem drawn_ok : ∀ s ∈ drawnL, s ∈ signsL := by decide +kernel
theorem pt_weak {X : Cx} {e : Expr} {t t' : TT} (h : PT X e t) (k : ∀ σ H Q, t' σ H Q → t σ H Q) : PT X e t' := ⟨fun pins s σ H Q I q => h.run pins s σ H Q I (k σ H Q q)⟩
/-- deep == 0, or a draw of three tells 0 -/
def tEnd : TT := fun σ H Q => ∃ (d c l : Addr) (n : Nat) (a : Int) (deep : Nat), σ[0]? = some (some (.ref d)) ∧ σ[2]? = some (some (.int (deep : Nat))) ∧ Sta H d c l n a ∧ 0 ≤ a ∧ a ≤ 1000000000000 ∧
  (∀ H' (a' : Int), Kp d l H H' → Sta H' d c l n a' → a ≤ a' → (a' ≤ a ∨ (deep ≠ 0 ∧ a' ≤ a + 1)) → Q true H') ∧ (deep ≠ 0 → ∀ H', Kp d l H H' → Sta H' d c l n (a + 1) → Q false H')
/-- no piece found, or the last one isn't plain -/
def tOpen : TT := fun σ H Q => ∃ (g : Addr) (xs : List V) (t : Er.T), σ[3]? = some (some (.ref g)) ∧ H g = some (.lst xs) ∧ TIs H t xs ∧ t.lay = true ∧ ∀ H', Same H H' → Q (!(t.lastB false)) H'
/-- what stands in a part -/
def tSub (lim : Nat) : TE := fun σ H Q => ∃ (d c l : Addr) (n : Nat) (a : Int) (p : Addr) (zs : List Str) (deep : Nat) (s : Str), σ[0]? = some (some (.ref d)) ∧ σ[1]? = some (some (.ref p)) ∧ σ[2]? = some (some (.int ((deep + 1 : Nat) : Int))) ∧ σ[6]? = some (some (.str s)) ∧
  deep < lim ∧ Sta H d c l n a ∧ 0 ≤ a ∧ a + (cT deep : Nat) ≤ 1000000000000 ∧ H p = some (.lst (zs.map V.str)) ∧ p ≠ d ∧ p ≠ l ∧ 1 ≤ zs.length ∧ zs.length ≤ 1000 ∧ (∀ z ∈ zs, okN z) ∧
  ∀ (t : Er.T) q H' a', Kp d l H H' → Sta H' d c l n a' → a ≤ a' → a' ≤ a + (cT deep : Nat) → TAt H' q t → (s = ("" : Str) → t = .nil) → t.gd (deep + 1) false → t.len ≤ 3 → t.wS ≤ wT deep → (∀ z ∈ t.names, z ∈ zs) → Q (.ref q) H'
theorem ok_text {lim : Nat} {f f1 f2 f3 : Addr} {fd fd1 fd2 fd3 : FuncData} (F : Fun K "_law_text" "_law_text" sText f fd) (T : Txt K mg) (D1 : Df K mg "_law_draw" sDraw ["state", "many"] f1 fd1) (G1 : FnOk P w K mg base CX0 2 f1 fd1 ["state", "many"] spDraw)
    (D2 : Df K mg "_law_plain" sPlain ["state"] f2 fd2) (G2 : FnOk P w K mg base CX0 3 f2 fd2 ["state"] spPlain) (D3 : Df K mg "_law_text" sText ["state", "names", "deep"] f3 fd3) (G3 : FnOk P w K mg base CX0 (lim + 3) f3 fd3 ["state", "names", "deep"] (spText lim)) :
    FnOk P w K mg base CX0 (lim + 4) f fd ["state", "names", "deep"] (spText (lim + 1)) := by
  refine F.ok scText (fun vs H Q E h => ?_) (fun cdv A outer s H vs Q E hr h => ?_)
  · obtain ⟨d, c, l, n, a, p, zs, deep, rfl, _⟩ := h
    rfl
  have nd := scText.nd
  have hr2 : Room 2 (A.deeper (PyProof.Rows.envOfC "_law_text" (defScope sText) s.heap.objs.size f cdv)) := hr.mono (by omega)
  have hr3 : Room 3 (A.deeper (PyProof.Rows.envOfC "_law_text" (defScope sText) s.heap.objs.size f cdv)) := hr.mono (by omega)
  refine ⟨_, pss_cons (ps_set (i := 3) nd rfl (Or.inl rfl) (pe_lst pa_nil))
    (pss_cons (ps_for PassesOwn.never rfl (pi_range1 rfl T.b_range (pa_cons (cal D1 G1 hr2 (pa_cons (pv 0) (pa_cons (pe_ix ix_list (pe_lst (pa_cons pe_int (pa_cons pe_int (pa_cons pe_int (pa_cons pe_int pa_nil))))) (cal D1 G1 hr2 (pa_cons (pv 0) (pa_cons pe_int pa_nil))) (fun _ _ => rfl)) pa_nil))) pa_nil)) (pg_name (i := 4) nd rfl (Or.inl rfl))
      (pss_cons (ps_if (pt_weak (t' := tEnd) (PW.pt (pw_or (pt_cmpR op_eq (pv 2) pe_int (nomark _)) (pw_or1 (pt_cmpR op_eq (cal D1 G1 hr2 (pa_cons (pv 0) (pa_cons pe_int pa_nil))) pe_int (nomark _))))) fun σ H Q h => by
          obtain ⟨d, c, l, n, a, deep, e0, e2, S, a0, a1, q1, q2⟩ := h
          refine ⟨_, e2, rfl, _, rfl, ite2 (fun h => q1 H a (Kp.refl H) S (Int.le_refl _) (.inl (Int.le_refl _))) fun h => ?_⟩
          have dn : deep ≠ 0 := fun z => h (decide_eq_true (by rw [z]; rfl))
          refine ⟨_, e0, d, c, l, n, a, 3, rfl, S, a0, a1, by decide, by decide, fun r H1 k1 S1 r0 r1 => ⟨rfl, _, rfl, by
            cases decide (V.int r = V.int 0) with
            | true => exact q1 H1 _ k1 S1 (by omega) (.inr ⟨dn, Int.le_refl _⟩)
            | false => exact q2 dn H1 k1 S1⟩⟩)
        (pss_cons (ps_if (pt_weak (t' := tOpen) (PW.pt (pw_or (pt_cmpR (eq_void hr2) (pv 3) (pe_lst pa_nil) (nomark _)) (pw_or1 (pt_not (pt_val (isS T.b_isinstance T.b_str (pe_ix ix_list (pv 3) (pe_un un_neg pe_int) (fun _ _ => rfl)))))))) fun σ H Q h => by
              obtain ⟨g, xs, t, e3, hg, ht, lay, q⟩ := h
              refine ⟨_, e3, Nat.zero_le _, fun b hb => ?_⟩
              have e1 : Same H (upd H b (.lst [])) := sNew hb _
              have q1 := q _ e1
              refine ⟨g, xs, _, b, rfl, rfl, SqL.of (e1 _ _ hg), (ht.keep (sTups e1)).dp, Er.T.lay_dat t lay, SqL.of upd_same, _, rfl, ?_⟩
              cases lb : t.lastB false with
              | false =>
                rw [lb] at q1
                rcases ht.last false lb with ⟨rfl, _⟩ | ⟨ys, p, us, rfl, hp⟩
                · exact iteT q1
                · rw [if_neg Bool.false_ne_true, show (ys ++ [V.ref p]).isEmpty = false from by simp]
                  exact iteF ⟨_, e3, _, rfl, g, _, -1, _, rfl, rfl, SqL.of (e1 _ _ hg), atI_last _ _, rfl, .inr ⟨p, us, rfl, e1 _ _ hp, _, rfl, q1⟩⟩
              | true =>
                rw [lb] at q1
                rcases Er.T.last_plain t false lb with ⟨_, z⟩ | ⟨b0, s0, rfl⟩
                · cases z
                obtain ⟨ys, zs, rfl, k1, us, rfl, k3⟩ := ht.split
                obtain rfl : us = [] := k3
                rw [if_neg Bool.false_ne_true, show (ys ++ [V.str s0]).isEmpty = false from by simp]
                exact iteF ⟨_, e3, _, rfl, g, _, -1, _, rfl, rfl, SqL.of (e1 _ _ hg), atI_last _ _, rfl, .inl ⟨s0, rfl, _, rfl, q1⟩⟩)
            (pss_one (ps_expr (pe_bm PySem.F.plainAttrs_list PySem.F.slot_list_append PySem.F.type_list_append mt_append (pv 3) (pa_cons (cal D2 G2 hr3 (pa_cons (pv 0) pa_nil)) pa_nil)))) pss_nil)
          (pss_one ps_continue)) pss_nil)
      (pss_cons (ps_set (i := 5) nd rfl (Or.inl rfl) (pe_ix ix_list (pv 1) (cal D1 G1 hr2 (pa_cons (pv 0) (pa_cons (lenQ T.b_len (pv 1)) pa_nil))) (fun _ _ => rfl)))
      (pss_cons (ps_set (i := 6) nd rfl (Or.inl rfl) (pe_ix ix_list (pe_lst (pa_cons pe_str (pa_cons pe_str (pa_cons pe_str (pa_cons pe_str (pa_cons pe_str (pa_cons pe_str (pa_cons pe_str (pa_cons pe_str (pa_cons pe_str (pa_cons pe_str (pa_cons pe_str (pa_cons pe_str pa_nil)))))))))))))
          (cal D1 G1 hr2 (pa_cons (pv 0) (pa_cons pe_int pa_nil))) (fun _ _ => rfl)))
      (pss_one (ps_expr (pe_bm PySem.F.plainAttrs_list PySem.F.slot_list_append PySem.F.type_list_append mt_append (pv 3) (pa_cons (pe_tup (pa_cons (pv 5) (pa_cons (pv 6) (pa_cons
        (pe_weak (t' := tSub lim) (pe_ifExp (pt_cmpR op_eq (pv 6) pe_str (nomark _)) (pe_tup pa_nil) (cal D3 G3 hr (pa_cons (pv 0) (pa_cons (pv 1) (pa_cons (pe_op op_sub (pv 2) pe_int) pa_nil))))) fun σ H Q h => by
          obtain ⟨d, c, l, n, a, p, zs, deep, s, e0, e1, e2, e6, dl, S, a0, a1, hp, p1, p2, z1, z2, okz, q⟩ := h
          refine ⟨_, e6, rfl, _, rfl, ?_⟩
          by_cases h0 : s = ("" : Str)
          · rw [h0, decide_eq_true (rfl : V.str "" = V.str "")]
            exact iteT ⟨Nat.zero_le _, fun b hb => q .nil b _ a (Kp.of (sNew hb _)) (S.keep (sNew hb _)) (Int.le_refl _) (by omega) ⟨[], upd_same, rfl⟩ (fun _ => rfl) trivial (Nat.zero_le _) (Nat.zero_le _) fun _ z => nomatch z⟩
          · rw [decide_eq_false (fun z => h0 (V.str.inj z))]
            have ed : ((deep + 1 : Nat) : Int) - 1 = (deep : Nat) := by omega
            refine iteF ⟨_, e0, _, e1, _, e2, _, _, rfl, rfl, d, c, l, n, a, p, zs, deep, ?_, dl, S, a0, a1, hp, p1, p2, z1, z2, okz, fun t q1 H1 a2 k1 S1 b1 b2 h1 g1 l1 w1 m1 => q t q1 H1 a2 k1 S1 b1 b2 h1 (fun z => absurd z h0) g1 l1 w1 m1⟩
            show [V.ref d, V.ref p, V.int (((deep + 1 : Nat) : Int) - 1)] = _
            rw [ed]) pa_nil)))) pa_nil))))))))
    (pss_one (ps_ret (pe_callTy call_tuple_of rfl T.b_tuple boot_tupT (pa_cons (pv 3) pa_nil))))), ?_⟩
  obtain ⟨d, c, l, n, a, p, zs, deep, rfl, dl, S, a0, a1, hp, p1, p2, z1, z2, okz, q⟩ := h
  refine ⟨Nat.zero_le _, fun g hg => ?_⟩
  have S0 := S.keep (sNew hg (.lst []))
  have ng := S.new hg
  have c0 : 2 ≤ cT deep := by unfold cT; omega
  refine ⟨_, rfl, (show 4 ≤ sizeLine by decide), fun b hb => ?_⟩
  have S00 := S0.keep (sNew hb (.lst [.int 2, .int 3, .int 3, .int 4]))
  have nb := S0.new hb
  refine ⟨_, rfl, d, c, l, n, a, 4, rfl, S00, a0, by omega, by decide, by decide, fun r1 H2 k2 S2 r1a r1b => ?_⟩
  obtain ⟨y, hy, ey⟩ := at_int (ys := ([2, 3, 3, 4] : List Int).map V.int) r1a r1b
  obtain ⟨m, hm, rfl⟩ := List.mem_map.mp hy
  have mb : 2 ≤ m ∧ m ≤ 4 := (by decide : ∀ m ∈ ([2, 3, 3, 4] : List Int), 2 ≤ m ∧ m ≤ 4) m hm
  refine ⟨b, _, r1, _, rfl, rfl, SqL.of (k2 _ _ nb.1 nb.2.2 upd_same), ey, d, c, l, n, a + 1, m, rfl, S2, by omega, by omega, by omega, by omega, fun r2 H3 k3 S3 r2a r2b => ?_⟩
  have e00 : Same H (upd (upd H g (.lst [])) b (.lst [.int 2, .int 3, .int 3, .int 4])) := (sNew hg _).trans (sNew hb _)
  have k03 : Kp d l H H3 := (Kp.of e00).trans (k2.trans k3)
  have hg3 : H3 g = some (.lst []) := k3 _ _ ng.1 ng.2.2 (k2 _ _ ng.1 ng.2.2 (sNew hb _ _ _ upd_same))
  have n3 : r2.toNat ≤ 3 := by omega
  refine ⟨r2, rfl, by omega, by omega, for_it walk_range (fun i σ H' => ∃ (xs : List V) (t : Er.T) (a' : Int) (x4 x5 x6 : Option V), σ = [some (.ref d), some (.ref p), some (.int (deep : Nat)), some (.ref g), x4, x5, x6] ∧ Kp d l H H' ∧ Sta H' d c l n a' ∧ a ≤ a' ∧ a' ≤ a + 2 + ((i * cPc deep : Nat) : Int) ∧
    H' g = some (.lst xs) ∧ TIs H' t xs ∧ t.gd (deep + 1) false ∧ t.len ≤ i ∧ t.wS ≤ i * wPc deep ∧ ∀ z ∈ t.names, z ∈ zs) ⟨[], .nil, a + 1 + 1, none, none, none, rfl, k03, S3, by omega, by omega, hg3, rfl, trivial, Nat.le_refl _, Nat.zero_le _, (fun z hz => nomatch hz)⟩ (fun _ _ _ _ _ => trivial) ?_ ?_⟩
  · rintro i x σ H4 H5 hi ⟨xs, t, a4, x4, x5, x6, rfl, k4, S4, a4a, a4b, hg4, ht, gd, tlen, tw, tn⟩ ⟨rfl, rfl⟩
    have hp4 := k4 _ _ p1 p2 hp
    have step1 : (i + 1) * cPc deep = i * cPc deep + cPc deep := Nat.succ_mul _ _
    have step2 : (i + 1) * wPc deep = i * wPc deep + wPc deep := Nat.succ_mul _ _
    have top : i * cPc deep + cPc deep ≤ 3 * cPc deep := by
      rw [← step1]
      exact Nat.mul_le_mul_right _ (by omega)
    have ce : cT deep = 2 + 3 * cPc deep := rfl
    have cp1 : 1 ≤ cPc deep := by cases deep <;> (unfold cPc; omega)
    have room : ∀ {ys : List V}, ys.length ≤ 100 → ys.length < sizeLine := fun h => Nat.lt_of_le_of_lt h (by decide)
    refine ⟨d, c, l, n, a4, deep, rfl, rfl, S4, by omega, by omega, fun H5 a5 k5 S5 b1 b2 => ?_, fun dn H5 k5 S5 => ?_⟩
    · have tu5 := k5.tups S4
      have hg5 := k5 _ _ ng.1 ng.2.2 hg4
      have b3 : a5 + 1 ≤ a4 + (cPc deep : Nat) := by
        rcases b2 with b2 | ⟨dn, b2⟩
        · omega
        · obtain ⟨dd, rfl⟩ := Nat.exists_eq_succ_of_ne_zero dn
          have : cPc (dd + 1) = 3 + (2 + 3 * cPc dd) := rfl
          rw [Nat.succ_eq_add_one] at *
          omega
      refine ⟨g, xs, t, rfl, hg5, ht.keep tu5, Er.T.gd_lay t _ _ gd, fun H6 e6 => ?_⟩
      have k6 := (k4.trans k5).trans (Kp.of e6)
      have S6 := S5.keep e6
      have hg6 := e6 _ _ hg5
      have ht6 := (ht.keep tu5).keep (sTups e6)
      cases lb : t.lastB false with
      | true => exact iteF ⟨xs, t, a5, _, _, _, rfl, k6, S6, by omega, by omega, hg6, ht6, gd, by omega, by omega, tn⟩
      | false =>
        refine iteT ⟨_, rfl, .inl ⟨rfl, _, SqL.of hg6⟩, _, rfl, d, c, l, n, a5, rfl, S6, by omega, by omega, fun s0 H7 oks ls k7 S7 => ?_⟩
        have hg7 := k7 _ _ ng.1 ng.2.2 hg6
        have ht7 := ht6.keep (k7.tups S6)
        have tu8 : Tups H7 (upd H7 g (.lst (xs ++ [V.str s0]))) := Tups.put hg7 _
        refine ⟨g, xs, _, rfl, rfl, hg7, room (by rw [ht.len]; omega), xs ++ [V.str s0], t.app (.plain s0 .nil), a5 + 1, _, _, _, rfl, (k6.trans k7).put hg _, S7.put _ ng, by omega, by omega, upd_same, (ht7.keep tu8).app ⟨[], rfl, rfl⟩, ?_, ?_, ?_, ?_⟩
        · exact Er.T.gd_app t _ false _ gd (by rw [lb]; exact ⟨rfl, oks, trivial⟩)
        · rw [Er.T.len_app]
          show t.len + 1 ≤ i + 1
          omega
        · have w64 : 64 ≤ wPc deep := by cases deep <;> (unfold wPc; omega)
          rw [Er.T.wS_app]
          show t.wS + (10 * (tl s0).length + 4 + 0) ≤ _
          omega
        · rw [Er.T.names_app]
          intro z hz
          rcases List.mem_append.mp hz with hz | hz
          · exact tn z hz
          · exact nomatch hz
    · obtain ⟨dd, rfl⟩ := Nat.exists_eq_succ_of_ne_zero dn
      have cpe : cPc (dd + 1) = 3 + cT dd := rfl
      have wpe : wPc (dd + 1) = 116 + wT dd := rfl
      rw [Nat.succ_eq_add_one] at *
      have hp5 := k5 _ _ p1 p2 hp4
      have hg5 := k5 _ _ ng.1 ng.2.2 hg4
      have ht5 := ht.keep (k5.tups S4)
      refine ⟨_, rfl, _, rfl, _, rfl, _, .inl (SqL.of hp5), d, c, l, n, a4 + 1, _, rfl, S5, by omega, by omega, by rw [List.length_map]; omega, by rw [List.length_map]; omega, fun r H6 k6 S6 r0 r1 => ?_⟩
      obtain ⟨y, hy, ey⟩ := at_int (ys := zs.map V.str) r0 r1
      obtain ⟨n0, hn0, rfl⟩ := List.mem_map.mp hy
      have hp6 := k6 _ _ p1 p2 hp5
      have hg6 := k6 _ _ ng.1 ng.2.2 hg5
      have ht6 := ht5.keep (k6.tups S5)
      refine ⟨p, _, r, _, rfl, rfl, SqL.of hp6, ey, (show 12 ≤ sizeLine by decide), fun b2 hb2 => ?_⟩
      have e7 : Same H6 (upd H6 b2 (.lst (drawnL.map V.str))) := sNew hb2 _
      have S7 := S6.keep e7
      have nb2 := S6.new hb2
      refine ⟨_, rfl, d, c, l, n, a4 + 1 + 1, 12, rfl, S7, by omega, by omega, by decide, by decide, fun r' H8 k8 S8 r0' r1' => ?_⟩
      obtain ⟨y', hy', ey'⟩ := at_int (ys := drawnL.map V.str) r0' r1'
      obtain ⟨s0, hs0, rfl⟩ := List.mem_map.mp hy'
      have hp8 := k8 _ _ p1 p2 (e7 _ _ hp6)
      have hg8 := k8 _ _ ng.1 ng.2.2 (e7 _ _ hg6)
      have ht8 := (ht6.keep (sTups e7)).keep (k8.tups S7)
      have hS := drawn_ok s0 hs0
      refine ⟨b2, _, r', _, rfl, rfl, SqL.of (k8 _ _ nb2.1 nb2.2.2 upd_same), ey', _, rfl, .inl ⟨rfl, _, SqL.of hg8⟩, _, rfl, _, rfl, d, c, l, n, a4 + 1 + 1 + 1, p, zs, dd, s0, rfl, rfl, rfl, rfl, by omega, S8, by omega, by omega, hp8, p1, p2, z1, z2, okz, fun u b9 H9 a9 k9 S9 c1 c2 hu hnil gu lu wu nu => ?_⟩
      refine ⟨(show 3 ≤ sizeLine by decide), fun e he => ?_⟩
      have hg9 := k9 _ _ ng.1 ng.2.2 hg8
      have ht9 := ht8.keep (k9.tups S8)
      have e10 : Same H9 (upd H9 e (.tup [.str n0, .str s0, .ref b9])) := sNew he _
      have hg10 := e10 _ _ hg9
      have tu11 : Tups (upd H9 e (.tup [.str n0, .str s0, .ref b9])) (upd (upd H9 e (.tup [.str n0, .str s0, .ref b9])) g (.lst (xs ++ [V.ref e]))) := Tups.put hg10 _
      obtain ⟨us, hu1, hu2⟩ := hu
      have kall : Kp d l H H9 := ((((k4.trans k5).trans k6).trans (Kp.of e7)).trans k8).trans k9
      refine ⟨g, xs, _, rfl, rfl, hg10, room (by rw [ht.len]; omega), xs ++ [V.ref e], t.app (.part n0 s0 u .nil), a9, _, _, _, rfl, (kall.trans (Kp.of e10)).put hg _, (S9.keep e10).put _ ng, by omega, by omega, upd_same, ((ht9.keep (sTups e10)).keep tu11).app ⟨e, b9, us, [], rfl, tu11 _ _ upd_same, tu11 _ _ (e10 _ _ hu1), (hu2.keep (sTups e10)).keep tu11, rfl⟩, ?_, ?_, ?_, ?_⟩
      · exact Er.T.gd_app t _ false _ gd ⟨okz n0 hn0, hS, hnil, fun _ => ⟨by omega, by omega, gu⟩, trivial⟩
      · rw [Er.T.len_app]
        show t.len + 1 ≤ i + 1
        omega
      · have l1 := (okN_len (okz n0 hn0)).2
        have l2 := sign_len hS
        rw [Er.T.wS_app]
        show t.wS + (10 * (tl n0).length + 10 * (tl s0).length + 16 + u.wS + 0) ≤ _
        omega
      · rw [Er.T.names_app]
        intro z hz
        rcases List.mem_append.mp hz with hz | hz
        · exact tn z hz
        · rcases List.mem_cons.mp hz with hz | hz
          · rw [hz]
            exact hn0
          · rcases List.mem_append.mp hz with hz | hz
            · exact nu z hz
            · exact nomatch hz
  · rintro σ H4 ⟨xs, t, a4, x4, x5, x6, rfl, k4, S4, a4a, a4b, hg4, ht, gd, tlen, tw, tn⟩
    have top : r2.toNat * cPc deep ≤ 3 * cPc deep := Nat.mul_le_mul_right _ n3
    have top2 : r2.toNat * wPc deep ≤ 3 * wPc deep := Nat.mul_le_mul_right _ n3
    have ce : cT deep = 2 + 3 * cPc deep := rfl
    refine ⟨_, rfl, g, xs, rfl, .inl ⟨SqL.of hg4, fun o ho => ?_⟩⟩
    exact q t o _ a4 (k4.trans (Kp.of (sNew ho _))) (S4.keep (sNew ho _)) a4a (by omega) ⟨xs, upd_same, ht.keep (Tups.new ho _)⟩ gd (by omega) (Nat.le_trans tw top2) tn
end
end Er
namespace Er
open PySem L2 TL
section
variable {P : Program} {w : World} {K : PySem.W.Frag} {mg : Str → Option Value} {base : Heap}
theorem none_text {k : Nat} {f : Addr} {fd : FuncData} : FnOk P w K mg base CX0 k f fd ["state", "names", "deep"] (spText 0) := by
  have no : ∀ vs H Q E, ¬ spText 0 vs H Q E := fun vs H Q E ⟨_, _, _, _, _, _, _, _, _, h, _⟩ => by omega
  exact ⟨fun vs H Q E h => absurd h (no vs H Q E), fun A outer s H args us vs Q E _ _ _ _ h => absurd h (no vs H Q E)⟩
theorem all_text {f f1 f2 : Addr} {fd fd1 fd2 : FuncData} (T : Txt K mg) (D : Df K mg "_law_text" sText ["state", "names", "deep"] f fd) (D1 : Df K mg "_law_draw" sDraw ["state", "many"] f1 fd1) (G1 : FnOk P w K mg base CX0 2 f1 fd1 ["state", "many"] spDraw)
    (D2 : Df K mg "_law_plain" sPlain ["state"] f2 fd2) (G2 : FnOk P w K mg base CX0 3 f2 fd2 ["state"] spPlain) : ∀ n : Nat, FnOk P w K mg base CX0 (n + 3) f fd ["state", "names", "deep"] (spText n)
  | 0 => none_text
  | n + 1 => ok_text D.F T D1 G1 D2 G2 D (all_text T D D1 G1 D2 G2 n)
/-- a drawn text is a good one -/
theorem drawn_okT {t : T} {deep : Nat} (hd : deep ≤ 3) (g : t.gd (deep + 1) false) (l : t.len ≤ 3) (w : t.wS ≤ wT deep) : okT t := by
  refine ⟨T.gd_mono t false (by omega) g, by omega, Nat.le_trans w ?_⟩
  have h0 : wT 0 = 192 := rfl
  have h1 : wT 1 = 924 := rfl
  have h2 : wT 2 = 3120 := rfl
  have h3 : wT 3 = 9708 := rfl
  match deep, hd with
  | 0, _ => omega
  | 1, _ => omega
  | 2, _ => omega
  | 3, _ => omega

/-! ### _law_row -/
abbrev sRow : Stmt := topS 63
theorem scRow : FnScope ["state", "names", "way", "name"] ["state", "names"] (defScope sRow) := ⟨rfl, rfl, rfl, by decide +kernel, rfl, by decide +kernel, by decide +kernel⟩
def spRow : Sp := fun vs H Q _ => ∃ (d c l : Addr) (n : Nat) (a : Int) (p : Addr) (zs : List Str), vs = [.ref d, .ref p] ∧ Sta H d c l n a ∧ 0 ≤ a ∧ a + 91 ≤ 1000000000000 ∧
  H p = some (.lst (zs.map V.str)) ∧ p ≠ d ∧ p ≠ l ∧ 1 ≤ zs.length ∧ zs.length ≤ 1000 ∧ (∀ z ∈ zs, okN z) ∧
  ∀ (r : Rw) v H' a', Kp d l H H' → Sta H' d c l n a' → a ≤ a' → a' ≤ a + 91 → RIs H' r v → r.ok → (∀ z ∈ r.names, z ∈ zs) → Q v H'
theorem ok_row {f f1 f2 : Addr} {fd fd1 fd2 : FuncData} (F : Fun K "_law_row" "_law_row" sRow f fd) (T : Txt K mg) (D1 : Df K mg "_law_draw" sDraw ["state", "many"] f1 fd1) (G1 : FnOk P w K mg base CX0 2 f1 fd1 ["state", "many"] spDraw)
    (D2 : Df K mg "_law_text" sText ["state", "names", "deep"] f2 fd2) (G2 : FnOk P w K mg base CX0 6 f2 fd2 ["state", "names", "deep"] (spText 3)) : FnOk P w K mg base CX0 7 f fd ["state", "names"] spRow := by
  refine F.ok scRow (fun vs H Q E h => ?_) (fun cdv A outer s H vs Q E hr h => ?_)
  · obtain ⟨d, c, l, n, a, p, zs, rfl, _⟩ := h
    rfl
  have nd := scRow.nd
  have hr2 : Room 2 (A.deeper (PyProof.Rows.envOfC "_law_row" (defScope sRow) s.heap.objs.size f cdv)) := hr.mono (by omega)
  refine ⟨_, pss_cons (ps_par (i := 2) (j := 3) rfl nd rfl rfl (by decide) rfl rfl (pa_cons (cal D1 G1 hr2 (pa_cons (pv 0) (pa_cons pe_int pa_nil))) (pa_cons (pe_ix ix_list (pv 1) (cal D1 G1 hr2 (pa_cons (pv 0) (pa_cons (lenQ T.b_len (pv 1)) pa_nil))) (fun _ _ => rfl)) pa_nil)) (by rfl))
    (pss_cons (ps_if (pt_cmpR op_eq (pv 2) pe_int (nomark _)) (pss_one (ps_ret (pe_tup (pa_cons pe_str (pa_cons (pv 3) pa_nil))))) pss_nil)
    (pss_cons (ps_if (pt_cmpR op_eq (pv 2) pe_int (nomark _)) (pss_one (ps_ret (pe_tup (pa_cons pe_str (pa_cons (cal D2 G2 hr (pa_cons (pv 0) (pa_cons (pv 1) (pa_cons pe_int pa_nil)))) pa_nil))))) pss_nil)
    (pss_one (ps_ret (pe_tup (pa_cons (pe_ix ix_list (pe_lst (pa_cons pe_str (pa_cons pe_str pa_nil))) (pe_op op_mod (pv 2) pe_int) (fun _ _ => rfl)) (pa_cons (pv 3) (pa_cons (cal D2 G2 hr (pa_cons (pv 0) (pa_cons (pv 1) (pa_cons pe_int pa_nil)))) pa_nil)))))))), ?_⟩
  obtain ⟨d, c, l, n, a, p, zs, rfl, S, a0, a1, hp, p1, p2, z1, z2, okz, q⟩ := h
  have c2 : cT 2 = 89 := rfl
  have two : 2 ≤ sizeLine := by decide
  have three : 3 ≤ sizeLine := by decide
  refine ⟨_, rfl, d, c, l, n, a, 8, rfl, S, a0, by omega, by decide, by decide, fun way H1 k1 S1 w0 w1 => ?_⟩
  have hp1 := k1 _ _ p1 p2 hp
  refine ⟨_, rfl, _, rfl, _, rfl, _, .inl (SqL.of hp1), d, c, l, n, a + 1, _, rfl, S1, by omega, by omega, by rw [List.length_map]; omega, by rw [List.length_map]; omega, fun r H2 k2 S2 r0 r1 => ?_⟩
  obtain ⟨y, hy, ey⟩ := at_int (ys := zs.map V.str) r0 r1
  obtain ⟨n0, hn0, rfl⟩ := List.mem_map.mp hy
  have hp2 := k2 _ _ p1 p2 hp1
  have k02 := k1.trans k2
  refine ⟨p, _, r, _, rfl, rfl, SqL.of hp2, ey, _, _, rfl, ?_⟩
  refine ⟨_, rfl, rfl, _, rfl, ite2 (fun _ => ?_) (fun _ => ?_)⟩
  · exact ⟨_, rfl, two, fun b hb => q (.drop n0) _ _ (a + 1 + 1) (k02.trans (Kp.of (sNew hb _))) (S2.keep (sNew hb _)) (by omega) (by omega) ⟨b, rfl, upd_same⟩ (okz n0 hn0) fun z hz => by rw [List.mem_singleton.mp hz]; exact hn0⟩
  refine ⟨_, rfl, rfl, _, rfl, ite2 (fun _ => ?_) (fun _ => ?_)⟩
  · refine ⟨_, rfl, _, rfl, d, c, l, n, a + 1 + 1, p, zs, 2, rfl, by decide, S2, by omega, by omega, hp2, p1, p2, z1, z2, okz, fun t b H3 a3 k3 S3 b1 b2 ht g ln ws nm => ?_⟩
    exact ⟨two, fun e he => q (.chk t) _ _ a3 ((k02.trans k3).trans (Kp.of (sNew he _))) (S3.keep (sNew he _)) (by omega) (by omega) ⟨e, b, rfl, upd_same, ht.keep (Tups.new he _)⟩ (drawn_okT (by decide) g ln ws) nm⟩
  refine ⟨(show 2 ≤ sizeLine by decide), fun b hb => ?_⟩
  have e3 : Same H2 (upd H2 b (.lst [.str "set", .str "give"])) := sNew hb _
  have S3 := S2.keep e3
  have hp3 := e3 _ _ hp2
  have k03 := k02.trans (Kp.of e3)
  have m0 := Int.emod_nonneg way (show (2 : Int) ≠ 0 by decide)
  have m1 := Int.emod_lt_of_pos way (show (0 : Int) < 2 by decide)
  have p02 : (0 : Int) < 2 := by decide
  obtain ⟨w0s, ew, hw⟩ : ∃ w0s : Str, atI [V.str "set", V.str "give"] (way % 2) = some (.str w0s) ∧ (w0s = ("set" : Str) ∨ w0s = ("give" : Str)) := by
    rcases (by omega : way % 2 = 0 ∨ way % 2 = 1) with e | e <;> rw [e]
    · exact ⟨"set", rfl, .inl rfl⟩
    · exact ⟨"give", rfl, .inr rfl⟩
  refine ⟨_, rfl, _, _, rfl, rfl, p02, b, _, _, _, rfl, rfl, SqL.of upd_same, ew, _, rfl, _, rfl, _, rfl, d, c, l, n, a + 1 + 1, p, zs, 2, rfl, by decide, S3, by omega, by omega, hp3, p1, p2, z1, z2, okz, fun t b4 H4 a4 k4 S4 b1 b2 ht g ln ws nm => ?_⟩
  refine ⟨three, fun e he => ?_⟩
  have k5 := (k03.trans k4).trans (Kp.of (sNew he (.tup [.str w0s, .str n0, .ref b4])))
  have S5 := S4.keep (sNew he (.tup [.str w0s, .str n0, .ref b4]))
  have h5 := ht.keep (Tups.new he (.tup [.str w0s, .str n0, .ref b4]))
  have okt := drawn_okT (by decide) g ln ws
  have nm' : ∀ z ∈ n0 :: t.names, z ∈ zs := fun z hz => by
    rcases List.mem_cons.mp hz with hz | hz
    · rw [hz]
      exact hn0
    · exact nm z hz
  rcases hw with rfl | rfl
  · exact q (.set n0 t) _ _ a4 k5 S5 (by omega) (by omega) ⟨e, b4, rfl, upd_same, h5⟩ ⟨okz n0 hn0, okt⟩ nm'
  · exact q (.give n0 t) _ _ a4 k5 S5 (by omega) (by omega) ⟨e, b4, rfl, upd_same, h5⟩ ⟨okz n0 hn0, okt⟩ nm'

/-! ### _law_file -/
abbrev sFile : Stmt := topS 64
theorem scFile : FnScope ["state", "names", "most", "k"] ["state", "names", "most"] (defScope sFile) := ⟨rfl, rfl, rfl, by decide +kernel, rfl, by decide +kernel, by decide +kernel⟩
def spFile : Sp := fun vs H Q _ => ∃ (d c l : Addr) (n : Nat) (a : Int) (p : Addr) (zs : List Str) (most : Int), vs = [.ref d, .ref p, .int most] ∧ Sta H d c l n a ∧ 0 ≤ a ∧ a + 3641 ≤ 1000000000000 ∧
  H p = some (.lst (zs.map V.str)) ∧ p ≠ d ∧ p ≠ l ∧ 1 ≤ zs.length ∧ zs.length ≤ 12 ∧ (∀ z ∈ zs, okN z) ∧ 1 ≤ most ∧ most ≤ 40 ∧
  ∀ (rs : List Rw) q H' a', Kp d l H H' → Sta H' d c l n a' → a ≤ a' → a' ≤ a + 3641 → FAt H' q rs → okF rs → Q (.ref q) H'
theorem ok_file {f f1 f2 : Addr} {fd fd1 fd2 : FuncData} (F : Fun K "_law_file" "_law_file" sFile f fd) (T : Txt K mg) (D1 : Df K mg "_law_draw" sDraw ["state", "many"] f1 fd1) (G1 : FnOk P w K mg base CX0 2 f1 fd1 ["state", "many"] spDraw)
    (D2 : Df K mg "_law_row" sRow ["state", "names"] f2 fd2) (G2 : FnOk P w K mg base CX0 7 f2 fd2 ["state", "names"] spRow) : FnOk P w K mg base CX0 8 f fd ["state", "names", "most"] spFile := by
  refine F.ok scFile (fun vs H Q E h => ?_) (fun cdv A outer s H vs Q E hr h => ?_)
  · obtain ⟨d, c, l, n, a, p, zs, most, rfl, _⟩ := h
    rfl
  have nd := scFile.nd
  have hr2 : Room 2 (A.deeper (PyProof.Rows.envOfC "_law_file" (defScope sFile) s.heap.objs.size f cdv)) := hr.mono (by omega)
  refine ⟨_, pss_one (ps_ret (pe_callTy call_tuple_of rfl T.b_tuple boot_tupT (pa_cons
      (pe_lc (own := [("k", 3)]) (g := gName 3) (tt := tYes) rfl nd (pi_range1 rfl T.b_range (pa_cons (cal D1 G1 hr2 (pa_cons (pv 0) (pa_cons (pe_op op_add (pv 2) pe_int) pa_nil))) pa_nil)) (blkOk_by (N := ["state", "names", "most", "k"]) (sc := defScope sFile) (by decide +kernel))
        (fun _ _ _ _ _ => pg_name (i := 3) nd rfl (Or.inl rfl)) (fun _ _ _ _ _ => pts_nil)
        (fun _ _ _ _ _ => cal D2 G2 hr (pa_cons (pv 0) (pa_cons (pv 1) pa_nil)))) pa_nil))), ?_⟩
  obtain ⟨d, c, l, n, a, p, zs, most, rfl, S, a0, a1, hp, p1, p2, z1, z2, okz, m1, m2, q⟩ := h
  refine ⟨_, rfl, _, rfl, _, _, rfl, rfl, d, c, l, n, a, most + 1, rfl, S, a0, by omega, by omega, by omega, fun r H1 k1 S1 r0 r1 => ?_⟩
  refine ⟨r, rfl, by omega, by omega, fun D hD => ?_⟩
  have hp1 := k1 _ _ p1 p2 hp
  have nD := S1.new hD
  have hD0 := k1.fresh S1 hD
  have n40 : r.toNat ≤ 40 := by omega
  refine lc_it walk_range (fun i H2 => ∃ a2 vs, Kp d l H H2 ∧ Sta H2 d c l n a2 ∧ a ≤ a2 ∧ a2 ≤ a + 1 + 91 * (i : Nat) ∧ H2 D = some (.lst vs) ∧ ∃ rs, Paired (RIs H2) rs vs ∧ rs.length = i ∧ (∀ x ∈ rs, x.ok) ∧ ∀ x ∈ rs, ∀ z ∈ x.names, z ∈ zs) ?_ (fun _ _ _ _ => trivial) ?_ ?_
  · exact ⟨a + 1, [], k1.trans (Kp.of (sNew hD _)), S1.keep (sNew hD _), by omega, by omega, upd_same, [], .nil, rfl, (fun _ z => nomatch z), (fun _ z => nomatch z)⟩
  · rintro i x H2 H3 hi ⟨a2, vs, k2, S2, b1, b2, h2, rs, pr, lr, okr, nr⟩ ⟨rfl, rfl⟩
    have hi' : i < r.toNat := hi
    have hp2 := k2 _ _ p1 p2 hp
    refine ⟨rfl, _, rfl, _, rfl, d, c, l, n, a2, p, zs, rfl, S2, by omega, by omega, hp2, p1, p2, z1, by omega, okz, fun rw' v H4 a4 k4 S4 b3 b4 hv ok nm => ?_⟩
    have h4 := k4 _ _ nD.1 nD.2.2 h2
    have tu : Tups H4 (upd H4 D (.lst (vs ++ [v]))) := Tups.put h4 _
    have tu4 := k4.tups S2
    have lv := Paired.length pr
    refine ⟨vs, h4, Nat.lt_of_le_of_lt (show vs.length ≤ 40 by omega) (by decide), a4, vs ++ [v], (k2.trans k4).put hD0 _, S4.put _ nD, by omega, by omega, upd_same, rs ++ [rw'], paired_snoc (hv.keep tu) (Paired.mapP pr fun _ _ k => (k.keep tu4).keep tu), by rw [List.length_append, lr]; rfl, ?_, ?_⟩
    · intro x hx
      rcases List.mem_append.mp hx with hx | hx
      · exact okr x hx
      · rw [List.mem_singleton.mp hx]
        exact ok
    · intro x hx
      rcases List.mem_append.mp hx with hx | hx
      · exact nr x hx
      · rw [List.mem_singleton.mp hx]
        exact nm
  · rintro H2 ⟨a2, vs, k2, S2, b1, b2, h2, rs, pr, lr, okr, nr⟩
    refine ⟨D, vs, rfl, .inl ⟨SqL.of h2, fun b hb => q rs b _ a2 (k2.trans (Kp.of (sNew hb _))) (S2.keep (sNew hb _)) b1 (by omega) ⟨vs, upd_same, Paired.mapP pr fun _ _ k => k.keep (Tups.new hb _)⟩ ⟨by omega, okr, zs, z2, nr⟩⟩⟩
end
end Er
namespace Er
open PySem L2 TL
section
variable {P : Program} {w : World} {K : PySem.W.Frag} {mg : Str → Option Value} {base : Heap}

/-! ### _law_written -/
abbrev sLwritten : Stmt := topS 65
theorem scLwritten : FnScope ["text", "found", "piece"] ["text"] (defScope sLwritten) := ⟨rfl, rfl, rfl, by decide +kernel, rfl, by decide +kernel, by decide +kernel⟩
theorem dollar_curly : tl ("$" : Str) = [36] ∧ tl ("{" : Str) = [123] := by decide +kernel
theorem one_len : ("$" : Str).length = 1 ∧ ("{" : Str).length = 1 ∧ ("}" : Str).length = 1 := by decide +kernel
theorem flat_le : ∀ (t : T) (i : Nat), (((t.pcs.take i).map Pc.wr).flatten).length ≤ t.wS
  | .nil, _ => by simp [Er.T.pcs]
  | .plain s r, 0 => Nat.zero_le _
  | .plain s r, i + 1 => by
    have := flat_le r i
    show (tl s ++ ((r.pcs.take i).map Pc.wr).flatten).length ≤ 10 * (tl s).length + 4 + r.wS
    rw [List.length_append]
    omega
  | .part n s u r, 0 => Nat.zero_le _
  | .part n s u r, i + 1 => by
    have := flat_le r i
    have := Er.T.wr_len u
    show ((36 :: 123 :: (tl n ++ (tl s ++ (u.wr ++ [125])))) ++ ((r.pcs.take i).map Pc.wr).flatten).length ≤ 10 * (tl n).length + 10 * (tl s).length + 16 + u.wS + r.wS
    simp only [List.length_cons, List.length_append, List.length_nil]
    omega
theorem ok_lwritten {n : Nat} {f f1 : Addr} {fd fd1 : FuncData} (F : Fun K "_law_written" "_law_written" sLwritten f fd) (T : Txt K mg) (D1 : Df K mg "_law_written" sLwritten ["text"] f1 fd1)
    (G1 : FnOk P w K mg base CX0 n f1 fd1 ["text"] (spWritten n)) : FnOk P w K mg base CX0 (n + 1) f fd ["text"] (spWritten (n + 1)) := by
  refine F.ok scLwritten (fun vs H Q E h => ?_) (fun cdv A outer s H vs Q E hr h => ?_)
  · obtain ⟨v, t, rfl, _⟩ := h
    rfl
  have nd := scLwritten.nd
  refine ⟨_, pss_cons (ps_set (i := 1) nd rfl (Or.inl rfl) pe_str)
    (pss_cons (ps_for PassesOwn.never rfl (pi_tup (pv 0)) (pg_name (i := 2) nd rfl (Or.inl rfl))
      (pss_one (ps_if (pt_val (isS T.b_isinstance T.b_str (pv 2)))
        (pss_one (ps_set (i := 1) nd rfl (Or.inl rfl) (pe_op op_add_str (pv 1) (pv 2))))
        (pss_one (ps_set (i := 1) nd rfl (Or.inl rfl) (pe_op op_add_str (pe_op op_add_str (pe_op op_add_str (pe_op op_add_str (pe_op op_add_str (pe_op op_add_str (pv 1) pe_str) pe_str)
            (pe_ix ix_tup (pv 2) pe_int (fun _ _ => rfl))) (pe_ix ix_tup (pv 2) pe_int (fun _ _ => rfl)))
            (cal D1 G1 hr (pa_cons (pe_ix ix_tup (pv 2) pe_int (fun _ _ => rfl)) pa_nil))) pe_str))))))
    (pss_one (ps_ret (pv 1)))), ?_⟩
  obtain ⟨p, t, rfl, ⟨ws, hp, ht⟩, hd, hw, q⟩ := h
  have hlen := ht.len
  have big : ∀ {m : Nat}, m ≤ 300000 → m ≤ sizeLine := fun h => Nat.le_trans h (by decide)
  refine ⟨_, rfl, p, rfl, ⟨ws, SqT.of hp⟩, for_tup (xs := ws) (fun i σ H' => Same H H' ∧ ∃ x, σ = [some (.ref p), some (.str (ofC (((t.pcs.take i).map Pc.wr).flatten))), x]) ⟨Same.refl H, none, rfl⟩ (fun i σ H' _ z => SqT.of (z.1 _ _ hp)) ?_ ?_⟩
  · rintro i x σ H1 hx ⟨e1, y, rfl⟩
    obtain ⟨pc, k1, k2, k3⟩ := ht.at hx
    have step := flat_take Pc.wr k1
    have fl := flat_le t i
    have wl := wr_pc t pc k2
    generalize hG : ((t.pcs.take i).map Pc.wr).flatten = G at fl step
    cases pc with
    | pl s0 =>
      obtain rfl : x = .str s0 := k3
      have w1 : (tl s0).length ≤ t.wS := wl
      refine ⟨_, rfl, rfl, .inl ⟨s0, rfl, _, rfl, iteT ⟨_, rfl, _, rfl, _, _, rfl, rfl, ?_, e1, some (.str s0), ?_⟩⟩⟩
      · rw [len_ofC, len_tl s0]
        exact big (by omega)
      · rw [step, ← ofC_app]
        show _ = [some (V.ref p), some (V.str (ofC G ++ ofC (tl s0))), some (V.str s0)]
        rw [ofC_tl]
        rfl
    | pt n0 s0 u =>
      obtain ⟨a, b, rfl, ha, hb⟩ := k3
      have ha1 := e1 _ _ ha
      rw [pt_len] at wl
      have dpu : u.dp + 1 ≤ t.dp := Er.T.dp_pcs t _ k2
      have wsu : u.wS ≤ t.wS := Er.T.wS_pcs t _ k2
      obtain ⟨o1, o2, o3⟩ := one_len
      refine ⟨_, rfl, rfl, .inr ⟨a, _, rfl, ha1, _, rfl, iteF ?_⟩⟩
      refine ⟨_, rfl, _, _, rfl, rfl, ?_, _, _, rfl, rfl, ?_, _, rfl, a, _, 0, _, rfl, rfl, SqT.of ha1, atI_nat rfl, _, _, rfl, rfl, ?_, _, rfl, a, _, 1, _, rfl, rfl, SqT.of ha1, atI_nat rfl, _, _, rfl, rfl, ?_,
        _, rfl, a, _, 2, _, rfl, rfl, SqT.of ha1, atI_nat rfl, b, u, rfl, hb.keep (sTups e1), by omega, by omega, fun H2 e2 => ⟨_, _, rfl, rfl, ?_, _, _, rfl, rfl, ?_, e1.trans e2, some (.ref a), ?_⟩⟩
      · rw [len_ofC, o1]
        exact big (by omega)
      · rw [sApp, len_ofC, o1, o2]
        exact big (by omega)
      · rw [sApp, sApp, len_ofC, o1, o2]
        exact big (by omega)
      · rw [sApp, sApp, sApp, len_ofC, o1, o2]
        exact big (by omega)
      · rw [sApp, sApp, sApp, sApp, len_ofC, len_ofC, o1, o2]
        exact big (by omega)
      · rw [sApp, sApp, sApp, sApp, sApp, len_ofC, len_ofC, o1, o2, o3]
        exact big (by omega)
      · have e : ofC G ++ ("$" : Str) ++ ("{" : Str) ++ n0 ++ s0 ++ ofC u.wr ++ ("}" : Str) = ofC (G ++ (Pc.pt n0 s0 u).wr) := ext_tl (by
          rw [tl_append, tl_append, tl_append, tl_append, tl_append, tl_append, dollar_curly.1, dollar_curly.2, tl_end, tl_ofC, tl_ofC, tl_ofC]
          show _ = G ++ 36 :: 123 :: (tl n0 ++ (tl s0 ++ (u.wr ++ [125])))
          simp only [List.append_assoc, List.cons_append, List.nil_append])
        rw [step, ← e]
        rfl
  · rintro σ H1 ⟨e1, y, rfl⟩
    refine ⟨_, rfl, ?_⟩
    rw [hlen, ← Er.T.len_pcs, List.take_length, ← Er.T.wr_pcs]
    exact q _ e1
end
end Er
namespace Er
open PySem L2 TL
section
variable {P : Program} {w : World} {K : PySem.W.Frag} {mg : Str → Option Value} {base : Heap}
theorem none_lwritten {k : Nat} {f : Addr} {fd : FuncData} : FnOk P w K mg base CX0 k f fd ["text"] (spWritten 0) := none_written
theorem all_lwritten {f : Addr} {fd : FuncData} (T : Txt K mg) (D : Df K mg "_law_written" sLwritten ["text"] f fd) : ∀ n : Nat, FnOk P w K mg base CX0 n f fd ["text"] (spWritten n)
  | 0 => none_written
  | n + 1 => ok_lwritten D.F T D (all_lwritten T D n)

/-! ### _law_row_written -/
abbrev sLrow : Stmt := topS 66
theorem scLrow : FnScope ["row"] ["row"] (defScope sLrow) := ⟨rfl, rfl, rfl, by decide +kernel, rfl, by decide +kernel, by decide +kernel⟩
theorem w_drop' (n : Str) : ("drop " : Str) ++ n = ofC (Rw.drop n).wr := ext_tl (by
  have e : tl ("drop " : Str) = [100, 114, 111, 112, 32] := by decide +kernel
  rw [tl_append, e]
  rfl)
theorem w_check' (t : T) : ("check " : Str) ++ ofC t.wr = ofC (Rw.chk t).wr := ext_tl (by
  have e : tl ("check " : Str) = [99, 104, 101, 99, 107, 32] := by decide +kernel
  rw [tl_append, e]
  rfl)
theorem ok_lrow {f f1 : Addr} {fd fd1 : FuncData} (F : Fun K "_law_row_written" "_law_row_written" sLrow f fd) (D1 : Df K mg "_law_written" sLwritten ["text"] f1 fd1) (G1 : FnOk P w K mg base CX0 5 f1 fd1 ["text"] (spWritten 5)) :
    FnOk P w K mg base CX0 6 f fd ["row"] spRowText := by
  refine F.ok scLrow (fun vs H Q E h => ?_) (fun cdv A outer s H vs Q E hr h => ?_)
  · obtain ⟨v, t, rfl, _⟩ := h
    rfl
  refine ⟨_, pss_cons (ps_if (pt_cmpR op_eq (pe_ix ix_tup (pv 0) pe_int (fun _ _ => rfl)) pe_str (nomark _))
      (pss_one (ps_ret (pe_op op_add_str pe_str (pe_ix ix_tup (pv 0) pe_int (fun _ _ => rfl))))) pss_nil)
    (pss_cons (ps_if (pt_cmpR op_eq (pe_ix ix_tup (pv 0) pe_int (fun _ _ => rfl)) pe_str (nomark _))
      (pss_one (ps_ret (pe_op op_add_str pe_str (cal D1 G1 hr (pa_cons (pe_ix ix_tup (pv 0) pe_int (fun _ _ => rfl)) pa_nil))))) pss_nil)
    (pss_one (ps_ret (pe_op op_add_str (pe_op op_add_str (pe_ix ix_tup (pv 0) pe_int (fun _ _ => rfl))
      (pe_ifExp (pt_cmpR op_eq (pe_ix ix_tup (pv 0) pe_int (fun _ _ => rfl)) pe_str (nomark _)) pe_str pe_str)) (cal D1 G1 hr (pa_cons (pe_ix ix_tup (pv 0) pe_int (fun _ _ => rfl)) pa_nil)))))), ?_⟩
  obtain ⟨v, r, rfl, hv, ok, q⟩ := h
  have big : ∀ {m : Nat}, m ≤ 200000 → m ≤ sizeLine := fun h => Nat.le_trans h (by decide)
  have l1 : ("drop " : Str).length = 5 := by decide +kernel
  have l2 : ("check " : Str).length = 6 := by decide +kernel
  have l3 : ("=" : Str).length = 1 := by decide +kernel
  have l4 : ("?=" : Str).length = 2 := by decide +kernel
  cases r with
  | drop n =>
    obtain ⟨a, rfl, ha⟩ := hv
    refine ⟨_, rfl, a, _, 0, _, rfl, rfl, SqT.of ha, atI_nat rfl, rfl, _, rfl, ?_⟩
    rw [decide_eq_true (rfl : V.str "drop" = V.str "drop")]
    refine iteT ⟨_, rfl, a, _, 1, _, rfl, rfl, SqT.of ha, atI_nat rfl, _, _, rfl, rfl, ?_, ?_⟩
    · have := name_short ok
      rw [l1]
      exact big (by omega)
    · rw [w_drop']
      exact q H (Same.refl H)
  | chk t =>
    obtain ⟨a, b, rfl, ha, hb⟩ := hv
    refine ⟨_, rfl, a, _, 0, _, rfl, rfl, SqT.of ha, atI_nat rfl, rfl, _, rfl, ?_⟩
    rw [str_ne n_check_drop]
    refine iteF ⟨_, rfl, a, _, 0, _, rfl, rfl, SqT.of ha, atI_nat rfl, rfl, _, rfl, ?_⟩
    rw [decide_eq_true (rfl : V.str "check" = V.str "check")]
    refine iteT ⟨_, rfl, a, _, 1, _, rfl, rfl, SqT.of ha, atI_nat rfl, b, t, rfl, hb, okT_dp ok, ok.2.2, fun H1 e1 => ⟨_, _, rfl, rfl, ?_, ?_⟩⟩
    · have := okT_short ok
      rw [l2]
      exact big (by omega)
    · rw [w_check']
      exact q H1 e1
  | set n t =>
    obtain ⟨a, b, rfl, ha, hb⟩ := hv
    refine ⟨_, rfl, a, _, 0, _, rfl, rfl, SqT.of ha, atI_nat rfl, rfl, _, rfl, ?_⟩
    rw [str_ne n_set_drop]
    refine iteF ⟨_, rfl, a, _, 0, _, rfl, rfl, SqT.of ha, atI_nat rfl, rfl, _, rfl, ?_⟩
    rw [str_ne n_set_check]
    have k1 := name_short ok.1
    have k2 := okT_short ok.2
    refine iteF ⟨_, rfl, a, _, 1, _, rfl, rfl, SqT.of ha, atI_nat rfl, _, rfl, a, _, 0, _, rfl, rfl, SqT.of ha, atI_nat rfl, rfl, _, rfl, ?_⟩
    rw [decide_eq_true (rfl : V.str "set" = V.str "set")]
    refine iteT ⟨_, _, rfl, rfl, ?_, _, rfl, a, _, 2, _, rfl, rfl, SqT.of ha, atI_nat rfl, b, t, rfl, hb, okT_dp ok.2, ok.2.2.2, fun H1 e1 => ⟨_, _, rfl, rfl, ?_, ?_⟩⟩
    · rw [l3]
      exact big (by omega)
    · rw [sApp, l3]
      exact big (by omega)
    · rw [w_set]
      exact q H1 e1
  | give n t =>
    obtain ⟨a, b, rfl, ha, hb⟩ := hv
    refine ⟨_, rfl, a, _, 0, _, rfl, rfl, SqT.of ha, atI_nat rfl, rfl, _, rfl, ?_⟩
    rw [str_ne n_give_drop]
    refine iteF ⟨_, rfl, a, _, 0, _, rfl, rfl, SqT.of ha, atI_nat rfl, rfl, _, rfl, ?_⟩
    rw [str_ne n_give_check]
    have k1 := name_short ok.1
    have k2 := okT_short ok.2
    refine iteF ⟨_, rfl, a, _, 1, _, rfl, rfl, SqT.of ha, atI_nat rfl, _, rfl, a, _, 0, _, rfl, rfl, SqT.of ha, atI_nat rfl, rfl, _, rfl, ?_⟩
    rw [str_ne n_give_set]
    refine iteF ⟨_, _, rfl, rfl, ?_, _, rfl, a, _, 2, _, rfl, rfl, SqT.of ha, atI_nat rfl, b, t, rfl, hb, okT_dp ok.2, ok.2.2.2, fun H1 e1 => ⟨_, _, rfl, rfl, ?_, ?_⟩⟩
    · rw [l4]
      exact big (by omega)
    · rw [sApp, l4]
      exact big (by omega)
    · rw [w_give]
      exact q H1 e1
end
end Er
namespace Er
open PySem L2 TL
section
variable {P : Program} {w : World} {K : PySem.W.Frag} {mg : Str → Option Value} {base : Heap}

/-! ### _law_edge -/
abbrev sEdge : Stmt := topS 67
theorem scEdge : FnScope ["state", "plain", "signs", "found", "k", "sign", "name", "deep", "turn"] ["state"] (defScope sEdge) := ⟨rfl, rfl, rfl, by decide +kernel, rfl, by decide +kernel, by decide +kernel⟩
def edgeL : List Str := ["A", "B", "Z_", "ABCDEFGH", "X_Y_Z_A_", "N", "O_O"]
def wideN : List Str := ["A", "Z_", "ABCDEFGH", "X_Y_Z_A_"]
def deepN : List Str := ["N", "O_O"]
theorem wide_ok : ∀ s ∈ wideN, okN s ∧ s ∈ edgeL := by decide +kernel
theorem deep_ok : ∀ s ∈ deepN, okN s ∧ s ∈ edgeL := by decide +kernel
theorem tail_ok : ∀ s ∈ signsL.tail, s ∈ signsL ∧ s ≠ ("" : Str) := by decide +kernel
theorem end_ok : okP ("end" : Str) ∧ (tl ("end" : Str)).length = 3 := by decide +kernel
theorem dash_ok : okP (":-" : Str) ∧ (tl (":-" : Str)).length = 2 := by decide +kernel
def spEdge : Sp := fun vs H Q _ => ∃ (d c l : Addr) (n : Nat) (a : Int), vs = [.ref d] ∧ Sta H d c l n a ∧ 0 ≤ a ∧ a + 190 ≤ 1000000000000 ∧
  ∀ (t1 t2 : T) q b1 b2 H' a', Kp d l H H' → Sta H' d c l n a' → a ≤ a' → a' ≤ a + 190 → H' q = some (.tup [.ref b1, .ref b2]) → TAt H' b1 t1 → TAt H' b2 t2 → okT t1 → okT t2 → (∀ z ∈ t1.names, z ∈ edgeL) → (∀ z ∈ t2.names, z ∈ edgeL) → Q (.ref q) H'
/-- the last piece is plain, or a draw of three tells more than 0 -/
def tEdge : TT := fun σ H Q => ∃ (d c l : Addr) (n : Nat) (a : Int) (g : Addr) (xs : List V) (t : Er.T) (k : Nat), σ[0]? = some (some (.ref d)) ∧ σ[3]? = some (some (.ref g)) ∧ σ[4]? = some (some (.int (k : Nat))) ∧ Sta H d c l n a ∧ 0 ≤ a ∧ a ≤ 1000000000000 ∧
  H g = some (.lst xs) ∧ TIs H t xs ∧ t.len = k ∧ (∀ H' a', Kp d l H H' → Sta H' d c l n a' → a ≤ a' → a' ≤ a + 1 → Q true H') ∧ (t.lastB false = false → ∀ H', Kp d l H H' → Sta H' d c l n (a + 1) → Q false H')
theorem at_nats {ys : List Nat} {r : Int} (h0 : 0 ≤ r) (h1 : r < ys.length) : ∃ y, y ∈ ys ∧ atI ys r = some y := by
  have hj : r.toNat < ys.length := by omega
  refine ⟨ys[r.toNat], List.getElem_mem hj, ?_⟩
  have e : ((r.toNat : Nat) : Int) = r := Int.toNat_of_nonneg h0
  have := atI_nat (xs := ys) (j := r.toNat) (List.getElem?_eq_getElem hj)
  rw [e] at this
  exact this
def oneS (c : Nat) : Str := ⟨#[c]⟩
theorem ones_flat : ∀ cs : List Nat, ((cs.map oneS).map tl).flatten = cs
  | [] => rfl
  | c :: cs => by
    show c :: ((cs.map oneS).map tl).flatten = c :: cs
    rw [ones_flat cs]
theorem ones_sum : ∀ cs : List Nat, ((cs.map oneS).map (·.length)).sum = cs.length
  | [] => rfl
  | c :: cs => by
    rw [List.map_cons, List.map_cons, List.sum_cons, ones_sum cs, List.length_cons]
    show 1 + cs.length = _
    omega
theorem cut_signs : cutV (signsL.map V.str) (some 1) none = signsL.tail.map V.str := by decide +kernel
theorem ok_edge {f f1 f2 : Addr} {fd fd1 fd2 : FuncData} (F : Fun K "_law_edge" "_law_edge" sEdge f fd) (T : Txt K mg) (D1 : Df K mg "_law_draw" sDraw ["state", "many"] f1 fd1) (G1 : FnOk P w K mg base CX0 2 f1 fd1 ["state", "many"] spDraw)
    (D2 : Df K mg "_law_of" sOf ["state", "some"] f2 fd2) (G2 : FnOk P w K mg base CX0 3 f2 fd2 ["state", "some"] spOf) : FnOk P w K mg base CX0 4 f fd ["state"] spEdge := by
  refine F.ok scEdge (fun vs H Q E h => ?_) (fun cdv A outer s H vs Q E hr h => ?_)
  · obtain ⟨d, c, l, n, a, rfl, _⟩ := h
    rfl
  have nd := scEdge.nd
  have hr2 : Room 2 (A.deeper (PyProof.Rows.envOfC "_law_edge" (defScope sEdge) s.heap.objs.size f cdv)) := hr.mono (by omega)
  refine ⟨_, pss_cons (ps_set (i := 1) nd rfl (Or.inr rfl) pe_str)
    (pss_cons (ps_set (i := 2) nd rfl (Or.inl rfl) (pe_lst (pa_cons pe_str (pa_cons pe_str (pa_cons pe_str (pa_cons pe_str (pa_cons pe_str (pa_cons pe_str (pa_cons pe_str (pa_cons pe_str (pa_cons pe_str pa_nil)))))))))))
    (pss_cons (ps_set (i := 3) nd rfl (Or.inl rfl) (pe_lst pa_nil))
    (pss_cons (ps_for PassesOwn.never rfl (pi_range1 rfl T.b_range (pa_cons pe_int pa_nil)) (pg_name (i := 4) nd rfl (Or.inl rfl))
      (pss_cons (ps_par (i := 5) (j := 6) rfl nd rfl rfl (by decide) rfl rfl (pa_cons (cal D2 G2 hr (pa_cons (pv 0) (pa_cons (pv 2) pa_nil))) (pa_cons (cal D2 G2 hr (pa_cons (pv 0) (pa_cons (pe_lst (pa_cons pe_str (pa_cons pe_str (pa_cons pe_str (pa_cons pe_str pa_nil))))) pa_nil))) pa_nil)) (by rfl))
      (pss_one (ps_if (pt_weak (t' := tEdge) (PW.pt (pw_or (PW.pt (pw_and (pt_cmpR op_gt (pv 4) pe_int (nomark _)) (pw_and1 (pt_val (isS T.b_isinstance T.b_str (pe_ix ix_list (pv 3) (pe_un un_neg pe_int) (fun _ _ => rfl))))))) (pw_or1 (pt_cmpR op_gt (cal D1 G1 hr2 (pa_cons (pv 0) (pa_cons pe_int pa_nil))) pe_int (nomark _))))) fun σ H Q h => by
          obtain ⟨d, c, l, n, a, g, xs, t, k, e0, e3, e4, S, a0, a1, hg, ht, tk, q1, q2⟩ := h
          have draw : t.lastB false = false → tTest (tOp (rI0 fun i j => V.bl (decide (j < i))) (tCall spDraw [] E0 (tCons (tVar 0) (tCons (tC (.int 3)) tNil))) (tC (.int 0))) σ H Q := fun lb => by
            refine ⟨_, e0, d, c, l, n, a, 3, rfl, S, a0, a1, by decide, by decide, fun r H1 k1 S1 r0 r1 => ⟨_, _, rfl, rfl, _, rfl, ?_⟩⟩
            cases decide ((0 : Int) < r) with
            | true => exact q1 H1 _ k1 S1 (by omega) (by omega)
            | false => exact q2 lb H1 k1 S1
          refine ⟨_, e4, _, _, rfl, rfl, _, rfl, ?_⟩
          cases xs with
          | nil =>
            have k0 : k = 0 := by
              rw [← tk, ← ht.len]
              rfl
            subst k0
            refine iteF (iteF (draw ?_))
            cases t with
            | nil => rfl
            | plain s r => cases tk
            | part n s u r => cases tk
          | cons x0 xs0 =>
            have kp : 0 < k := by
              rw [← tk, ← ht.len, List.length_cons]
              omega
            rw [decide_eq_true (show (0 : Int) < (k : Int) by omega)]
            refine iteT ?_
            cases lb : t.lastB false with
            | false =>
              rcases ht.last false lb with ⟨z, _⟩ | ⟨ys, p, us, ex, hp⟩
              · cases z
              · rw [ex] at hg
                exact ⟨_, e3, _, rfl, g, _, -1, _, rfl, rfl, SqL.of hg, atI_last _ _, rfl, .inr ⟨p, us, rfl, hp, _, rfl, iteF (draw lb)⟩⟩
            | true =>
              rcases Er.T.last_plain t false lb with ⟨_, z⟩ | ⟨b0, s0, rfl⟩
              · cases z
              obtain ⟨ys, zs, ex, k1, us, rfl, k3⟩ := ht.split
              obtain rfl : us = [] := k3
              rw [ex] at hg
              exact ⟨_, e3, _, rfl, g, _, -1, _, rfl, rfl, SqL.of hg, atI_last _ _, rfl, .inl ⟨s0, rfl, _, rfl, iteT (q1 H a (Kp.refl H) S (Int.le_refl _) (by omega))⟩⟩)
        (pss_one (ps_expr (pe_bm PySem.F.plainAttrs_list PySem.F.slot_list_append PySem.F.type_list_append mt_append (pv 3) (pa_cons (pe_tup (pa_cons (pv 6) (pa_cons (pv 5) (pa_cons (pe_tup pa_nil) pa_nil)))) pa_nil))))
        (pss_one (ps_expr (pe_bm PySem.F.plainAttrs_list PySem.F.slot_list_append PySem.F.type_list_append mt_append (pv 3) (pa_cons
          (pe_join pe_str (pe_lc (own := [("turn", 8)]) (g := gName 8) (tt := tYes) rfl nd (pi_range1 rfl T.b_range (pa_cons pe_int pa_nil)) (blkOk_by (N := ["state", "plain", "signs", "found", "k", "sign", "name", "deep", "turn"]) (sc := defScope sEdge) (by decide +kernel))
            (fun _ _ _ _ _ => pg_name (i := 8) nd rfl (Or.inl rfl)) (fun _ _ _ _ _ => pts_nil)
            (fun _ _ _ _ _ => pe_ix ix_str (pv 1) (cal D1 G1 hr2 (pa_cons (pv 0) (pa_cons pe_int pa_nil))) (fun _ _ => rfl)))) pa_nil))))))))
    (pss_cons (ps_set (i := 7) nd rfl (Or.inl rfl) (pe_tup (pa_cons pe_str pa_nil)))
    (pss_cons (ps_for PassesOwn.never rfl (pi_range1 rfl T.b_range (pa_cons pe_int pa_nil)) (pg_name (i := 4) nd rfl (Or.inl rfl))
      (pss_one (ps_set (i := 7) nd rfl (Or.inl rfl) (pe_tup (pa_cons (pe_tup (pa_cons (cal D2 G2 hr (pa_cons (pv 0) (pa_cons (pe_lst (pa_cons pe_str (pa_cons pe_str pa_nil))) pa_nil))) (pa_cons (cal D2 G2 hr (pa_cons (pv 0) (pa_cons (pe_slice sl_list (pv 2) (po_some pe_int) po_none) pa_nil))) (pa_cons (pv 7) pa_nil)))) (pa_cons pe_str pa_nil))))))
    (pss_one (ps_ret (pe_tup (pa_cons (pe_callTy call_tuple_of rfl T.b_tuple boot_tupT (pa_cons (pv 3) pa_nil)) (pa_cons (pv 7) pa_nil)))))))))), ?_⟩
  obtain ⟨d, c, l, n, a, rfl, S, a0, a1, q⟩ := h
  have room : ∀ {k : Nat}, k ≤ 100 → k < sizeLine := fun h => Nat.lt_of_le_of_lt h (by decide)
  have three : 3 ≤ sizeLine := by decide
  have two : 2 ≤ sizeLine := by decide
  refine ⟨(show 9 ≤ sizeLine by decide), fun sg hsg => ⟨Nat.zero_le _, fun g hg => ⟨8, rfl, by decide, by decide, ?_⟩⟩⟩
  have nsg := S.new hsg
  have hg0 : H g = none := sNone (sNew hsg _) hg
  have ng := S.new hg0
  have gs : g ≠ sg := fun e => by
    rw [e, upd_same] at hg
    cases hg
  have e0 : Same H (upd (upd H sg (.lst (signsL.map V.str))) g (.lst [])) := (sNew hsg _).trans (sNew hg _)
  refine for_it walk_range (fun i σ H' => ∃ (xs : List V) (t : Er.T) (a' : Int) (x4 x5 x6 x7 x8 : Option V), σ = [some (.ref d), some (.str sPL), some (.ref sg), some (.ref g), x4, x5, x6, x7, x8] ∧ Kp d l H H' ∧ Sta H' d c l n a' ∧ a ≤ a' ∧ a' ≤ a + 23 * (i : Nat) ∧
    H' sg = some (.lst (signsL.map V.str)) ∧ H' g = some (.lst xs) ∧ TIs H' t xs ∧ t.gd 4 false ∧ t.len = i ∧ t.wS ≤ 204 * i ∧ ∀ z ∈ t.names, z ∈ edgeL) ⟨[], .nil, a, none, none, none, none, none, rfl, Kp.of e0, S.keep e0, Int.le_refl _, by omega, ?_, upd_same, rfl, trivial, rfl, Nat.zero_le _, (fun z hz => nomatch hz)⟩ (fun _ _ _ _ _ => trivial) ?_ ?_
  · rw [upd_ne (Ne.symm gs), upd_same]
    rfl
  · rintro i x σ H4 H4' hi ⟨xs, t, a4, x4, x5, x6, x7, x8, rfl, k4, S4, a4a, a4b, hs4, hg4, ht4, gd, tlen, tw, tn⟩ ⟨rfl, rfl⟩
    have hi' : i < 8 := hi
    refine ⟨_, rfl, _, rfl, d, c, l, n, a4, sg, _, rfl, S4, by omega, by omega, hs4, nsg.1, nsg.2.2, (by decide), (by decide), fun y H5 hy k5 S5 => ?_⟩
    obtain ⟨s0, hs0, rfl⟩ := List.mem_map.mp hy
    have hs5 := k5 _ _ nsg.1 nsg.2.2 hs4
    have hg5 := k5 _ _ ng.1 ng.2.2 hg4
    have ht5 := ht4.keep (k5.tups S4)
    refine ⟨_, rfl, (show 4 ≤ sizeLine by decide), fun b hb => ?_⟩
    have e6 : Same H5 (upd H5 b (.lst (wideN.map V.str))) := sNew hb _
    have S6 := S5.keep e6
    have nb := S5.new hb
    refine ⟨d, c, l, n, a4 + 1, b, wideN.map V.str, rfl, S6, by omega, by omega, upd_same, nb.1, nb.2.2, (by decide), (by decide), fun y' H7 hy' k7 S7 => ⟨_, _, rfl, ?_⟩⟩
    obtain ⟨n0, hn0, rfl⟩ := List.mem_map.mp hy'
    have hs7 := k7 _ _ nsg.1 nsg.2.2 (e6 _ _ hs5)
    have hg7 := k7 _ _ ng.1 ng.2.2 (e6 _ _ hg5)
    have ht7 := (ht5.keep (sTups e6)).keep (k7.tups S6)
    have k07 : Kp d l H H7 := ((k4.trans k5).trans (Kp.of e6)).trans k7
    refine ⟨d, c, l, n, a4 + 1 + 1, g, xs, t, i, rfl, rfl, ?_, S7, by omega, by omega, hg7, ht7, tlen, fun H8 a8 k8 S8 b1 b2 => ?_, fun lb H8 k8 S8 => ?_⟩
    · show some (some (V.int (0 + (i : Int)))) = _
      rw [Int.zero_add]
    · have hs8 := k8 _ _ nsg.1 nsg.2.2 hs7
      have hg8 := k8 _ _ ng.1 ng.2.2 hg7
      have ht8 := ht7.keep (k8.tups S7)
      refine ⟨_, rfl, .inl ⟨rfl, _, SqL.of hg8⟩, _, rfl, _, rfl, Nat.zero_le _, fun b9 hb9 => ⟨three, fun e he => ?_⟩⟩
      have e9 : Same H8 (upd H8 b9 (.tup [])) := sNew hb9 _
      have e10 : Same H8 (upd (upd H8 b9 (.tup [])) e (.tup [.str n0, .str s0, .ref b9])) := e9.trans (sNew he _)
      have hg10 := e10 _ _ hg8
      have tu11 : Tups (upd (upd H8 b9 (.tup [])) e (.tup [.str n0, .str s0, .ref b9])) (upd (upd (upd H8 b9 (.tup [])) e (.tup [.str n0, .str s0, .ref b9])) g (.lst (xs ++ [V.ref e]))) := Tups.put hg10 _
      have nok := wide_ok n0 hn0
      refine ⟨g, xs, _, rfl, rfl, hg10, room (by rw [ht4.len]; omega), xs ++ [V.ref e], t.app (.part n0 s0 .nil .nil), a8, _, _, _, _, _, rfl, ((k07.trans k8).trans (Kp.of e10)).put hg0 _, (S8.keep e10).put _ ng, by omega, by omega, ?_, upd_same, ((ht8.keep (sTups e10)).keep tu11).app ⟨e, b9, [], [], rfl, tu11 _ _ upd_same, tu11 _ _ (sNew he _ _ _ upd_same), rfl, rfl⟩, ?_, ?_, ?_, ?_⟩
      · rw [upd_ne (Ne.symm gs)]
        exact e10 _ _ hs8
      · exact Er.T.gd_app t _ false _ gd ⟨nok.1, hs0, fun _ => rfl, fun _ => ⟨by decide, Nat.zero_le _, trivial⟩, trivial⟩
      · rw [Er.T.len_app, tlen]
        rfl
      · have l1 := (okN_len nok.1).2
        have l2 := sign_len hs0
        rw [Er.T.wS_app]
        show t.wS + (10 * (tl n0).length + 10 * (tl s0).length + 16 + 0 + 0) ≤ _
        omega
      · rw [Er.T.names_app]
        intro z hz
        rcases List.mem_append.mp hz with hz | hz
        · exact tn z hz
        · rw [List.mem_singleton.mp hz]
          exact nok.2
    · have hs8 := k8 _ _ nsg.1 nsg.2.2 hs7
      have hg8 := k8 _ _ ng.1 ng.2.2 hg7
      have ht8 := ht7.keep (k8.tups S7)
      refine ⟨_, rfl, .inl ⟨rfl, _, SqL.of hg8⟩, ⟨_, rfl⟩, 20, rfl, by decide, by decide, fun D hD => ?_⟩
      have nD := S8.new hD
      have gD : g ≠ D := ne_of_none hg8 hD
      have sD : sg ≠ D := ne_of_none hs8 hD
      have hD0 : H D = none := (k07.trans k8).fresh S8 hD
      refine lc_it walk_range (fun j H' => ∃ cs : List Nat, Kp d l H H' ∧ Kp d l H8 H' ∧ Sta H' d c l n (a4 + 1 + 1 + 1 + (j : Nat)) ∧ H' D = some (.lst ((cs.map oneS).map V.str)) ∧ cs.length = j ∧ ∀ c ∈ cs, c ∈ plL) ?_ (fun _ _ _ _ => trivial) ?_ ?_
      · refine ⟨[], (k07.trans k8).put hD0 _, (Kp.refl H8).put hD _, ?_, upd_same, rfl, (fun _ z => nomatch z)⟩
        rw [show a4 + 1 + 1 + 1 + ((0 : Nat) : Int) = a4 + 1 + 1 + 1 by omega]
        exact S8.put _ nD
      · rintro j x H9 H9' hj ⟨cs, k9, k89, S9, h9, lj, okc⟩ ⟨rfl, rfl⟩
        have hj' : j < 20 := hj
        refine ⟨rfl, _, rfl, _, rfl, d, c, l, n, _, 45, rfl, S9, by omega, by omega, by decide, by decide, fun r H10 k10 S10 r0 r1 => ?_⟩
        obtain ⟨c0, hc0, ec0⟩ := at_nats (ys := plL) r0 r1
        have ec1 : atI sPL.cps.toList r = some c0 := by
          show atI (tl sPL) r = some c0
          rw [tl_pl]
          exact ec0
        have h10 := k10 _ _ nD.1 nD.2.2 h9
        refine ⟨sPL, r, c0, rfl, rfl, (by decide +kernel), ec1, _, h10, room (by rw [List.length_map, List.length_map]; omega), cs ++ [c0], (k9.trans k10).put hD0 _, (k89.trans k10).put hD _, ?_, ?_, ?_, ?_⟩
        · rw [show a4 + 1 + 1 + 1 + ((j + 1 : Nat) : Int) = a4 + 1 + 1 + 1 + (j : Nat) + 1 by omega]
          exact S10.put _ nD
        · rw [upd_same, List.map_append, List.map_append]
          rfl
        · rw [List.length_append, lj]
          rfl
        · intro z hz
          rcases List.mem_append.mp hz with hz | hz
          · exact okc z hz
          · rw [List.mem_singleton.mp hz]
            exact hc0
      · rintro H9 ⟨cs, k9, k89, S9, h9, lj, okc⟩
        have lj' : cs.length = 20 := lj
        have hg9 := k89 _ _ ng.1 ng.2.2 hg8
        have hs9 := k89 _ _ nsg.1 nsg.2.2 hs8
        have ht9 := ht8.keep (k89.tups S8)
        have e1 : ("" : Str).length = 0 := by decide +kernel
        refine ⟨("" : Str), D, cs.map oneS, rfl, rfl, .inl (SqL.of h9), ?_, ?_⟩
        · rw [ones_sum, e1, Nat.mul_zero, lj']
          exact (by decide)
        rw [join_void, ones_flat]
        have tu11 : Tups H9 (upd H9 g (.lst (xs ++ [V.str (ofC cs)]))) := Tups.put hg9 _
        have okp : okP (ofC cs) := ⟨by rw [tl_ofC]; omega, by rw [tl_ofC]; omega, fun z hz => okc z hz⟩
        refine ⟨g, xs, _, rfl, rfl, hg9, room (by rw [ht4.len]; omega), xs ++ [V.str (ofC cs)], t.app (.plain (ofC cs) .nil), _, _, _, _, _, _, rfl, k9.put hg0 _, S9.put _ ng, by omega, by omega, ?_, upd_same, (ht9.keep tu11).app ⟨[], rfl, rfl⟩, ?_, ?_, ?_, ?_⟩
        · rw [upd_ne (Ne.symm gs)]
          exact hs9
        · exact Er.T.gd_app t _ false _ gd (by rw [lb]; exact ⟨rfl, okp, trivial⟩)
        · rw [Er.T.len_app, tlen]
          rfl
        · rw [Er.T.wS_app]
          show t.wS + (10 * (tl (ofC cs)).length + 4 + 0) ≤ _
          rw [tl_ofC]
          omega
        · rw [Er.T.names_app]
          intro z hz
          rcases List.mem_append.mp hz with hz | hz
          · exact tn z hz
          · exact nomatch hz
  · rintro σ H4 ⟨xs, t, a4, x4, x5, x6, x7, x8, rfl, k4, S4, a4a, a4b, hs4, hg4, ht4, gd, tlen, tw, tn⟩
    have tlen' : t.len = 8 := tlen
    have tw' : t.wS ≤ 204 * 8 := tw
    have a4b' : a4 ≤ a + 23 * 8 := a4b
    refine ⟨Nat.le_of_lt (room (show 1 ≤ 100 by decide)), fun b0 hb0 => ⟨3, rfl, by decide, by decide, ?_⟩⟩
    have e5 : Same H4 (upd H4 b0 (.tup [.str "end"])) := sNew hb0 _
    refine for_it walk_range (fun i σ H' => ∃ (b : Addr) (u : Er.T) (a' : Int) (x4 x5 x6 x8 : Option V), σ = [some (.ref d), some (.str sPL), some (.ref sg), some (.ref g), x4, x5, x6, some (.ref b), x8] ∧ Kp d l H H' ∧ Sta H' d c l n a' ∧ a ≤ a' ∧ a' ≤ a + 184 + 2 * (i : Nat) ∧
      H' sg = some (.lst (signsL.map V.str)) ∧ H' g = some (.lst xs) ∧ TIs H' t xs ∧ TAt H' b u ∧ u.gd (i + 1) false ∧ u.len ≤ 2 ∧ u.wS ≤ 34 + 140 * i ∧ ∀ z ∈ u.names, z ∈ edgeL)
      ⟨b0, .plain "end" .nil, a4, _, _, _, _, rfl, k4.trans (Kp.of e5), S4.keep e5, a4a, by omega, e5 _ _ hs4, e5 _ _ hg4, ht4.keep (sTups e5), ⟨_, upd_same, [], rfl, rfl⟩, ⟨rfl, end_ok.1, trivial⟩, (by decide), ?_, (fun z hz => nomatch hz)⟩ (fun _ _ _ _ _ => trivial) ?_ ?_
    · show 10 * (tl ("end" : Str)).length + 4 + 0 ≤ _
      rw [end_ok.2]
      omega
    · rintro i x σ H5 H5' hi ⟨b, u, a5, y4, y5, y6, y8, rfl, k5, S5, a5a, a5b, hs5, hg5, ht5, hu5, ug, ul, uw, un⟩ ⟨rfl, rfl⟩
      have hi' : i < 3 := hi
      refine ⟨_, rfl, two, fun b1 hb1 => ?_⟩
      have e6 : Same H5' (upd H5' b1 (.lst (deepN.map V.str))) := sNew hb1 _
      have S6 := S5.keep e6
      have nb1 := S5.new hb1
      refine ⟨d, c, l, n, a5, b1, deepN.map V.str, rfl, S6, by omega, by omega, upd_same, nb1.1, nb1.2.2, (by decide), (by decide), fun y H7 hy k7 S7 => ?_⟩
      obtain ⟨n0, hn0, rfl⟩ := List.mem_map.mp hy
      have hs7 := k7 _ _ nsg.1 nsg.2.2 (e6 _ _ hs5)
      have hg7 := k7 _ _ ng.1 ng.2.2 (e6 _ _ hg5)
      have ht7 := (ht5.keep (sTups e6)).keep (k7.tups S6)
      have hu7 := (hu5.keep (sTups e6)).keep (k7.tups S6)
      have k07 : Kp d l H H7 := (k5.trans (Kp.of e6)).trans k7
      refine ⟨_, rfl, _, rfl, _, rfl, sg, _, rfl, SqL.of hs7, fun b2 hb2 => ?_⟩
      rw [cut_signs]
      have e8 : Same H7 (upd H7 b2 (.lst (signsL.tail.map V.str))) := sNew hb2 _
      have S8 := S7.keep e8
      have nb2 := S7.new hb2
      refine ⟨d, c, l, n, a5 + 1, b2, signsL.tail.map V.str, rfl, S8, by omega, by omega, upd_same, nb2.1, nb2.2.2, (by decide), (by decide), fun y' H9 hy' k9 S9 => ?_⟩
      obtain ⟨s0, hs0, rfl⟩ := List.mem_map.mp hy'
      have hs9 := k9 _ _ nsg.1 nsg.2.2 (e8 _ _ hs7)
      have hg9 := k9 _ _ ng.1 ng.2.2 (e8 _ _ hg7)
      have ht9 := (ht7.keep (sTups e8)).keep (k9.tups S8)
      have hu9 := (hu7.keep (sTups e8)).keep (k9.tups S8)
      have k09 : Kp d l H H9 := (k07.trans (Kp.of e8)).trans k9
      refine ⟨_, rfl, three, fun b3 hb3 => ⟨two, fun b4 hb4 => ?_⟩⟩
      have e10 : Same H9 (upd H9 b3 (.tup [.str n0, .str s0, .ref b])) := sNew hb3 _
      have e11 : Same H9 (upd (upd H9 b3 (.tup [.str n0, .str s0, .ref b])) b4 (.tup [.ref b3, .str ":-"])) := e10.trans (sNew hb4 _)
      obtain ⟨us, hu9a, hu9b⟩ := hu9
      have nok := deep_ok n0 hn0
      have sok := tail_ok s0 hs0
      refine ⟨b4, .part n0 s0 u (.plain ":-" .nil), a5 + 1 + 1, _, _, _, _, rfl, k09.trans (Kp.of e11), S9.keep e11, by omega, by omega, e11 _ _ hs9, e11 _ _ hg9, ht9.keep (sTups e11), ⟨_, upd_same, b3, b, us, [.str ":-"], rfl, sNew hb4 _ _ _ upd_same, e11 _ _ hu9a, hu9b.keep (sTups e11), [], rfl, rfl⟩, ?_, ?_, ?_, ?_⟩
      · exact ⟨nok.1, sok.1, fun e => absurd e sok.2, fun _ => ⟨by omega, by omega, ug⟩, rfl, dash_ok.1, trivial⟩
      · exact (by decide : (1 + 1 : Nat) ≤ 2)
      · have l1 := (okN_len nok.1).2
        have l2 := sign_len sok.1
        show 10 * (tl n0).length + 10 * (tl s0).length + 16 + u.wS + (10 * (tl (":-" : Str)).length + 4 + 0) ≤ _
        rw [dash_ok.2]
        omega
      · intro z hz
        rcases List.mem_cons.mp hz with hz | hz
        · rw [hz]
          exact nok.2
        · rcases List.mem_append.mp hz with hz | hz
          · exact un z hz
          · exact nomatch hz
    · rintro σ H5 ⟨b, u, a5, y4, y5, y6, y8, rfl, k5, S5, a5a, a5b, hs5, hg5, ht5, hu5, ug, ul, uw, un⟩
      have a5b' : a5 ≤ a + 184 + 2 * 3 := a5b
      have uw' : u.wS ≤ 34 + 140 * 3 := uw
      refine ⟨_, rfl, g, xs, rfl, .inl ⟨SqL.of hg5, fun b1 hb1 => ⟨_, rfl, two, fun q1 hq1 => ?_⟩⟩⟩
      have e6 : Same H5 (upd H5 b1 (.tup xs)) := sNew hb1 _
      have e7 : Same H5 (upd (upd H5 b1 (.tup xs)) q1 (.tup [.ref b1, .ref b])) := e6.trans (sNew hq1 _)
      exact q t u q1 b1 b _ a5 (k5.trans (Kp.of e7)) (S5.keep e7) a5a (by omega) upd_same ⟨xs, sNew hq1 _ _ _ upd_same, ht5.keep (sTups e7)⟩ (hu5.keep (sTups e7)) ⟨gd, by omega, by omega⟩ ⟨ug, by omega, by omega⟩ tn un
end
end Er
/-! Plain: written forms are one to one; how long what is shown may be; how deep the data is. -/
namespace Er
open PySem L2 TL

/-! ### one to one -/
theorem span_inj (S : List Nat) : ∀ (a a' x x' : List Nat), (∀ c ∈ a, c ∈ S) → (∀ c ∈ a', c ∈ S) → (∀ c y, x = c :: y → c ∉ S) → (∀ c y, x' = c :: y → c ∉ S) → a ++ x = a' ++ x' → a = a' ∧ x = x'
  | [], [], _, _, _, _, _, _, e => ⟨rfl, e⟩
  | [], c :: a', x, x', _, h2, h3, _, e => absurd (h2 c List.mem_cons_self) (h3 c (a' ++ x') e)
  | c :: a, [], x, x', h1, _, _, h4, e => absurd (h1 c List.mem_cons_self) (h4 c (a ++ x) e.symm)
  | c :: a, c' :: a', x, x', h1, h2, h3, h4, e => by
    rw [List.cons_append, List.cons_append] at e
    obtain ⟨e1, e2⟩ := List.cons.inj e
    obtain ⟨k1, k2⟩ := span_inj S a a' x x' (fun d hd => h1 d (List.mem_cons_of_mem _ hd)) (fun d hd => h2 d (List.mem_cons_of_mem _ hd)) h3 h4 e2
    exact ⟨by rw [e1, k1], k2⟩
/-- the end, or the sign that ends a part -/
def Stop (r : List Nat) : Prop := r = [] ∨ ∃ y, r = 125 :: y
theorem str_inj {s s' : Str} (e : tl s = tl s') : s = s' := ext_tl e
/-- behind a plain piece stands no plain sign -/
theorem next_plain (u : T) (l : Nat) (g : u.gd l true) {r : List Nat} (hr : Stop r) : ∀ c y, u.wr ++ r = c :: y → c ∉ plL := by
  intro c y e
  cases u with
  | nil =>
    rcases hr with rfl | ⟨y', rfl⟩
    · cases e
    · rw [← List.head_eq_of_cons_eq (show 125 :: y' = c :: y from e)]
      decide
  | plain s u => exact absurd g.1 (by decide)
  | part n s v u =>
    rw [← List.head_eq_of_cons_eq (show 36 :: (123 :: (tl n ++ (tl s ++ (v.wr ++ 125 :: u.wr))) ++ r) = c :: y from e)]
    decide
/-- behind a name stands no sign of a name -/
theorem next_name {n s : Str} {v : T} {l : Nat} (hs : s ∈ signsL) (h0 : s = ("" : Str) → v = .nil) {X : List Nat} : ∀ c y, tl s ++ (v.wr ++ 125 :: X) = c :: y → c ∉ capUL := by
  intro c y e
  rcases sign_tl hs with z | ⟨k, hk, z⟩ | ⟨k, hk, z⟩
  · rw [z, h0 (sign_nil z)] at e
    rw [← List.head_eq_of_cons_eq (show 125 :: X = c :: y from e)]
    decide
  · rw [z] at e
    rw [← List.head_eq_of_cons_eq (show k :: (v.wr ++ 125 :: X) = c :: y from e)]
    exact kce k (List.mem_append_left _ hk)
  · rw [z] at e
    rw [← List.head_eq_of_cons_eq (show 58 :: (k :: (v.wr ++ 125 :: X)) = c :: y from e)]
    decide
theorem sign_inj {s s' : Str} {v v' : T} {X X' : List Nat} (hs : s ∈ signsL) (hs' : s' ∈ signsL) (h0 : s = ("" : Str) → v = .nil) (h0' : s' = ("" : Str) → v' = .nil)
    (e : tl s ++ (v.wr ++ 125 :: X) = tl s' ++ (v'.wr ++ 125 :: X')) : s = s' := by
  have no : ∀ k ∈ kindL, k ≠ 125 ∧ k ≠ 58 := by decide
  rcases sign_tl hs with z | ⟨k, hk, z⟩ | ⟨k, hk, z⟩ <;> rcases sign_tl hs' with z' | ⟨k', hk', z'⟩ | ⟨k', hk', z'⟩
  · exact str_inj (z.trans z'.symm)
  · rw [z, z', h0 (sign_nil z)] at e
    exact absurd (List.head_eq_of_cons_eq (show 125 :: X = k' :: (v'.wr ++ 125 :: X') from e)).symm (no k' hk').1
  · rw [z, z', h0 (sign_nil z)] at e
    exact absurd (List.head_eq_of_cons_eq (show 125 :: X = 58 :: (k' :: (v'.wr ++ 125 :: X')) from e)) (by decide)
  · rw [z, z', h0' (sign_nil z')] at e
    exact absurd (List.head_eq_of_cons_eq (show k :: (v.wr ++ 125 :: X) = 125 :: X' from e)) (no k hk).1
  · rw [z, z'] at e
    have := List.head_eq_of_cons_eq (show k :: (v.wr ++ 125 :: X) = k' :: (v'.wr ++ 125 :: X') from e)
    exact str_inj (by rw [z, z', this])
  · rw [z, z'] at e
    exact absurd (List.head_eq_of_cons_eq (show k :: (v.wr ++ 125 :: X) = 58 :: (k' :: (v'.wr ++ 125 :: X')) from e)) (no k hk).2
  · rw [z, z', h0' (sign_nil z')] at e
    exact absurd (List.head_eq_of_cons_eq (show 58 :: (k :: (v.wr ++ 125 :: X)) = 125 :: X' from e)) (by decide)
  · rw [z, z'] at e
    exact absurd (List.head_eq_of_cons_eq (show 58 :: (k :: (v.wr ++ 125 :: X)) = k' :: (v'.wr ++ 125 :: X') from e)).symm (no k' hk').2
  · rw [z, z'] at e
    obtain ⟨_, e2⟩ := List.cons.inj (show 58 :: (k :: (v.wr ++ 125 :: X)) = 58 :: (k' :: (v'.wr ++ 125 :: X')) from e)
    exact str_inj (by rw [z, z', (List.cons.inj e2).1])
theorem plain_cons {s : Str} (h : okP s) : ∃ c cs, tl s = c :: cs ∧ c ∈ plL := by
  cases e : tl s with
  | nil => have := h.1; rw [e] at this; exact absurd this (by decide)
  | cons c cs => exact ⟨c, cs, rfl, h.2.2 c (by rw [e]; exact List.mem_cons_self)⟩
theorem stop_plain {r : List Nat} (hr : Stop r) {c : Nat} {y : List Nat} (e : r = c :: y) : c ∉ plL ∧ c ≠ 36 := by
  rcases hr with h | ⟨y', h⟩
  · rw [h] at e
    cases e
  · rw [h] at e
    rw [← List.head_eq_of_cons_eq e]
    decide
theorem sub_gd {s : Str} {u : T} {l : Nat} (h3 : s = ("" : Str) → u = .nil) (h4 : s ≠ ("" : Str) → 2 ≤ l ∧ u.len ≤ 8 ∧ u.gd (l - 1) false) : u.gd (l - 1) false := by
  by_cases e : s = ("" : Str)
  · rw [h3 e]
    trivial
  · exact (h4 e).2.2
theorem wr_inj : ∀ (t t' : T) (l : Nat) (b b' : Bool) (r r' : List Nat), t.gd l b → t'.gd l b' → Stop r → Stop r' → t.wr ++ r = t'.wr ++ r' → t = t' ∧ r = r'
  | .nil, .nil, _, _, _, _, _, _, _, _, _, e => ⟨rfl, e⟩
  | .nil, .plain s u, l, b, b', r, r', g, g', hr, hr', e => by
    obtain ⟨c, cs, ec, hc⟩ := plain_cons g'.2.1
    have e' : r = (tl s ++ u.wr) ++ r' := e
    rw [ec] at e'
    exact absurd hc (stop_plain hr e').1
  | .plain s u, .nil, l, b, b', r, r', g, g', hr, hr', e => by
    obtain ⟨c, cs, ec, hc⟩ := plain_cons g.2.1
    have e' : (tl s ++ u.wr) ++ r = r' := e
    rw [ec] at e'
    exact absurd hc (stop_plain hr' e'.symm).1
  | .nil, .part n s v u, l, b, b', r, r', g, g', hr, hr', e => absurd rfl (stop_plain hr (show r = 36 :: (123 :: (tl n ++ (tl s ++ (v.wr ++ 125 :: u.wr))) ++ r') from e)).2
  | .part n s v u, .nil, l, b, b', r, r', g, g', hr, hr', e => absurd rfl (stop_plain hr' (show r' = 36 :: (123 :: (tl n ++ (tl s ++ (v.wr ++ 125 :: u.wr))) ++ r) from e.symm)).2
  | .plain s u, .part n s' v u', l, b, b', r, r', g, g', hr, hr', e => by
    obtain ⟨c, cs, ec, hc⟩ := plain_cons g.2.1
    have e' : (tl s ++ u.wr) ++ r = 36 :: (123 :: (tl n ++ (tl s' ++ (v.wr ++ 125 :: u'.wr))) ++ r') := e
    rw [ec] at e'
    have := List.head_eq_of_cons_eq e'
    exact absurd (this ▸ hc) (by decide)
  | .part n s' v u', .plain s u, l, b, b', r, r', g, g', hr, hr', e => by
    obtain ⟨c, cs, ec, hc⟩ := plain_cons g'.2.1
    have e' : 36 :: (123 :: (tl n ++ (tl s' ++ (v.wr ++ 125 :: u'.wr))) ++ r) = (tl s ++ u.wr) ++ r' := e
    rw [ec] at e'
    have := (List.head_eq_of_cons_eq e').symm
    exact absurd (this ▸ hc) (by decide)
  | .plain s u, .plain s' u', l, b, b', r, r', g, g', hr, hr', e => by
    have e' : (tl s ++ u.wr) ++ r = (tl s' ++ u'.wr) ++ r' := e
    rw [List.append_assoc, List.append_assoc] at e'
    obtain ⟨k1, k2⟩ := span_inj plL (tl s) (tl s') _ _ g.2.1.2.2 g'.2.1.2.2 (next_plain u l g.2.2 hr) (next_plain u' l g'.2.2 hr') e'
    obtain ⟨k3, k4⟩ := wr_inj u u' l true true r r' g.2.2 g'.2.2 hr hr' k2
    exact ⟨by rw [str_inj k1, k3], k4⟩
  | .part n s v u, .part n' s' v' u', l, b, b', r, r', ⟨g1, g2, g3, g4, g5⟩, ⟨g1', g2', g3', g4', g5'⟩, hr, hr', e => by
    have e0 : (36 :: 123 :: (tl n ++ (tl s ++ (v.wr ++ 125 :: u.wr)))) ++ r = (36 :: 123 :: (tl n' ++ (tl s' ++ (v'.wr ++ 125 :: u'.wr)))) ++ r' := e
    have e1 : tl n ++ (tl s ++ (v.wr ++ 125 :: (u.wr ++ r))) = tl n' ++ (tl s' ++ (v'.wr ++ 125 :: (u'.wr ++ r'))) := by
      have : (tl n ++ (tl s ++ (v.wr ++ 125 :: u.wr))) ++ r = (tl n' ++ (tl s' ++ (v'.wr ++ 125 :: u'.wr))) ++ r' := (List.cons.inj (List.cons.inj e0).2).2
      simpa only [List.append_assoc, List.cons_append] using this
    obtain ⟨k1, k2⟩ := span_inj capUL (tl n) (tl n') _ _ (okN_all g1) (okN_all g1') (next_name (n := n) (l := l) g2 g3) (next_name (n := n') (l := l) g2' g3') e1
    have k3 := sign_inj g2 g2' g3 g3' k2
    subst k3
    have k4 : v.wr ++ 125 :: (u.wr ++ r) = v'.wr ++ 125 :: (u'.wr ++ r') := List.append_cancel_left k2
    obtain ⟨k5, k6⟩ := wr_inj v v' (l - 1) false false _ _ (sub_gd g3 g4) (sub_gd g3' g4') (.inr ⟨_, rfl⟩) (.inr ⟨_, rfl⟩) k4
    obtain ⟨k7, k8⟩ := wr_inj u u' l false false r r' g5 g5' hr hr' (List.cons.inj k6).2
    exact ⟨by rw [str_inj k1, k5, k7], k8⟩
theorem okT_inj {t t' : T} (h : okT t) (h' : okT t') (e : t.wr = t'.wr) : t = t' :=
  (wr_inj t t' 4 false false [] [] h.1 h'.1 (.inl rfl) (.inl rfl) (by rw [List.append_nil, List.append_nil, e])).1
theorem row_inj {r r' : Rw} (h : r.ok) (h' : r'.ok) (e : r.wr = r'.wr) : r = r' := by
  have cap : ∀ c ∈ capL, c ≠ 99 ∧ c ≠ 100 := by decide
  have nm : ∀ {n n' : Str} {x x' : List Nat} {a a' : Nat}, okN n → okN n' → a ∉ capUL → a' ∉ capUL → tl n ++ a :: x = tl n' ++ a' :: x' → n = n' ∧ a = a' ∧ x = x' := fun {n n' x x' a a'} h1 h2 h3 h4 e => by
    obtain ⟨k1, k2⟩ := span_inj capUL (tl n) (tl n') _ _ (okN_all h1) (okN_all h2) (fun c y z => by rw [← List.head_eq_of_cons_eq z]; exact h3) (fun c y z => by rw [← List.head_eq_of_cons_eq z]; exact h4) e
    exact ⟨str_inj k1, (List.cons.inj k2).1, (List.cons.inj k2).2⟩
  have n61 : (61 : Nat) ∉ capUL := by decide
  have n63 : (63 : Nat) ∉ capUL := by decide
  have hd : ∀ {n : Str} {x y : List Nat} {a : Nat}, okN n → tl n ++ x = a :: y → a ∈ capL := fun {n x y a} hn e => by
    obtain ⟨c, cs, ec, hc, _⟩ := okN_cons hn
    rw [ec] at e
    rw [← List.head_eq_of_cons_eq e]
    exact hc
  cases r with
  | set n t =>
    cases r' with
    | set n' t' =>
      obtain ⟨k1, _, k3⟩ := nm h.1 h'.1 n61 n61 (show tl n ++ 61 :: t.wr = tl n' ++ 61 :: t'.wr from e)
      rw [k1, okT_inj h.2 h'.2 k3]
    | give n' t' => exact absurd (nm h.1 h'.1 n61 n63 (show tl n ++ 61 :: t.wr = tl n' ++ 63 :: (61 :: t'.wr) from e)).2.1 (by decide)
    | drop n' => exact absurd rfl (cap _ (hd h.1 (show tl n ++ 61 :: t.wr = 100 :: (114 :: 111 :: 112 :: 32 :: tl n') from e))).2
    | chk t' => exact absurd rfl (cap _ (hd h.1 (show tl n ++ 61 :: t.wr = 99 :: (104 :: 101 :: 99 :: 107 :: 32 :: t'.wr) from e))).1
  | give n t =>
    cases r' with
    | set n' t' => exact absurd (nm h.1 h'.1 n63 n61 (show tl n ++ 63 :: (61 :: t.wr) = tl n' ++ 61 :: t'.wr from e)).2.1 (by decide)
    | give n' t' =>
      obtain ⟨k1, _, k3⟩ := nm h.1 h'.1 n63 n63 (show tl n ++ 63 :: (61 :: t.wr) = tl n' ++ 63 :: (61 :: t'.wr) from e)
      rw [k1, okT_inj h.2 h'.2 (List.cons.inj k3).2]
    | drop n' => exact absurd rfl (cap _ (hd h.1 (show tl n ++ 63 :: 61 :: t.wr = 100 :: (114 :: 111 :: 112 :: 32 :: tl n') from e))).2
    | chk t' => exact absurd rfl (cap _ (hd h.1 (show tl n ++ 63 :: 61 :: t.wr = 99 :: (104 :: 101 :: 99 :: 107 :: 32 :: t'.wr) from e))).1
  | drop n =>
    cases r' with
    | set n' t' => exact absurd rfl (cap _ (hd h'.1 (show tl n' ++ 61 :: t'.wr = 100 :: (114 :: 111 :: 112 :: 32 :: tl n) from e.symm))).2
    | give n' t' => exact absurd rfl (cap _ (hd h'.1 (show tl n' ++ 63 :: 61 :: t'.wr = 100 :: (114 :: 111 :: 112 :: 32 :: tl n) from e.symm))).2
    | drop n' =>
      have := (List.cons.inj (List.cons.inj (List.cons.inj (List.cons.inj (List.cons.inj (show 100 :: 114 :: 111 :: 112 :: 32 :: tl n = 100 :: 114 :: 111 :: 112 :: 32 :: tl n' from e)).2).2).2).2).2
      rw [str_inj this]
    | chk t' => exact absurd (List.head_eq_of_cons_eq (show 100 :: (114 :: 111 :: 112 :: 32 :: tl n) = 99 :: (104 :: 101 :: 99 :: 107 :: 32 :: t'.wr) from e)) (by decide)
  | chk t =>
    cases r' with
    | set n' t' => exact absurd rfl (cap _ (hd h'.1 (show tl n' ++ 61 :: t'.wr = 99 :: (104 :: 101 :: 99 :: 107 :: 32 :: t.wr) from e.symm))).1
    | give n' t' => exact absurd rfl (cap _ (hd h'.1 (show tl n' ++ 63 :: 61 :: t'.wr = 99 :: (104 :: 101 :: 99 :: 107 :: 32 :: t.wr) from e.symm))).1
    | drop n' => exact absurd (List.head_eq_of_cons_eq (show 99 :: (104 :: 101 :: 99 :: 107 :: 32 :: t.wr) = 100 :: (114 :: 111 :: 112 :: 32 :: tl n') from e)) (by decide)
    | chk t' =>
      have := (List.cons.inj (List.cons.inj (List.cons.inj (List.cons.inj (List.cons.inj (List.cons.inj (show 99 :: 104 :: 101 :: 99 :: 107 :: 32 :: t.wr = 99 :: 104 :: 101 :: 99 :: 107 :: 32 :: t'.wr from e)).2).2).2).2).2).2
      rw [okT_inj h h' this]
theorem rows_inj : ∀ {rs rs' : List Rw}, (∀ r ∈ rs, r.ok) → (∀ r ∈ rs', r.ok) → (rs.map fun r => ofC r.wr) = (rs'.map fun r => ofC r.wr) → rs = rs'
  | [], [], _, _, _ => rfl
  | [], _ :: _, _, _, e => by cases e
  | _ :: _, [], _, _, e => by cases e
  | r :: rs, r' :: rs', h, h', e => by
    rw [List.map_cons, List.map_cons] at e
    obtain ⟨e1, e2⟩ := List.cons.inj e
    have k1 : r.wr = r'.wr := congrArg tl e1
    rw [row_inj (h r List.mem_cons_self) (h' r' List.mem_cons_self) k1, rows_inj (fun x hx => h x (List.mem_cons_of_mem _ hx)) (fun x hx => h' x (List.mem_cons_of_mem _ hx)) e2]
theorem file_inj {rs rs' : List Rw} (h : okF rs) (h' : okF rs') (e : fileS rs = fileS rs') : rs = rs' := by
  by_cases h0 : rs = []
  · by_cases h0' : rs' = []
    · rw [h0, h0']
    · rw [h0, file_nil] at e
      exact absurd e.symm (file_ne h' h0')
  · by_cases h0' : rs' = []
    · rw [h0', file_nil] at e
      exact absurd e (file_ne h h0)
    · refine rows_inj h.ok h'.ok ?_
      rw [← file_split h h0, ← file_split h' h0', e]

/-! ### what is shown of it -/
theorem shown_str {s : Str} (h : PyData.strOk s = true) : (PyData.shown (.str s)).length ≤ 10 * (tl s).length + 2 := by
  have e : PyData.shown (.str s) = reprText s := by simp only [PyData.shown]
  rw [e, ← len_tl]
  exact PySem.StrLaws.reprText_len s fun c hc => Nat.lt_trans (of_strOk h c hc) (by decide)
theorem shown_tup (ds : List PyData) : (PyData.shown (.tuple ds)).length ≤ piled (PyData.shownAll ds) + 2 := by
  have e : PyData.shown (.tuple ds) = tupleText (PyData.shownAll ds) := by simp only [PyData.shown]
  rw [e]
  exact fmt_text _
theorem piled_all_nil : piled (PyData.shownAll []) = 0 := by simp only [PyData.shownAll, piled_nil]
theorem piled_all (d : PyData) (ds : List PyData) : piled (PyData.shownAll (d :: ds)) = ((PyData.shown d).length + 2) + piled (PyData.shownAll ds) := by
  simp only [PyData.shownAll, piled_cons]
theorem piled_dat : ∀ t : T, t.lay = true → piled (PyData.shownAll t.dat) ≤ t.wS
  | .nil, _ => Nat.le_of_eq piled_all_nil
  | .plain s r, h => by
    have h' : (PyData.strOk s && r.lay) = true := h
    rw [Bool.and_eq_true] at h'
    have h1 := shown_str h'.1
    have h2 := piled_dat r h'.2
    show piled (PyData.shownAll (.str s :: r.dat)) ≤ 10 * (tl s).length + 4 + r.wS
    rw [piled_all]
    omega
  | .part n s u r, h => by
    have h' : ((PyData.strOk n && PyData.strOk s) && (u.lay && r.lay)) = true := h
    rw [Bool.and_eq_true, Bool.and_eq_true, Bool.and_eq_true] at h'
    have h1 := shown_str h'.1.1
    have h2 := shown_str h'.1.2
    have h3 := piled_dat u h'.2.1
    have h4 := piled_dat r h'.2.2
    have h5 := shown_tup u.dat
    have h6 := shown_tup [.str n, .str s, .tuple u.dat]
    show piled (PyData.shownAll (.tuple [.str n, .str s, .tuple u.dat] :: r.dat)) ≤ 10 * (tl n).length + 10 * (tl s).length + 16 + u.wS + r.wS
    rw [piled_all, piled_all, piled_all, piled_all_nil] at h6
    rw [piled_all]
    omega
theorem okT_lay {t : T} (h : okT t) : t.lay = true := Er.T.gd_lay t 4 false h.1
theorem shown_text {t : T} (h : okT t) : (PyData.shown (.tuple t.dat)).length ≤ 100002 := by
  have h1 := shown_tup t.dat
  have h2 := piled_dat t (okT_lay h)
  have h3 := h.2.2
  omega
theorem key_len : (tl ("set" : Str)).length = 3 ∧ (tl ("give" : Str)).length = 4 ∧ (tl ("drop" : Str)).length = 4 ∧ (tl ("check" : Str)).length = 5 := by decide +kernel
theorem key_ok : PyData.strOk "set" = true ∧ PyData.strOk "give" = true ∧ PyData.strOk "drop" = true ∧ PyData.strOk "check" = true := by decide +kernel
theorem shown_row {r : Rw} (h : r.ok) : (PyData.shown r.dat).length ≤ 100200 := by
  obtain ⟨a1, a2, a3, a4⟩ := key_len
  obtain ⟨b1, b2, b3, b4⟩ := key_ok
  cases r with
  | set n t =>
    have h1 := shown_str b1
    have h2 := shown_str (okN_ok h.1)
    have h3 := shown_text h.2
    have h4 := shown_tup [.str "set", .str n, .tuple t.dat]
    have h5 := (okN_len h.1).2
    rw [piled_all, piled_all, piled_all, piled_all_nil] at h4
    show (PyData.shown (.tuple [.str "set", .str n, .tuple t.dat])).length ≤ _
    omega
  | give n t =>
    have h1 := shown_str b2
    have h2 := shown_str (okN_ok h.1)
    have h3 := shown_text h.2
    have h4 := shown_tup [.str "give", .str n, .tuple t.dat]
    have h5 := (okN_len h.1).2
    rw [piled_all, piled_all, piled_all, piled_all_nil] at h4
    show (PyData.shown (.tuple [.str "give", .str n, .tuple t.dat])).length ≤ _
    omega
  | drop n =>
    have h1 := shown_str b3
    have h2 := shown_str (okN_ok (n := n) h)
    have h4 := shown_tup [.str "drop", .str n]
    have h5 := (okN_len (n := n) h).2
    rw [piled_all, piled_all, piled_all_nil] at h4
    show (PyData.shown (.tuple [.str "drop", .str n])).length ≤ _
    omega
  | chk t =>
    have h1 := shown_str b4
    have h3 := shown_text (t := t) h
    have h4 := shown_tup [.str "check", .tuple t.dat]
    rw [piled_all, piled_all, piled_all_nil] at h4
    show (PyData.shown (.tuple [.str "check", .tuple t.dat])).length ≤ _
    omega
theorem piled_rows : ∀ rs : List Rw, (∀ r ∈ rs, r.ok) → piled (PyData.shownAll (rs.map Rw.dat)) ≤ rs.length * 100202
  | [], _ => Nat.le_of_eq piled_all_nil
  | r :: rs, h => by
    have h1 := shown_row (h r List.mem_cons_self)
    have h2 := piled_rows rs fun x hx => h x (List.mem_cons_of_mem _ hx)
    rw [List.map_cons, piled_all, List.length_cons, Nat.succ_mul]
    omega
theorem shown_file {rs : List Rw} (h : okF rs) : (PyData.shown (.tuple (rs.map Rw.dat))).length ≤ 4100000 := by
  have h1 := shown_tup (rs.map Rw.dat)
  have h2 := piled_rows rs h.ok
  have h3 := h.few
  omega
/-- no number in it -/
theorem able_dat : ∀ t : T, PyData.showableAll t.dat = true
  | .nil => by simp only [T.dat, PyData.showableAll]
  | .plain s r => by simp only [T.dat, PyData.showableAll, PyData.showable, able_dat r, Bool.and_self]
  | .part n s u r => by simp only [T.dat, PyData.showableAll, PyData.showable, able_dat r, able_dat u, Bool.and_self]
theorem able_row (r : Rw) : r.dat.showable = true := by
  cases r <;> simp only [Rw.dat, PyData.showable, PyData.showableAll, able_dat, Bool.and_self]
theorem able_rows : ∀ rs : List Rw, PyData.showableAll (rs.map Rw.dat) = true
  | [] => by simp only [List.map_nil, PyData.showableAll]
  | r :: rs => by simp only [List.map_cons, PyData.showableAll, able_row r, able_rows rs, Bool.and_self]
theorem deep_dat : ∀ t : T, PyData.depthAll t.dat ≤ 2 * t.dp
  | .nil => by simp [T.dat, PyData.depthAll]
  | .plain s r => by
    have h := deep_dat r
    simp only [T.dat, PyData.depthAll, PyData.depth]
    show max 0 (PyData.depthAll r.dat) ≤ 2 * r.dp
    omega
  | .part n s u r => by
    have h1 := deep_dat u
    have h2 := deep_dat r
    simp only [T.dat, PyData.depthAll, PyData.depth]
    show _ ≤ 2 * max (u.dp + 1) r.dp
    omega
theorem deep_text {t : T} (h : okT t) : (PyData.tuple t.dat).depth ≤ 11 := by
  have h1 := deep_dat t
  have h2 := okT_dp h
  simp only [PyData.depth]
  omega
theorem deep_row {r : Rw} (h : r.ok) : r.dat.depth ≤ 12 := by
  cases r with
  | set n t =>
    have := deep_text h.2
    simp only [Rw.dat, PyData.depth, PyData.depthAll] at this ⊢
    omega
  | give n t =>
    have := deep_text h.2
    simp only [Rw.dat, PyData.depth, PyData.depthAll] at this ⊢
    omega
  | drop n =>
    simp only [Rw.dat, PyData.depth, PyData.depthAll]
    omega
  | chk t =>
    have := deep_text (t := t) h
    simp only [Rw.dat, PyData.depth, PyData.depthAll] at this ⊢
    omega
theorem deep_rows : ∀ rs : List Rw, (∀ r ∈ rs, r.ok) → PyData.depthAll (rs.map Rw.dat) ≤ 12
  | [], _ => by simp only [List.map_nil, PyData.depthAll]; omega
  | r :: rs, h => by
    have h1 := deep_row (h r List.mem_cons_self)
    have h2 := deep_rows rs fun x hx => h x (List.mem_cons_of_mem _ hx)
    simp only [List.map_cons, PyData.depthAll]
    omega
theorem deep_file {rs : List Rw} (h : okF rs) : (PyData.tuple (rs.map Rw.dat)).depth ≤ 13 := by
  have := deep_rows rs h.ok
  simp only [PyData.depth]
  omega
theorem lay_row {r : Rw} (h : r.ok) : r.dat.canLay0 = true := by
  obtain ⟨b1, b2, b3, b4⟩ := key_ok
  cases r with
  | set n t => simp only [Rw.dat, PyData.canLay0, PyData.canLayAll0, b1, okN_ok h.1, Er.T.lay_dat t (okT_lay h.2), Bool.and_self]
  | give n t => simp only [Rw.dat, PyData.canLay0, PyData.canLayAll0, b2, okN_ok h.1, Er.T.lay_dat t (okT_lay h.2), Bool.and_self]
  | drop n => simp only [Rw.dat, PyData.canLay0, PyData.canLayAll0, b3, okN_ok (n := n) h, Bool.and_self]
  | chk t => simp only [Rw.dat, PyData.canLay0, PyData.canLayAll0, b4, Er.T.lay_dat t (okT_lay (t := t) h), Bool.and_self]
theorem lay_rows : ∀ rs : List Rw, (∀ r ∈ rs, r.ok) → PyData.canLayAll0 (rs.map Rw.dat) = true
  | [], _ => by simp only [List.map_nil, PyData.canLayAll0]
  | r :: rs, h => by simp only [List.map_cons, PyData.canLayAll0, lay_row (h r List.mem_cons_self), lay_rows rs fun x hx => h x (List.mem_cons_of_mem _ hx), Bool.and_self]
theorem lay_text {t : T} (h : okT t) : (PyData.tuple t.dat).canLay0 = true := by
  simp only [PyData.canLay0, Er.T.lay_dat t (okT_lay h)]
theorem lay_file {rs : List Rw} (h : okF rs) : (PyData.tuple (rs.map Rw.dat)).canLay0 = true := by
  simp only [PyData.canLay0, lay_rows rs h.ok]
theorem shaped_file {rs : List Rw} (h : okF rs) : SeqAt.shaped (.tuple (rs.map Rw.dat)) = true := by
  unfold SeqAt.shaped
  rw [lay_file h, decide_eq_true (Nat.le_trans (deep_file h) (by decide))]
  rfl
theorem shaped_text {t : T} (h : okT t) : SeqAt.shaped (.tuple t.dat) = true := by
  unfold SeqAt.shaped
  rw [lay_text h, decide_eq_true (Nat.le_trans (deep_text h) (by decide))]
  rfl
end Er
namespace Er
open PySem L2 TL
section
variable {P : Program} {w : World} {K : PySem.W.Frag} {mg : Str → Option Value} {base : Heap}

/-! ### _law_text_right -/
abbrev sTright : Stmt := topS 68
theorem scTright : FnScope ["text", "due"] ["text"] (defScope sTright) := ⟨rfl, rfl, rfl, by decide +kernel, rfl, by decide +kernel, by decide +kernel⟩
def spTright : Sp := fun vs H Q _ => ∃ (p : Addr) (t : T), vs = [.ref p] ∧ TAt H p t ∧ okT t ∧ ∀ H', Same H H' → Q (.bl true) H'
theorem ok_tright {f f1 f2 f3 : Addr} {fd fd1 fd2 fd3 : FuncData} (F : Fun K "_law_text_right" "_law_text_right" sTright f fd) (T : Txt K mg) (D1 : Df K mg "_law_written" sLwritten ["text"] f1 fd1) (G1 : FnOk P w K mg base CX0 5 f1 fd1 ["text"] (spWritten 5))
    (D2 : Df K mg "text_of" sTextOf ["text"] f2 fd2) (G2 : FnOk P w K mg base CX0 11 f2 fd2 ["text"] spTextOut) (D3 : Df K mg "read_text" sReadText ["string"] f3 fd3) (G3 : FnOk P w K mg base CX0 11 f3 fd3 ["string"] spReadText) : FnG P w K mg base 12 f fd ["text"] spTright := by
  refine okG F scTright (fun vs H Q E h => ?_) (fun cdv A outer s H vs Q hr hg h => ?_)
  · obtain ⟨p, t, rfl, _⟩ := h
    rfl
  have nd := scTright.nd
  have hr5 : Room 5 (A.deeper (PyProof.Rows.envOfC "_law_text_right" (defScope sTright) s.heap.objs.size f cdv)) := hr.mono (by omega)
  refine ⟨_, pss_cons (ps_set (i := 1) nd rfl (Or.inl rfl) (cal D1 G1 hr5 (pa_cons (pv 0) pa_nil)))
    (pss_one (ps_ret (pe_and (pe_cmpR op_eq (cal D2 G2 hr (pa_cons (pv 0) pa_nil)) (pv 1) (nomark _)) (pe_one (pe_cmpR op_eq (pe_callB (cr_repr hr hg) rfl T.b_repr boot_reprB (pa_cons (cal D3 G3 hr (pa_cons (pv 1) pa_nil)) pa_nil))
      (pe_callB (cr_repr hr hg) rfl T.b_repr boot_reprB (pa_cons (pv 0) pa_nil)) rfl))))), ?_⟩
  obtain ⟨p, t, rfl, ht, ok, q⟩ := h
  have able : (PyData.tuple t.dat).showable = true := by simp only [PyData.showable, able_dat]
  have nodict := PyData.hasDict_of_canLay _ (lay_text ok)
  have deep := Nat.le_trans (deep_text ok) (show 11 ≤ 40 by decide)
  have long := Nat.le_trans (shown_text ok) (show 100002 ≤ sizeLine by decide)
  have short := Nat.le_trans (okT_short ok) (show 100000 ≤ sizeLine by decide)
  refine ⟨_, rfl, p, t, rfl, ht, okT_dp ok, ok.2.2, fun H1 e1 => ?_⟩
  have ht1 := ht.keep (sTups e1)
  refine ⟨_, rfl, p, t, rfl, ht1, ok, fun H2 e2 => ?_⟩
  have ht2 := ht1.keep (sTups e2)
  refine ⟨_, rfl, rfl, _, rfl, ?_⟩
  rw [decide_eq_true (rfl : V.str (ofC t.wr) = V.str (ofC t.wr))]
  refine iteT ⟨_, rfl, ofC t.wr, t, rfl, rfl, ok, short, fun b H3 e3 h3 => ?_⟩
  have ht3 := ht2.keep (sTups e3)
  refine ⟨b, _, rfl, h3.dp, able, nodict, deep, long, _, rfl, p, _, rfl, ht3.dp, able, nodict, deep, long, rfl, ?_⟩
  rw [decide_eq_true (rfl : V.str (PyData.tuple t.dat).shown = V.str (PyData.tuple t.dat).shown)]
  exact q H3 (e1.trans (e2.trans e3))

/-! ### _law_file_right -/
abbrev sFright : Stmt := topS 69
theorem scFright : FnScope ["rows", "due", "row"] ["rows"] (defScope sFright) := ⟨rfl, rfl, rfl, by decide +kernel, rfl, by decide +kernel, by decide +kernel⟩
def spFright : Sp := fun vs H Q _ => ∃ (p : Addr) (rs : List Rw), vs = [.ref p] ∧ FAt H p rs ∧ okF rs ∧ ∀ H', Same H H' → Q (.bl true) H'
theorem ok_fright {f f1 f2 f3 : Addr} {fd fd1 fd2 fd3 : FuncData} (F : Fun K "_law_file_right" "_law_file_right" sFright f fd) (T : Txt K mg) (D1 : Df K mg "_law_row_written" sLrow ["row"] f1 fd1) (G1 : FnOk P w K mg base CX0 6 f1 fd1 ["row"] spRowText)
    (D2 : Df K mg "file_text" sFileText ["file"] f2 fd2) (G2 : FnOk P w K mg base CX0 13 f2 fd2 ["file"] spFileText) (D3 : Df K mg "read_file" sReadFile ["string"] f3 fd3) (G3 : FnOk P w K mg base CX0 13 f3 fd3 ["string"] spReadFile) : FnG P w K mg base 14 f fd ["rows"] spFright := by
  refine okG F scFright (fun vs H Q E h => ?_) (fun cdv A outer s H vs Q hr hg h => ?_)
  · obtain ⟨p, t, rfl, _⟩ := h
    rfl
  have nd := scFright.nd
  refine ⟨_, pss_cons (ps_set (i := 1) nd rfl (Or.inl rfl) (pe_join pe_str (pe_lc (own := [("row", 2)]) (g := gName 2) (tt := tYes) rfl nd (pi_tup (pv 0)) (blkOk_by (N := ["rows", "due", "row"]) (sc := defScope sFright) (by decide +kernel))
      (fun _ _ _ _ _ => pg_name (i := 2) nd rfl (Or.inl rfl)) (fun _ _ _ _ _ => pts_nil) (fun _ _ _ _ _ => cal D1 G1 (hr.mono (by decide)) (pa_cons (pv 2) pa_nil)))))
    (pss_one (ps_ret (pe_and (pe_cmpR op_eq (cal D2 G2 hr (pa_cons (pv 0) pa_nil)) (pv 1) (nomark _)) (pe_one (pe_cmpR op_eq (pe_callB (cr_repr hr hg) rfl T.b_repr boot_reprB (pa_cons (cal D3 G3 hr (pa_cons (pv 1) pa_nil)) pa_nil))
      (pe_callB (cr_repr hr hg) rfl T.b_repr boot_reprB (pa_cons (pv 0) pa_nil)) rfl))))), ?_⟩
  obtain ⟨p, rs, rfl, hf, ok, q⟩ := h
  obtain ⟨ws, hp, ht⟩ := id hf
  have hlen := ht.len
  have able : (PyData.tuple (rs.map Rw.dat)).showable = true := by simp only [PyData.showable, able_rows]
  have nodict := PyData.hasDict_of_canLay _ (lay_file ok)
  have deep := Nat.le_trans (deep_file ok) (show 13 ≤ 40 by decide)
  have long := Nat.le_trans (shown_file ok) (show 4100000 ≤ sizeLine by decide)
  refine ⟨⟨_, rfl⟩, _, rfl, p, rfl, ⟨ws, SqT.of hp⟩, fun D hD => ?_⟩
  refine lc_tup (xs := ws) (fun i H' => Same H H' ∧ H' D = some (.lst ((rs.take i).map Rw.v))) ⟨sNew hD _, upd_same⟩ (fun i H' _ z => SqT.of (z.1 _ _ hp)) ?_ ?_
  · rintro i x H2 hx ⟨e2, h2⟩
    obtain ⟨r, k1, k2, k3⟩ := ht.at hx
    refine ⟨rfl, _, rfl, x, r, rfl, k3.keep (sTups e2), ok.ok r k2, fun H3 e3 => ⟨_, e3 _ _ h2, ?_, sPut (e2.trans e3) hD _, ?_⟩⟩
    · have f40 := ok.few
      rw [List.length_map, List.length_take]
      exact Nat.lt_of_le_of_lt (show min i rs.length ≤ 40 by omega) (by decide)
    · rw [upd_same, map_take Rw.v k1]
      rfl
  · rintro H1 ⟨e1, h1⟩
    rw [hlen, List.take_length] at h1
    refine ⟨("\n" : Str), D, List.map (fun r : Rw => ofC r.wr) rs, rfl, rfl, .inl (SqL.of ?_), file_sum ok, ?_⟩
    · rw [h1, List.map_map]
      rfl
    have hf1 := hf.keep (sTups e1)
    refine ⟨_, rfl, p, rs, rfl, hf1, ok, fun H2 e2 => ?_⟩
    have hf2 := hf1.keep (sTups e2)
    refine ⟨_, rfl, rfl, _, rfl, ?_⟩
    show if decide (V.str (fileS rs) = V.str (fileS rs)) = true then _ else _
    rw [decide_eq_true (rfl : V.str (fileS rs) = V.str (fileS rs))]
    refine iteT ⟨_, rfl, rs, rfl, ok, fun b H3 e3 h3 => ?_⟩
    have hf3 := hf2.keep (sTups e3)
    refine ⟨b, _, rfl, h3.dp, able, nodict, deep, long, _, rfl, p, _, rfl, hf3.dp, able, nodict, deep, long, rfl, ?_⟩
    rw [decide_eq_true (rfl : V.str (PyData.tuple (rs.map Rw.dat)).shown = V.str (PyData.tuple (rs.map Rw.dat)).shown)]
    exact q H3 (e1.trans (e2.trans e3))
end
end Er
namespace Er
open PySem L2 TL
section
variable {P : Program} {w : World} {K : PySem.W.Frag} {mg : Str → Option Value} {base : Heap}
/-- call a guarded def of the text -/
theorem calG {X : Cx} {k : Nat} {f : Addr} {fd : FuncData} {st : Stmt} {x : Str} {ps : List Str} {sp : Sp} {e : Expr} {es : List Expr} {t : TA} {p pos : Pos} (D : Df X.K X.mg x st ps f fd) (G : FnG X.prog X.w X.K X.mg X.base k f fd ps sp) (hr : Room k X.A) (hG : X.A.guards = some []) (ha : PA X (e :: es) t) (hg : Gl X x := by rfl)
    (hdb : (x == ("__debug__" : Str)) = false := by decide) (he : starEach (e :: es) X.env = (false, eval e X.env) :: starEach es X.env := by rfl) (hpl : (backTo pos (starEach es X.env)).any (·.1) = false := by rfl) :
    PE X (.Call (.Name x p) (e :: es) [] pos) (fun σ H Q => t σ H fun vs H1 => sp vs H1 Q E0) := pe_callG G hr hG hg D.m D.F.kp D.b ha hdb he hpl

/-! ### law -/
abbrev sLaw : Stmt := topS 70
theorem scLaw : FnScope ["script", "state", "last", "turn", "names", "rows", "wide", "deep", "text", "more", "file"] ["script"] (defScope sLaw) := ⟨rfl, rfl, rfl, by decide +kernel, rfl, by decide +kernel, by decide +kernel⟩
def spLaw (K : PySem.W.Frag) : Sp := fun vs H Q _ => ∃ (p : Addr) (ns : List Int), vs = [.ref p] ∧ SqL K H p (ns.map V.int) ∧ ns.length ≤ 63 ∧ ∀ H', Q (.bl true) H'
/-- where the law stands ahead of a turn -/
def LawI (p d c l : Addr) (n : Nat) (i : Nat) (σ : St) (H : Hp) : Prop := ∃ (la : Addr) (lr : List Rw) (a : Int) (x3 x4 x5 x6 x7 x8 x9 x10 : Option V), σ = [some (.ref p), some (.ref d), some (.ref la), x3, x4, x5, x6, x7, x8, x9, x10] ∧ Sta H d c l n a ∧ 0 ≤ a ∧ a ≤ 4117 * (i : Nat) ∧ FAt H la lr ∧ okF lr
def rsLast : List Rw := [.set "LAST" (.plain "x" .nil)]
def rsFile : List Rw := [.set "B" (.part "A" ":-" (.plain "x" .nil) (.plain "/" .nil)), .give "A" .nil, .drop "A", .chk (.plain "a=b" .nil)]
def rsTwo : List Rw := [.set "A" (.plain "x=y" .nil)]
theorem words_ok : okN "LAST" ∧ okN "A" ∧ okN "B" ∧ okN "X_Y" ∧ okP "x" ∧ okP "/" ∧ okP "a=b" ∧ okP "x=y" ∧ (":-" : Str) ∈ signsL := by decide +kernel
theorem words_len : (tl ("x" : Str)).length = 1 ∧ (tl ("/" : Str)).length = 1 ∧ (tl ("a=b" : Str)).length = 3 ∧ (tl ("x=y" : Str)).length = 3 ∧ (tl ("A" : Str)).length = 1 := by decide +kernel
theorem okT_nil : okT .nil := ⟨trivial, Nat.zero_le _, Nat.zero_le _⟩
theorem okT_plain {s : Str} (h : okP s) : okT (.plain s .nil) := by
  refine ⟨⟨rfl, h, trivial⟩, (show 1 ≤ 8 by decide), ?_⟩
  show 10 * (tl s).length + 4 + 0 ≤ 100000
  have := h.2.1
  omega
theorem ok_last : okF rsLast := by
  obtain ⟨w1, w2, w3, w4, w5, w6, w7, w8, w9⟩ := words_ok
  refine ⟨(show 1 ≤ 40 by decide), fun r hr => ?_, ["LAST"], (show 1 ≤ 12 by decide), fun r hr => ?_⟩ <;> obtain rfl := List.mem_singleton.mp hr
  · exact ⟨w1, okT_plain w5⟩
  · exact fun z hz => hz
theorem ok_two : okF rsTwo := by
  obtain ⟨w1, w2, w3, w4, w5, w6, w7, w8, w9⟩ := words_ok
  refine ⟨(show 1 ≤ 40 by decide), fun r hr => ?_, ["A"], (show 1 ≤ 12 by decide), fun r hr => ?_⟩ <;> obtain rfl := List.mem_singleton.mp hr
  · exact ⟨w2, okT_plain w8⟩
  · exact fun z hz => hz
theorem ok_nilF : okF [] := ⟨Nat.zero_le _, (fun _ h => nomatch h), [], Nat.zero_le _, (fun _ h => nomatch h)⟩
theorem four {α : Type} {p : α → Prop} {a b c d : α} (h1 : p a) (h2 : p b) (h3 : p c) (h4 : p d) : ∀ x ∈ [a, b, c, d], p x := fun x hx => by
  rcases List.mem_cons.mp hx with z | z
  · exact z ▸ h1
  · rcases List.mem_cons.mp z with z | z
    · exact z ▸ h2
    · rcases List.mem_cons.mp z with z | z
      · exact z ▸ h3
      · exact List.mem_singleton.mp z ▸ h4
theorem three_of {α : Type} {p : α → Prop} {a b c : α} (h1 : p a) (h2 : p b) (h3 : p c) : ∀ x ∈ [a, b, c], p x := fun x hx => four h1 h2 h3 h3 x (by
  rcases List.mem_cons.mp hx with z | z
  · exact z ▸ List.mem_cons_self
  · rcases List.mem_cons.mp z with z | z
    · exact z ▸ List.mem_cons_of_mem _ List.mem_cons_self
    · exact List.mem_singleton.mp z ▸ List.mem_cons_of_mem _ (List.mem_cons_of_mem _ List.mem_cons_self))
theorem ok_fileR : okF rsFile := by
  obtain ⟨w1, w2, w3, w4, w5, w6, w7, w8, w9⟩ := words_ok
  obtain ⟨l1, l2, l3, l4, l5⟩ := words_len
  have l6 := sign_len w9
  refine ⟨(show 4 ≤ 40 by decide), four ⟨w3, ⟨⟨w2, w9, fun e => absurd e (by decide), fun _ => ⟨by decide, (show 1 ≤ 8 by decide), rfl, w5, trivial⟩, rfl, w6, trivial⟩, (show 2 ≤ 8 by decide), ?_⟩⟩ ⟨w2, okT_nil⟩ w2 (okT_plain w7), ["A", "B"], (show 2 ≤ 12 by decide), four ?_ ?_ ?_ ?_⟩
  · show 10 * (tl ("A" : Str)).length + 10 * (tl (":-" : Str)).length + 16 + (10 * (tl ("x" : Str)).length + 4 + 0) + (10 * (tl ("/" : Str)).length + 4 + 0) ≤ 100000
    omega
  · exact (by decide : ∀ z ∈ (["B", "A"] : List Str), z ∈ (["A", "B"] : List Str))
  · exact (by decide : ∀ z ∈ (["A"] : List Str), z ∈ (["A", "B"] : List Str))
  · exact (by decide : ∀ z ∈ (["A"] : List Str), z ∈ (["A", "B"] : List Str))
  · exact fun z hz => nomatch hz
theorem ok_more {t1 t2 : T} (h1 : okT t1) (h2 : okT t2) (n1 : ∀ z ∈ t1.names, z ∈ edgeL) (n2 : ∀ z ∈ t2.names, z ∈ edgeL) : okF [.set "A" t1, .give "B" t2] := by
  obtain ⟨w1, w2, w3, _⟩ := words_ok
  refine ⟨(show 2 ≤ 40 by decide), fun r hr => ?_, edgeL, (show 7 ≤ 12 by decide), fun r hr => ?_⟩
  · rcases List.mem_cons.mp hr with z | z
    · rw [z]
      exact ⟨w2, h1⟩
    · rw [List.mem_singleton.mp z]
      exact ⟨w3, h2⟩
  · rcases List.mem_cons.mp hr with z | z
    · rw [z]
      intro y hy
      rcases List.mem_cons.mp hy with k | k
      · rw [k]
        exact List.mem_cons_self
      · exact n1 y k
    · rw [List.mem_singleton.mp z]
      intro y hy
      rcases List.mem_cons.mp hy with k | k
      · rw [k]
        exact List.mem_cons_of_mem _ List.mem_cons_self
      · exact n2 y k
theorem ok_third {t : T} (h : okT t) (n : ∀ z ∈ t.names, z ∈ edgeL) : okF [.chk t, .drop "X_Y", .chk .nil] := by
  obtain ⟨_, _, _, w4, _⟩ := words_ok
  refine ⟨(show 3 ≤ 40 by decide), three_of h w4 okT_nil, "X_Y" :: edgeL, (show 8 ≤ 12 by decide), three_of ?_ ?_ ?_⟩
  · exact fun z hz => List.mem_cons_of_mem _ (n z hz)
  · intro z hz
    rw [List.mem_singleton.mp hz]
    exact List.mem_cons_self
  · exact fun z hz => nomatch hz
theorem s_file : fileS rsFile = ("B=$" : Str) ++ ("{A:-x}/\nA?=\ndrop A\ncheck a=b" : Str) := ext_tl (by decide +kernel)
theorem s_two : ("A=x=y" : Str) = fileS rsTwo := ext_tl (by decide +kernel)
theorem ok_law {f fb fd0 fn ff fe ft ftr ffr fft fto frf frt : Addr} {fd db dd dn df de dt dtr dfr dft dto drf drt : FuncData} (F : Fun K "law" "law" sLaw f fd) (T : Txt K mg)
    (Db : Df K mg "_law_begin" sBegin ["script"] fb db) (Gb : FnOk P w K mg base CX0 1 fb db ["script"] (spBegin K))
    (Dd : Df K mg "_law_draw" sDraw ["state", "many"] fd0 dd) (Gd : FnOk P w K mg base CX0 2 fd0 dd ["state", "many"] spDraw)
    (Dn : Df K mg "_law_names" sNames ["state", "many"] fn dn) (Gn : FnOk P w K mg base CX0 3 fn dn ["state", "many"] spNames)
    (Dl : Df K mg "_law_file" sFile ["state", "names", "most"] ff df) (Gl : FnOk P w K mg base CX0 8 ff df ["state", "names", "most"] spFile)
    (De : Df K mg "_law_edge" sEdge ["state"] fe de) (Ge : FnOk P w K mg base CX0 4 fe de ["state"] spEdge)
    (Dt : Df K mg "_law_text" sText ["state", "names", "deep"] ft dt) (Gt : FnOk P w K mg base CX0 7 ft dt ["state", "names", "deep"] (spText 4))
    (Dtr : Df K mg "_law_text_right" sTright ["text"] ftr dtr) (Gtr : FnG P w K mg base 12 ftr dtr ["text"] spTright)
    (Dfr : Df K mg "_law_file_right" sFright ["rows"] ffr dfr) (Gfr : FnG P w K mg base 14 ffr dfr ["rows"] spFright)
    (Dft : Df K mg "file_text" sFileText ["file"] fft dft) (Gft : FnOk P w K mg base CX0 13 fft dft ["file"] spFileText)
    (Dto : Df K mg "text_of" sTextOf ["text"] fto dto) (Gto : FnOk P w K mg base CX0 11 fto dto ["text"] spTextOut)
    (Drf : Df K mg "read_file" sReadFile ["string"] frf drf) (Grf : FnOk P w K mg base CX0 13 frf drf ["string"] spReadFile)
    (Drt : Df K mg "read_text" sReadText ["string"] frt drt) (Grt : FnOk P w K mg base CX0 11 frt drt ["string"] spReadText) : FnG P w K mg base 15 f fd ["script"] (spLaw K) := by
  refine okG F scLaw (fun vs H Q E h => ?_) (fun cdv A outer s H vs Q hr hg h => ?_)
  · obtain ⟨p, ns, rfl, _⟩ := h
    rfl
  have nd := scLaw.nd
  have hu : (A.deeper (PyProof.Rows.envOfC "law" (defScope sLaw) s.heap.objs.size f cdv)).units + 64 < cLine := hr.units
  have R : ∀ k, k ≤ 14 → Room k (A.deeper (PyProof.Rows.envOfC "law" (defScope sLaw) s.heap.objs.size f cdv)) := fun k hk => hr.mono hk
  refine ⟨_, pss_cons (ps_set (i := 1) nd rfl (Or.inl rfl) (cal Db Gb (R 1 (by decide)) (pa_cons (pv 0) pa_nil)))
    (pss_cons (ps_set (i := 2) nd rfl (Or.inl rfl) (pe_tup (pa_cons (pe_tup (pa_cons pe_str (pa_cons pe_str (pa_cons (pe_tup (pa_cons pe_str pa_nil)) pa_nil)))) pa_nil)))
    (pss_cons (ps_for PassesOwn.never rfl (pi_range1 rfl T.b_range (pa_cons (pe_op op_add pe_int (pe_callB (call_min2 rfl) rfl T.b_min boot_minB (pa_cons pe_int (pa_cons (lenQ T.b_len (pv 0)) pa_nil)))) pa_nil)) (pg_name (i := 3) nd rfl (Or.inl rfl))
      (pss_cons (ps_set (i := 4) nd rfl (Or.inl rfl) (cal Dn Gn (R 3 (by decide)) (pa_cons (pv 1) (pa_cons (pe_op op_add pe_int (cal Dd Gd (R 2 (by decide)) (pa_cons (pv 1) (pa_cons pe_int pa_nil)))) pa_nil))))
      (pss_cons (ps_set (i := 5) nd rfl (Or.inl rfl) (cal Dl Gl (R 8 (by decide)) (pa_cons (pv 1) (pa_cons (pv 4) (pa_cons (pe_ix ix_list (pe_lst (pa_cons pe_int (pa_cons pe_int pa_nil))) (cal Dd Gd (R 2 (by decide)) (pa_cons (pv 1) (pa_cons pe_int pa_nil))) (fun _ _ => rfl)) pa_nil)))))
      (pss_cons (ps_asg (cal De Ge (R 4 (by decide)) (pa_cons (pv 1) pa_nil)) (pg_tup rfl (pgs_cons (pg_name (i := 6) nd rfl (Or.inl rfl)) (pgs_cons (pg_name (i := 7) nd rfl (Or.inl rfl)) pgs_nil))))
      (pss_cons (ps_for PassesOwn.never rfl (pi_tup (pe_tup (pa_cons (pv 6) (pa_cons (pv 7) (pa_cons (cal Dt Gt (R 7 (by decide)) (pa_cons (pv 1) (pa_cons (pv 4) (pa_cons pe_int pa_nil)))) (pa_cons (pe_tup pa_nil) pa_nil)))))) (pg_name (i := 8) nd rfl (Or.inl rfl))
        (pss_one (ps_if (pt_not (pt_val (calG Dtr Gtr (R 12 (by decide)) hg (pa_cons (pv 8) pa_nil)))) (pss_one (ps_ret pe_bl)) pss_nil)))
      (pss_cons (ps_set (i := 9) nd rfl (Or.inl rfl) (pe_tup (pa_cons (pe_tup (pa_cons pe_str (pa_cons pe_str (pa_cons (pv 6) pa_nil)))) (pa_cons (pe_tup (pa_cons pe_str (pa_cons pe_str (pa_cons (pv 7) pa_nil)))) pa_nil))))
      (pss_cons (ps_for PassesOwn.never rfl (pi_tup (pe_tup (pa_cons (pv 5) (pa_cons (pv 9) (pa_cons (pe_tup (pa_cons (pe_tup (pa_cons pe_str (pa_cons (pv 7) pa_nil))) (pa_cons (pe_tup (pa_cons pe_str (pa_cons pe_str pa_nil))) (pa_cons (pe_tup (pa_cons pe_str (pa_cons (pe_tup pa_nil) pa_nil))) pa_nil)))) pa_nil))))) (pg_name (i := 10) nd rfl (Or.inl rfl))
        (pss_one (ps_if (pt_not (pt_val (calG Dfr Gfr (R 14 (by decide)) hg (pa_cons (pv 10) pa_nil)))) (pss_one (ps_ret pe_bl)) pss_nil)))
      (pss_cons (ps_if (PW.pt (pw_and (pt_cmpR (op_neD hu) (pv 2) (pv 5) (nomark _)) (pw_and1 (pt_cmpR op_eq (cal Dft Gft (R 13 (by decide)) (pa_cons (pv 2) pa_nil)) (cal Dft Gft (R 13 (by decide)) (pa_cons (pv 5) pa_nil)) rfl)))) (pss_one (ps_ret pe_bl)) pss_nil)
      (pss_one (ps_set (i := 2) nd rfl (Or.inl rfl) (pv 5)))))))))))
    (pss_cons (ps_set (i := 10) nd rfl (Or.inl rfl) (pe_tup (pa_cons (pe_tup (pa_cons pe_str (pa_cons pe_str (pa_cons (pe_tup (pa_cons (pe_tup (pa_cons pe_str (pa_cons pe_str (pa_cons (pe_tup (pa_cons pe_str pa_nil)) pa_nil)))) (pa_cons pe_str pa_nil))) pa_nil))))
        (pa_cons (pe_tup (pa_cons pe_str (pa_cons pe_str (pa_cons (pe_tup pa_nil) pa_nil)))) (pa_cons (pe_tup (pa_cons pe_str (pa_cons pe_str pa_nil))) (pa_cons (pe_tup (pa_cons pe_str (pa_cons (pe_tup (pa_cons pe_str pa_nil)) pa_nil))) pa_nil))))))
    (pss_cons (ps_if (PW.pt (pw_or (pt_cmpR op_ne (cal Dft Gft (R 13 (by decide)) (pa_cons (pv 10) pa_nil)) (pe_op op_add_str pe_str pe_str) rfl)
        (pw_or (pt_cmpR op_ne (cal Dft Gft (R 13 (by decide)) (pa_cons (pe_tup pa_nil) pa_nil)) pe_str (nomark _)) (pw_or1 (pt_cmpR op_ne (cal Dto Gto (R 11 (by decide)) (pa_cons (pe_tup pa_nil) pa_nil)) pe_str (nomark _)))))) (pss_one (ps_ret pe_bl)) pss_nil)
    (pss_one (ps_ret (pe_and (pe_cmpR (op_eqD hu) (cal Drf Grf (R 13 (by decide)) (pa_cons pe_str pa_nil)) (pe_tup pa_nil) rfl)
      (pe_and (pe_cmpR (op_eqD hu) (cal Drt Grt (R 11 (by decide)) (pa_cons pe_str pa_nil)) (pe_tup pa_nil) rfl)
      (pe_one (pe_cmpR (op_eqD hu) (cal Drf Grf (R 13 (by decide)) (pa_cons pe_str pa_nil)) (pe_tup (pa_cons (pe_tup (pa_cons pe_str (pa_cons pe_str (pa_cons (pe_tup (pa_cons pe_str pa_nil)) pa_nil)))) pa_nil)) rfl)))))))))), ?_⟩
  obtain ⟨p, ns, rfl, hp, few, q⟩ := h
  have one : 1 ≤ sizeLine := by decide
  have two : 2 ≤ sizeLine := by decide
  have three : 3 ≤ sizeLine := by decide
  have fours : 4 ≤ sizeLine := by decide
  refine ⟨_, rfl, p, ns, rfl, hp, few, fun d c l n H1 e1 S1 => ?_⟩
  refine ⟨one, fun b1 hb1 => ⟨three, fun b2 hb2 => ⟨one, fun b3 hb3 => ?_⟩⟩⟩
  have e2 := sNew hb1 (.tup [.str "x"])
  have e3 := sNew hb2 (.tup [.str "set", .str "LAST", .ref b1])
  have e4 := sNew hb3 (.tup [.ref b2])
  have e14 := e2.trans (e3.trans e4)
  have fl : FAt _ b3 rsLast := ⟨[.ref b2], upd_same (H := upd (upd H1 b1 (.tup [.str "x"])) b2 (.tup [.str "set", .str "LAST", .ref b1])), .cons ⟨b2, b1, rfl, e4 _ _ upd_same, [.str "x"], e4 _ _ (e3 _ _ upd_same), [], rfl, rfl⟩ .nil⟩
  refine ⟨_, rfl, _, .inl (sqKeep (e1.trans e14) hp), _, _, rfl, _, _, rfl, rfl, ?_⟩
  obtain ⟨N, hN, hN7⟩ : ∃ N : Nat, (3 + (if (((ns.map V.int).length : Nat) : Int) < 4 then (((ns.map V.int).length : Nat) : Int) else 4) : Int) = (N : Int) ∧ N ≤ 7 := by
    split
    · exact ⟨3 + (ns.map V.int).length, by omega, by omega⟩
    · exact ⟨7, by omega, by omega⟩
  refine ⟨(N : Int), congrArg (fun z => [V.int z]) hN, by omega, by omega, for_it walk_range (LawI p d c l n) ⟨b3, rsLast, 0, _, _, _, _, _, _, _, _, rfl, S1.keep e14, Int.le_refl _, by omega, fl, ok_last⟩ (fun _ _ _ _ _ => trivial) ?_ ?_⟩
  · rintro i x σ H4 H4' hi ⟨la, lr, a4, x3, x4, x5, x6, x7, x8, x9, x10, rfl, S4, a4a, a4b, fl4, okl⟩ ⟨rfl, rfl⟩
    have hi' : i < N := hi
    have cT3 : cT 3 = 278 := rfl
    -- names
    refine ⟨_, rfl, _, rfl, d, c, l, n, a4, 6, rfl, S4, a4a, by omega, by decide, by decide, fun r1 H5 k5 S5 r1a r1b => ?_⟩
    obtain ⟨m, hm⟩ : ∃ m : Nat, 1 + r1 = (m : Int) := ⟨(1 + r1).toNat, (Int.toNat_of_nonneg (by omega)).symm⟩
    refine ⟨_, _, rfl, rfl, d, c, l, n, a4 + 1, m, congrArg (fun z => [V.ref d, V.int z]) hm, S5, by omega, by omega, by omega, by omega, fun zs nq H6 a6 k6 S6 a6a a6b nq0 hn6 zl okz => ?_⟩
    have fl6 := (fl4.keep (k5.tups S4)).keep (k6.tups S5)
    have nn := S5.new nq0
    -- rows
    refine ⟨_, rfl, _, rfl, two, fun b hb => ?_⟩
    have e7 : Same H6 (upd H6 b (.lst [.int 40, .int 6])) := sNew hb _
    have S7 := S6.keep e7
    have nb := S6.new hb
    refine ⟨_, rfl, d, c, l, n, a6, 2, rfl, S7, by omega, by omega, by decide, by decide, fun r2 H8 k8 S8 r2a r2b => ?_⟩
    obtain ⟨y, hy, ey⟩ := at_int (ys := ([40, 6] : List Int).map V.int) r2a r2b
    obtain ⟨most, hmost, rfl⟩ := List.mem_map.mp hy
    have mb : 1 ≤ most ∧ most ≤ 40 := (by decide : ∀ m ∈ ([40, 6] : List Int), 1 ≤ m ∧ m ≤ 40) most hmost
    have hn8 := k8 _ _ nn.1 nn.2.2 (e7 _ _ hn6)
    have fl8 := (fl6.keep (sTups e7)).keep (k8.tups S7)
    refine ⟨b, _, r2, _, rfl, rfl, SqL.of (k8 _ _ nb.1 nb.2.2 upd_same), ey, d, c, l, n, a6 + 1, nq, zs, most, rfl, S8, by omega, by omega, hn8, nn.1, nn.2.2, by omega, by omega, okz, mb.1, mb.2, fun rs rq H9 a9 k9 S9 a9a a9b hf9 okf => ?_⟩
    have hn9 := k9 _ _ nn.1 nn.2.2 hn8
    have fl9 := fl8.keep (k9.tups S8)
    -- texts at their bounds
    refine ⟨_, rfl, d, c, l, n, a9, rfl, S9, by omega, by omega, fun t1 t2 eq b1' b2' H10 a10 k10 S10 a10a a10b heq h1 h2 ok1 ok2 n1 n2 => ⟨eq, _, rfl, SqT.of heq, rfl, _, _, rfl, _, _, rfl, rfl, ?_⟩⟩
    have hn10 := k10 _ _ nn.1 nn.2.2 hn9
    have fl10 := fl9.keep (k10.tups S9)
    have hf10 := hf9.keep (k10.tups S9)
    -- the texts
    refine ⟨_, rfl, _, rfl, _, rfl, _, rfl, d, c, l, n, a10, nq, zs, 3, rfl, by decide, S10, by omega, by omega, hn10, nn.1, nn.2.2, by omega, by omega, okz, fun t3 tq H11 a11 k11 S11 a11a a11b ht3 g3 l3 w3 m3 => ?_⟩
    have fl11 := fl10.keep (k11.tups S10)
    have hf11 := hf10.keep (k11.tups S10)
    have h1' := h1.keep (k11.tups S10)
    have h2' := h2.keep (k11.tups S10)
    refine ⟨Nat.zero_le _, fun eb heb => ⟨fours, fun tp htp => ?_⟩⟩
    have e12 : Same H11 (upd H11 eb (.tup [])) := sNew heb _
    have e13 : Same H11 (upd (upd H11 eb (.tup [])) tp (.tup [.ref b1', .ref b2', .ref tq, .ref eb])) := e12.trans (sNew htp _)
    have tu13 := sTups e13
    have hall : ∀ x ∈ [V.ref b1', V.ref b2', V.ref tq, V.ref eb], ∃ (bx : Addr) (t : Er.T), x = .ref bx ∧ TAt (upd (upd H11 eb (.tup [])) tp (.tup [.ref b1', .ref b2', .ref tq, .ref eb])) bx t ∧ okT t :=
      four ⟨b1', t1, rfl, h1'.keep tu13, ok1⟩ ⟨b2', t2, rfl, h2'.keep tu13, ok2⟩ ⟨tq, t3, rfl, ht3.keep tu13, drawn_okT (by decide) g3 l3 w3⟩ ⟨eb, .nil, rfl, ⟨[], sNew htp _ _ _ upd_same, rfl⟩, okT_nil⟩
    refine ⟨tp, rfl, ⟨_, SqT.of upd_same⟩, for_tup (xs := [V.ref b1', V.ref b2', V.ref tq, V.ref eb]) (fun j σ H' => Same (upd (upd H11 eb (.tup [])) tp (.tup [.ref b1', .ref b2', .ref tq, .ref eb])) H' ∧ ∃ x, σ = [some (.ref p), some (.ref d), some (.ref la), some (.int (0 + (i : Nat))), some (.ref nq), some (.ref rq), some (.ref b1'), some (.ref b2'), x, x9, x10])
      ⟨Same.refl _, _, rfl⟩ (fun j σ H' _ z => SqT.of (z.1 _ _ upd_same)) ?_ ?_⟩
    · rintro j x σ H14 hx ⟨e14', y, rfl⟩
      obtain ⟨bx, t, rfl, ht, okt⟩ := hall x (List.mem_of_getElem? hx)
      exact ⟨_, rfl, bx, t, rfl, ht.keep (sTups e14'), okt, fun H15 e15 => ⟨_, rfl, iteF ⟨e14'.trans e15, _, rfl⟩⟩⟩
    rintro σ H14 ⟨e14', y8, rfl⟩
    have e1114 : Same H11 H14 := e13.trans e14'
    have fl14 := fl11.keep (sTups e1114)
    have hf14 := hf11.keep (sTups e1114)
    have h114 := h1'.keep (sTups e1114)
    have h214 := h2'.keep (sTups e1114)
    have S14 := S11.keep e1114
    -- more
    refine ⟨_, rfl, three, fun m1 hm1 => ⟨_, rfl, three, fun m2 hm2 => ⟨two, fun m3 hm3 => ?_⟩⟩⟩
    have q1 := sNew hm1 (.tup [.str "set", .str "A", .ref b1'])
    have q2 := sNew hm2 (.tup [.str "give", .str "B", .ref b2'])
    have q3 := sNew hm3 (.tup [.ref m1, .ref m2])
    have q13 := q1.trans (q2.trans q3)
    have fm : FAt _ m3 [.set "A" t1, .give "B" t2] := ⟨_, upd_same (a := m3), .cons ⟨m1, b1', rfl, q3 _ _ (q2 _ _ upd_same), h114.keep (sTups q13)⟩ (.cons ⟨m2, b2', rfl, q3 _ _ upd_same, h214.keep (sTups q13)⟩ .nil)⟩
    have okm := ok_more ok1 ok2 n1 n2
    generalize hH15 : upd (upd (upd H14 m1 (.tup [.str "set", .str "A", .ref b1'])) m2 (.tup [.str "give", .str "B", .ref b2'])) m3 (.tup [.ref m1, .ref m2]) = H15 at fm q13
    have fl15 := fl14.keep (sTups q13)
    have hf15 := hf14.keep (sTups q13)
    have h215 := h214.keep (sTups q13)
    have S15 := S14.keep q13
    -- the files
    refine ⟨_, rfl, _, rfl, _, rfl, two, fun c1 hc1 => ⟨two, fun c2 hc2 => ⟨Nat.zero_le _, fun c0 hc0 => ⟨two, fun c3 hc3 => ⟨three, fun c4 hc4 => ⟨three, fun fp hfp => ?_⟩⟩⟩⟩⟩⟩
    have p1 := sNew hc1 (.tup [.str "check", .ref b2'])
    have p2 := sNew hc2 (.tup [.str "drop", .str "X_Y"])
    have p3 := sNew hc0 (.tup [])
    have p4 := sNew hc3 (.tup [.str "check", .ref c0])
    have p5 := sNew hc4 (.tup [.ref c1, .ref c2, .ref c3])
    have p6 := sNew hfp (.tup [.ref rq, .ref m3, .ref c4])
    have p36 := p3.trans (p4.trans (p5.trans p6))
    have p26 := p2.trans p36
    have p16 := p1.trans p26
    have ft : FAt _ c4 [.chk t2, .drop "X_Y", .chk .nil] := ⟨_, p6 _ _ (upd_same (a := c4)), .cons ⟨c1, b2', rfl, p26 _ _ upd_same, h215.keep (sTups p16)⟩ (.cons ⟨c2, rfl, p36 _ _ upd_same⟩ (.cons ⟨c3, c0, rfl, (p5.trans p6) _ _ upd_same, [], (p4.trans (p5.trans p6)) _ _ upd_same, rfl⟩ .nil))⟩
    have okt3 := ok_third ok2 n2
    have hfp16 := upd_same (H := upd (upd (upd (upd (upd H15 c1 (.tup [.str "check", .ref b2'])) c2 (.tup [.str "drop", .str "X_Y"])) c0 (.tup [])) c3 (.tup [.str "check", .ref c0])) c4 (.tup [.ref c1, .ref c2, .ref c3])) (a := fp) (o := .tup [.ref rq, .ref m3, .ref c4])
    generalize upd (upd (upd (upd (upd (upd H15 c1 (.tup [.str "check", .ref b2'])) c2 (.tup [.str "drop", .str "X_Y"])) c0 (.tup [])) c3 (.tup [.str "check", .ref c0])) c4 (.tup [.ref c1, .ref c2, .ref c3])) fp (.tup [.ref rq, .ref m3, .ref c4]) = H16 at ft p16 hfp16 ⊢
    have fl16 := fl15.keep (sTups p16)
    have hf16 := hf15.keep (sTups p16)
    have fm16 := fm.keep (sTups p16)
    have S16 := S15.keep p16
    have hall2 : ∀ x ∈ [V.ref rq, V.ref m3, V.ref c4], ∃ (bx : Addr) (r : List Rw), x = .ref bx ∧ FAt H16 bx r ∧ okF r := three_of ⟨rq, rs, rfl, hf16, okf⟩ ⟨m3, _, rfl, fm16, okm⟩ ⟨c4, _, rfl, ft, okt3⟩
    refine ⟨fp, rfl, ⟨_, SqT.of hfp16⟩, for_tup (xs := [V.ref rq, V.ref m3, V.ref c4]) (fun j σ H' => Same H16 H' ∧ ∃ x, σ = [some (.ref p), some (.ref d), some (.ref la), some (.int (0 + (i : Nat))), some (.ref nq), some (.ref rq), some (.ref b1'), some (.ref b2'), y8, some (.ref m3), x])
      ⟨Same.refl _, _, rfl⟩ (fun j σ H' _ z => SqT.of (z.1 _ _ hfp16)) ?_ ?_⟩
    · rintro j x σ H17 hx ⟨e17, y, rfl⟩
      obtain ⟨bx, r, rfl, hr', okr⟩ := hall2 x (List.mem_of_getElem? hx)
      exact ⟨_, rfl, bx, r, rfl, hr'.keep (sTups e17), okr, fun H18 e18 => ⟨_, rfl, iteF ⟨e17.trans e18, _, rfl⟩⟩⟩
    rintro σ H17 ⟨e17, y10, rfl⟩
    have fl17 := fl16.keep (sTups e17)
    have hf17 := hf16.keep (sTups e17)
    have S17 := S16.keep e17
    have fin : ∀ H', Same H17 H' → LawI p d c l n (i + 1) [some (.ref p), some (.ref d), some (.ref rq), some (.int (0 + (i : Nat))), some (.ref nq), some (.ref rq), some (.ref b1'), some (.ref b2'), y8, some (.ref m3), y10] H' := fun H' e' =>
      ⟨rq, rs, a11, _, _, _, _, _, _, _, _, rfl, S17.keep e', by omega, by omega, hf17.keep (sTups e'), okf⟩
    refine ⟨_, rfl, _, rfl, _, _, fl17.dp, hf17.dp, shaped_file okl, shaped_file okf, _, rfl, ?_⟩
    by_cases same : lr = rs
    · subst same
      rw [SeqAt.eqv_refl _ (lay_file okl)]
      exact iteF (iteF ⟨_, rfl, fin H17 (Same.refl _)⟩)
    · cases (PyData.eqv (.tuple (lr.map Rw.dat)) (.tuple (rs.map Rw.dat))) with
      | true => exact iteF (iteF ⟨_, rfl, fin H17 (Same.refl _)⟩)
      | false =>
        refine iteT ⟨_, rfl, la, lr, rfl, fl17, okl, fun H18 e18 => ⟨_, rfl, rq, rs, rfl, hf17.keep (sTups e18), okf, fun H19 e19 => ⟨rfl, _, rfl, ?_⟩⟩⟩
        rw [decide_eq_false (fun z => same (file_inj okl okf (V.str.inj z)))]
        exact iteF ⟨_, rfl, fin H19 (e18.trans e19)⟩
  · rintro σ H4 ⟨la, lr, a4, x3, x4, x5, x6, x7, x8, x9, x10, rfl, S4, a4a, a4b, fl4, okl⟩
    -- the written file
    refine ⟨one, fun f1 hf1 => ⟨three, fun f2 hf2 => ⟨two, fun f3 hf3 => ⟨three, fun f4 hf4 => ⟨Nat.zero_le _, fun f5 hf5 => ⟨three, fun f6 hf6 => ⟨two, fun f7 hf7 => ⟨one, fun f8 hf8 => ⟨two, fun f9 hf9 => ⟨fours, fun f10 hf10 => ?_⟩⟩⟩⟩⟩⟩⟩⟩⟩⟩
    have p2 := sNew hf2 (.tup [.str "A", .str ":-", .ref f1])
    have p3 := sNew hf3 (.tup [.ref f2, .str "/"])
    have p4 := sNew hf4 (.tup [.str "set", .str "B", .ref f3])
    have p5 := sNew hf5 (.tup [])
    have p6 := sNew hf6 (.tup [.str "give", .str "A", .ref f5])
    have p7 := sNew hf7 (.tup [.str "drop", .str "A"])
    have p8 := sNew hf8 (.tup [.str "a=b"])
    have p9 := sNew hf9 (.tup [.str "check", .ref f8])
    have p10 := sNew hf10 (.tup [.ref f4, .ref f6, .ref f7, .ref f9])
    have r9 := p9.trans p10
    have r8 := p8.trans r9
    have r7 := p7.trans r8
    have r6 := p6.trans r7
    have r5 := p5.trans r6
    have r4 := p4.trans r5
    have r3 := p3.trans r4
    have r2 := p2.trans r3
    have ff : FAt _ f10 rsFile := ⟨_, upd_same (a := f10), .cons ⟨f4, f3, rfl, r5 _ _ upd_same, _, r4 _ _ upd_same, f2, f1, [.str "x"], [.str "/"], rfl, r3 _ _ upd_same, r2 _ _ upd_same, ⟨[], rfl, rfl⟩, [], rfl, rfl⟩
      (.cons ⟨f6, f5, rfl, r7 _ _ upd_same, [], r6 _ _ upd_same, rfl⟩ (.cons ⟨f7, rfl, r8 _ _ upd_same⟩ (.cons ⟨f9, f8, rfl, p10 _ _ upd_same, [.str "a=b"], r9 _ _ upd_same, [], rfl, rfl⟩ .nil)))⟩
    refine ⟨_, rfl, f10, rsFile, rfl, ff, ok_fileR, fun H5 e5 => ⟨_, _, rfl, rfl, (by decide +kernel), rfl, _, rfl, ?_⟩⟩
    rw [← s_file, decide_eq_true (rfl : V.str (fileS rsFile) = V.str (fileS rsFile))]
    refine iteF ⟨Nat.zero_le _, fun g1 hg1 => ⟨g1, [], rfl, ⟨[], upd_same, .nil⟩, ok_nilF, fun H6 e6 => ⟨rfl, _, rfl, ?_⟩⟩⟩
    rw [file_nil, decide_eq_true (rfl : V.str "" = V.str "")]
    refine iteF ⟨Nat.zero_le _, fun g2 hg2 => ⟨g2, .nil, rfl, ⟨[], upd_same, rfl⟩, okT_nil, fun H7 e7 => ⟨rfl, _, rfl, ?_⟩⟩⟩
    have evoid : ofC (Er.T.nil).wr = ("" : Str) := ext_tl (by decide +kernel)
    rw [evoid, decide_eq_true (rfl : V.str "" = V.str "")]
    refine iteF ?_
    -- read back
    have eqf : ∀ {rs : List Rw}, okF rs → PyData.eqv (.tuple (rs.map Rw.dat)) (.tuple (rs.map Rw.dat)) = true := fun h => SeqAt.eqv_refl _ (lay_file h)
    have eqt : PyData.eqv (.tuple (Er.T.nil).dat) (.tuple []) = true := SeqAt.eqv_refl _ (lay_text okT_nil)
    refine ⟨[], congrArg (fun z => [V.str z]) file_nil.symm, ok_nilF, fun q1 H8 e8 h8 => ⟨Nat.zero_le _, fun g3 hg3 => ?_⟩⟩
    refine ⟨_, _, (h8.keep (Tups.new hg3 (.tup []))).dp, (.tup (SqT.of upd_same) .nil), shaped_file ok_nilF, (shaped_file ok_nilF), _, rfl, ?_⟩
    rw [show PyData.eqv (.tuple (([] : List Rw).map Rw.dat)) (.tuple []) = true from eqf ok_nilF]
    refine iteT ⟨("" : Str), .nil, rfl, (by decide +kernel), okT_nil, (by decide +kernel), fun q2 H9 e9 h9 => ⟨Nat.zero_le _, fun g4 hg4 => ?_⟩⟩
    refine ⟨_, _, (h9.keep (Tups.new hg4 (.tup []))).dp, (.tup (SqT.of upd_same) .nil), shaped_text okT_nil, (shaped_file ok_nilF), _, rfl, ?_⟩
    rw [eqt]
    refine iteT ⟨rsTwo, congrArg (fun z => [V.str z]) s_two, ok_two, fun q3 H10 e10 h10 => ⟨one, fun g5 hg5 => ⟨three, fun g6 hg6 => ⟨one, fun g7 hg7 => ?_⟩⟩⟩⟩
    have z5 := sNew hg5 (.tup [.str "x=y"])
    have z6 := sNew hg6 (.tup [.str "set", .str "A", .ref g5])
    have z7 := sNew hg7 (.tup [.ref g6])
    have f2 : FAt _ g7 rsTwo := ⟨_, upd_same (a := g7), .cons ⟨g6, g5, rfl, z7 _ _ upd_same, [.str "x=y"], (z6.trans z7) _ _ upd_same, [], rfl, rfl⟩ .nil⟩
    refine ⟨_, _, (h10.keep (sTups (z5.trans (z6.trans z7)))).dp, f2.dp, shaped_file ok_two, shaped_file ok_two, ?_⟩
    rw [eqf ok_two]
    exact q _
end
end Er
namespace Er
open PySem L2 TL

theorem all_mk {l : PySem.W.OpenLaw} {w : World} {K : PySem.W.Frag} {h : Heap} {mg : Str → Option Value} {fa fs f1 f2 f3 f4 f5 f6 f7 f8 f9 f10 f11 f12 f13 f14 f15 f16 f17 f18 f19 f20 f21 f22 f23 f24 f25 f26 f27 f28 f29 f30 f31 f32 f33 f34 f35 f36 f37 f38 f39 : Addr} (X : K.In h) (G : h.Ns mainGlobals mg) (hfa : mg "law" = some (.ref fa))
    {ds od1 an1 od2 an2 od3 an3 od4 an4 od5 an5 od6 an6 od7 an7 od8 an8 od9 an9 od10 an10 od11 an11 od12 an12 od13 an13 od14 an14 od15 an15 od16 an16 od17 an17 od18 an18 od19 an19 od20 an20 od21 an21 od22 an22 od23 an23 od24 an24 od25 an25 od26 an26 od27 an27 od28 an28 od29 an29 od30 an30 od31 an31 od32 an32 od33 an33 od34 an34 od35 an35 od36 an36 od37 an37 od38 an38 od39 an39 : Option Addr} {ss sl1 sl2 sl3 sl4 sl5 sl6 sl7 sl8 sl9 sl10 sl11 sl12 sl13 sl14 sl15 sl16 sl17 sl18 sl19 sl20 sl21 sl22 sl23 sl24 sl25 sl26 sl27 sl28 sl29 sl30 sl31 sl32 sl33 sl34 sl35 sl36 sl37 sl38 sl39 : Array (Option Value)} {ns : Nat}
    {oc1 kV1 dc1 pm1 cd1 ct1 oc2 kV2 dc2 pm2 cd2 ct2 oc3 kV3 dc3 pm3 cd3 ct3 oc4 kV4 dc4 pm4 cd4 ct4 oc5 kV5 dc5 pm5 cd5 ct5 oc6 kV6 dc6 pm6 cd6 ct6 oc7 kV7 dc7 pm7 cd7 ct7 oc8 kV8 dc8 pm8 cd8 ct8 oc9 kV9 dc9 pm9 cd9 ct9 oc10 kV10 dc10 pm10 cd10 ct10 oc11 kV11 dc11 pm11 cd11 ct11 oc12 kV12 dc12 pm12 cd12 ct12 oc13 kV13 dc13 pm13 cd13 ct13 oc14 kV14 dc14 pm14 cd14 ct14 oc15 kV15 dc15 pm15 cd15 ct15 oc16 kV16 dc16 pm16 cd16 ct16 oc17 kV17 dc17 pm17 cd17 ct17 oc18 kV18 dc18 pm18 cd18 ct18 oc19 kV19 dc19 pm19 cd19 ct19 oc20 kV20 dc20 pm20 cd20 ct20 oc21 kV21 dc21 pm21 cd21 ct21 oc22 kV22 dc22 pm22 cd22 ct22 oc23 kV23 dc23 pm23 cd23 ct23 oc24 kV24 dc24 pm24 cd24 ct24 oc25 kV25 dc25 pm25 cd25 ct25 oc26 kV26 dc26 pm26 cd26 ct26 oc27 kV27 dc27 pm27 cd27 ct27 oc28 kV28 dc28 pm28 cd28 ct28 oc29 kV29 dc29 pm29 cd29 ct29 oc30 kV30 dc30 pm30 cd30 ct30 oc31 kV31 dc31 pm31 cd31 ct31 oc32 kV32 dc32 pm32 cd32 ct32 oc33 kV33 dc33 pm33 cd33 ct33 oc34 kV34 dc34 pm34 cd34 ct34 oc35 kV35 dc35 pm35 cd35 ct35 oc36 kV36 dc36 pm36 cd36 ct36 oc37 kV37 dc37 pm37 cd37 ct37 oc38 kV38 dc38 pm38 cd38 ct38 oc39 kV39 dc39 pm39 cd39 ct39 : Value} {u1 u2 u3 u4 u5 u6 u7 u8 u9 t1 t2 t3 t4 t5 t6 t7 t8 t10 t11 t12 t13 t14 t15 t16 t17 t18 t19 t20 t21 t22 t23 t24 : Tok}
    (a1 : PySem.W.nsIn K mainGlobals "is_name" = some (some (.ref f1))) (l1 : K.lookup f1 = some ⟨oc1, od1, .func (PySem.W.fnOf "is_name" "is_name" (defArgs sIsName) (defBody sIsName) (defScope sIsName) .none kV1 dc1 pm1 an1 cd1 ct1), sl1⟩) (c1 : PySem.W.codeIn K cd1 "is_name" = true) (k1 : PySem.W.keepIn K (.ref f1) = true)
    (a2 : PySem.W.nsIn K mainGlobals "is_plain" = some (some (.ref f2))) (l2 : K.lookup f2 = some ⟨oc2, od2, .func (PySem.W.fnOf "is_plain" "is_plain" (defArgs sIsPlain) (defBody sIsPlain) (defScope sIsPlain) .none kV2 dc2 pm2 an2 cd2 ct2), sl2⟩) (c2 : PySem.W.codeIn K cd2 "is_plain" = true) (k2 : PySem.W.keepIn K (.ref f2) = true)
    (a3 : PySem.W.nsIn K mainGlobals "is_part" = some (some (.ref f3))) (l3 : K.lookup f3 = some ⟨oc3, od3, .func (PySem.W.fnOf "is_part" "is_part" (defArgs sIsPart) (defBody sIsPart) (defScope sIsPart) .none kV3 dc3 pm3 an3 cd3 ct3), sl3⟩) (c3 : PySem.W.codeIn K cd3 "is_part" = true) (k3 : PySem.W.keepIn K (.ref f3) = true)
    (a4 : PySem.W.nsIn K mainGlobals "is_text_of" = some (some (.ref f4))) (l4 : K.lookup f4 = some ⟨oc4, od4, .func (PySem.W.fnOf "is_text_of" "is_text_of" (defArgs sIsTextOf) (defBody sIsTextOf) (defScope sIsTextOf) .none kV4 dc4 pm4 an4 cd4 ct4), sl4⟩) (c4 : PySem.W.codeIn K cd4 "is_text_of" = true) (k4 : PySem.W.keepIn K (.ref f4) = true)
    (a5 : PySem.W.nsIn K mainGlobals "is_text" = some (some (.ref f5))) (l5 : K.lookup f5 = some ⟨oc5, od5, .func (PySem.W.fnOf "is_text" "is_text" (defArgs sIsText) (defBody sIsText) (defScope sIsText) .none kV5 dc5 pm5 an5 cd5 ct5), sl5⟩) (c5 : PySem.W.codeIn K cd5 "is_text" = true) (k5 : PySem.W.keepIn K (.ref f5) = true)
    (a6 : PySem.W.nsIn K mainGlobals "is_row" = some (some (.ref f6))) (l6 : K.lookup f6 = some ⟨oc6, od6, .func (PySem.W.fnOf "is_row" "is_row" (defArgs sIsRow) (defBody sIsRow) (defScope sIsRow) .none kV6 dc6 pm6 an6 cd6 ct6), sl6⟩) (c6 : PySem.W.codeIn K cd6 "is_row" = true) (k6 : PySem.W.keepIn K (.ref f6) = true)
    (a7 : PySem.W.nsIn K mainGlobals "text_of_row" = some (some (.ref f7))) (l7 : K.lookup f7 = some ⟨oc7, od7, .func (PySem.W.fnOf "text_of_row" "text_of_row" (defArgs sTextOfRow) (defBody sTextOfRow) (defScope sTextOfRow) .none kV7 dc7 pm7 an7 cd7 ct7), sl7⟩) (c7 : PySem.W.codeIn K cd7 "text_of_row" = true) (k7 : PySem.W.keepIn K (.ref f7) = true)
    (a8 : PySem.W.nsIn K mainGlobals "names_in_text" = some (some (.ref f8))) (l8 : K.lookup f8 = some ⟨oc8, od8, .func (PySem.W.fnOf "names_in_text" "names_in_text" (defArgs sNamesInText) (defBody sNamesInText) (defScope sNamesInText) .none kV8 dc8 pm8 an8 cd8 ct8), sl8⟩) (c8 : PySem.W.codeIn K cd8 "names_in_text" = true) (k8 : PySem.W.keepIn K (.ref f8) = true)
    (a9 : PySem.W.nsIn K mainGlobals "names_in" = some (some (.ref f9))) (l9 : K.lookup f9 = some ⟨oc9, od9, .func (PySem.W.fnOf "names_in" "names_in" (defArgs sNamesIn) (defBody sNamesIn) (defScope sNamesIn) .none kV9 dc9 pm9 an9 cd9 ct9), sl9⟩) (c9 : PySem.W.codeIn K cd9 "names_in" = true) (k9 : PySem.W.keepIn K (.ref f9) = true)
    (a10 : PySem.W.nsIn K mainGlobals "need_file" = some (some (.ref f10))) (l10 : K.lookup f10 = some ⟨oc10, od10, .func (PySem.W.fnOf "need_file" "need_file" (defArgs sNeedFile) (defBody sNeedFile) (defScope sNeedFile) .none kV10 dc10 pm10 an10 cd10 ct10), sl10⟩) (c10 : PySem.W.codeIn K cd10 "need_file" = true) (k10 : PySem.W.keepIn K (.ref f10) = true)
    (a11 : PySem.W.nsIn K mainGlobals "written" = some (some (.ref f11))) (l11 : K.lookup f11 = some ⟨oc11, od11, .func (PySem.W.fnOf "written" "written" (defArgs sWritten) (defBody sWritten) (defScope sWritten) .none kV11 dc11 pm11 an11 cd11 ct11), sl11⟩) (c11 : PySem.W.codeIn K cd11 "written" = true) (k11 : PySem.W.keepIn K (.ref f11) = true)
    (a12 : PySem.W.nsIn K mainGlobals "text_of" = some (some (.ref f12))) (l12 : K.lookup f12 = some ⟨oc12, od12, .func (PySem.W.fnOf "text_of" "text_of" (defArgs sTextOf) (defBody sTextOf) (defScope sTextOf) .none kV12 dc12 pm12 an12 cd12 ct12), sl12⟩) (c12 : PySem.W.codeIn K cd12 "text_of" = true) (k12 : PySem.W.keepIn K (.ref f12) = true)
    (a13 : PySem.W.nsIn K mainGlobals "row_text" = some (some (.ref f13))) (l13 : K.lookup f13 = some ⟨oc13, od13, .func (PySem.W.fnOf "row_text" "row_text" (defArgs sRowText) (defBody sRowText) (defScope sRowText) .none kV13 dc13 pm13 an13 cd13 ct13), sl13⟩) (c13 : PySem.W.codeIn K cd13 "row_text" = true) (k13 : PySem.W.keepIn K (.ref f13) = true)
    (a14 : PySem.W.nsIn K mainGlobals "file_text" = some (some (.ref f14))) (l14 : K.lookup f14 = some ⟨oc14, od14, .func (PySem.W.fnOf "file_text" "file_text" (defArgs sFileText) (defBody sFileText) (defScope sFileText) .none kV14 dc14 pm14 an14 cd14 ct14), sl14⟩) (c14 : PySem.W.codeIn K cd14 "file_text" = true) (k14 : PySem.W.keepIn K (.ref f14) = true)
    (a15 : PySem.W.nsIn K mainGlobals "need_sign" = some (some (.ref f15))) (l15 : K.lookup f15 = some ⟨oc15, od15, .func (PySem.W.fnOf "need_sign" "need_sign" (defArgs sNeedSign) (defBody sNeedSign) (defScope sNeedSign) .none kV15 dc15 pm15 an15 cd15 ct15), sl15⟩) (c15 : PySem.W.codeIn K cd15 "need_sign" = true) (k15 : PySem.W.keepIn K (.ref f15) = true)
    (a16 : PySem.W.nsIn K mainGlobals "name_at" = some (some (.ref f16))) (l16 : K.lookup f16 = some ⟨oc16, od16, .func (PySem.W.fnOf "name_at" "name_at" (defArgs sNameAt) (defBody sNameAt) (defScope sNameAt) .none kV16 dc16 pm16 an16 cd16 ct16), sl16⟩) (c16 : PySem.W.codeIn K cd16 "name_at" = true) (k16 : PySem.W.keepIn K (.ref f16) = true)
    (a17 : PySem.W.nsIn K mainGlobals "head_at" = some (some (.ref f17))) (l17 : K.lookup f17 = some ⟨oc17, od17, .func (PySem.W.fnOf "head_at" "head_at" (defArgs sHeadAt) (defBody sHeadAt) (defScope sHeadAt) .none kV17 dc17 pm17 an17 cd17 ct17), sl17⟩) (c17 : PySem.W.codeIn K cd17 "head_at" = true) (k17 : PySem.W.keepIn K (.ref f17) = true)
    (a18 : PySem.W.nsIn K mainGlobals "with_plain" = some (some (.ref f18))) (l18 : K.lookup f18 = some ⟨oc18, od18, .func (PySem.W.fnOf "with_plain" "with_plain" (defArgs sWithPlain) (defBody sWithPlain) (defScope sWithPlain) .none kV18 dc18 pm18 an18 cd18 ct18), sl18⟩) (c18 : PySem.W.codeIn K cd18 "with_plain" = true) (k18 : PySem.W.keepIn K (.ref f18) = true)
    (a19 : PySem.W.nsIn K mainGlobals "text_at" = some (some (.ref f19))) (l19 : K.lookup f19 = some ⟨oc19, od19, .func (PySem.W.fnOf "text_at" "text_at" (defArgs sTextAt) (defBody sTextAt) (defScope sTextAt) .none kV19 dc19 pm19 an19 cd19 ct19), sl19⟩) (c19 : PySem.W.codeIn K cd19 "text_at" = true) (k19 : PySem.W.keepIn K (.ref f19) = true)
    (a20 : PySem.W.nsIn K mainGlobals "word_at" = some (some (.ref f20))) (l20 : K.lookup f20 = some ⟨oc20, od20, .func (PySem.W.fnOf "word_at" "word_at" (defArgs sWordAt) (defBody sWordAt) (defScope sWordAt) .none kV20 dc20 pm20 an20 cd20 ct20), sl20⟩) (c20 : PySem.W.codeIn K cd20 "word_at" = true) (k20 : PySem.W.keepIn K (.ref f20) = true)
    (a21 : PySem.W.nsIn K mainGlobals "row_told" = some (some (.ref f21))) (l21 : K.lookup f21 = some ⟨oc21, od21, .func (PySem.W.fnOf "row_told" "row_told" (defArgs sRowTold) (defBody sRowTold) (defScope sRowTold) .none kV21 dc21 pm21 an21 cd21 ct21), sl21⟩) (c21 : PySem.W.codeIn K cd21 "row_told" = true) (k21 : PySem.W.keepIn K (.ref f21) = true)
    (a22 : PySem.W.nsIn K mainGlobals "need_string" = some (some (.ref f22))) (l22 : K.lookup f22 = some ⟨oc22, od22, .func (PySem.W.fnOf "need_string" "need_string" (defArgs sNeedString) (defBody sNeedString) (defScope sNeedString) .none kV22 dc22 pm22 an22 cd22 ct22), sl22⟩) (c22 : PySem.W.codeIn K cd22 "need_string" = true) (k22 : PySem.W.keepIn K (.ref f22) = true)
    (a23 : PySem.W.nsIn K mainGlobals "read_text" = some (some (.ref f23))) (l23 : K.lookup f23 = some ⟨oc23, od23, .func (PySem.W.fnOf "read_text" "read_text" (defArgs sReadText) (defBody sReadText) (defScope sReadText) .none kV23 dc23 pm23 an23 cd23 ct23), sl23⟩) (c23 : PySem.W.codeIn K cd23 "read_text" = true) (k23 : PySem.W.keepIn K (.ref f23) = true)
    (a24 : PySem.W.nsIn K mainGlobals "read_file" = some (some (.ref f24))) (l24 : K.lookup f24 = some ⟨oc24, od24, .func (PySem.W.fnOf "read_file" "read_file" (defArgs sReadFile) (defBody sReadFile) (defScope sReadFile) .none kV24 dc24 pm24 an24 cd24 ct24), sl24⟩) (c24 : PySem.W.codeIn K cd24 "read_file" = true) (k24 : PySem.W.keepIn K (.ref f24) = true)
    (a25 : PySem.W.nsIn K mainGlobals "_law_mixed" = some (some (.ref f25))) (l25 : K.lookup f25 = some ⟨oc25, od25, .func (PySem.W.fnOf "_law_mixed" "_law_mixed" (defArgs sMixed) (defBody sMixed) (defScope sMixed) .none kV25 dc25 pm25 an25 cd25 ct25), sl25⟩) (c25 : PySem.W.codeIn K cd25 "_law_mixed" = true) (k25 : PySem.W.keepIn K (.ref f25) = true)
    (a26 : PySem.W.nsIn K mainGlobals "_law_begin" = some (some (.ref f26))) (l26 : K.lookup f26 = some ⟨oc26, od26, .func (PySem.W.fnOf "_law_begin" "_law_begin" (defArgs sBegin) (defBody sBegin) (defScope sBegin) .none kV26 dc26 pm26 an26 cd26 ct26), sl26⟩) (c26 : PySem.W.codeIn K cd26 "_law_begin" = true) (k26 : PySem.W.keepIn K (.ref f26) = true)
    (a27 : PySem.W.nsIn K mainGlobals "_law_draw" = some (some (.ref f27))) (l27 : K.lookup f27 = some ⟨oc27, od27, .func (PySem.W.fnOf "_law_draw" "_law_draw" (defArgs sDraw) (defBody sDraw) (defScope sDraw) .none kV27 dc27 pm27 an27 cd27 ct27), sl27⟩) (c27 : PySem.W.codeIn K cd27 "_law_draw" = true) (k27 : PySem.W.keepIn K (.ref f27) = true)
    (a28 : PySem.W.nsIn K mainGlobals "_law_of" = some (some (.ref f28))) (l28 : K.lookup f28 = some ⟨oc28, od28, .func (PySem.W.fnOf "_law_of" "_law_of" (defArgs sOf) (defBody sOf) (defScope sOf) .none kV28 dc28 pm28 an28 cd28 ct28), sl28⟩) (c28 : PySem.W.codeIn K cd28 "_law_of" = true) (k28 : PySem.W.keepIn K (.ref f28) = true)
    (a29 : PySem.W.nsIn K mainGlobals "_law_names" = some (some (.ref f29))) (l29 : K.lookup f29 = some ⟨oc29, od29, .func (PySem.W.fnOf "_law_names" "_law_names" (defArgs sNames) (defBody sNames) (defScope sNames) .none kV29 dc29 pm29 an29 cd29 ct29), sl29⟩) (c29 : PySem.W.codeIn K cd29 "_law_names" = true) (k29 : PySem.W.keepIn K (.ref f29) = true)
    (a30 : PySem.W.nsIn K mainGlobals "_law_plain" = some (some (.ref f30))) (l30 : K.lookup f30 = some ⟨oc30, od30, .func (PySem.W.fnOf "_law_plain" "_law_plain" (defArgs sPlain) (defBody sPlain) (defScope sPlain) .none kV30 dc30 pm30 an30 cd30 ct30), sl30⟩) (c30 : PySem.W.codeIn K cd30 "_law_plain" = true) (k30 : PySem.W.keepIn K (.ref f30) = true)
    (a31 : PySem.W.nsIn K mainGlobals "_law_text" = some (some (.ref f31))) (l31 : K.lookup f31 = some ⟨oc31, od31, .func (PySem.W.fnOf "_law_text" "_law_text" (defArgs sText) (defBody sText) (defScope sText) .none kV31 dc31 pm31 an31 cd31 ct31), sl31⟩) (c31 : PySem.W.codeIn K cd31 "_law_text" = true) (k31 : PySem.W.keepIn K (.ref f31) = true)
    (a32 : PySem.W.nsIn K mainGlobals "_law_row" = some (some (.ref f32))) (l32 : K.lookup f32 = some ⟨oc32, od32, .func (PySem.W.fnOf "_law_row" "_law_row" (defArgs sRow) (defBody sRow) (defScope sRow) .none kV32 dc32 pm32 an32 cd32 ct32), sl32⟩) (c32 : PySem.W.codeIn K cd32 "_law_row" = true) (k32 : PySem.W.keepIn K (.ref f32) = true)
    (a33 : PySem.W.nsIn K mainGlobals "_law_file" = some (some (.ref f33))) (l33 : K.lookup f33 = some ⟨oc33, od33, .func (PySem.W.fnOf "_law_file" "_law_file" (defArgs sFile) (defBody sFile) (defScope sFile) .none kV33 dc33 pm33 an33 cd33 ct33), sl33⟩) (c33 : PySem.W.codeIn K cd33 "_law_file" = true) (k33 : PySem.W.keepIn K (.ref f33) = true)
    (a34 : PySem.W.nsIn K mainGlobals "_law_written" = some (some (.ref f34))) (l34 : K.lookup f34 = some ⟨oc34, od34, .func (PySem.W.fnOf "_law_written" "_law_written" (defArgs sLwritten) (defBody sLwritten) (defScope sLwritten) .none kV34 dc34 pm34 an34 cd34 ct34), sl34⟩) (c34 : PySem.W.codeIn K cd34 "_law_written" = true) (k34 : PySem.W.keepIn K (.ref f34) = true)
    (a35 : PySem.W.nsIn K mainGlobals "_law_row_written" = some (some (.ref f35))) (l35 : K.lookup f35 = some ⟨oc35, od35, .func (PySem.W.fnOf "_law_row_written" "_law_row_written" (defArgs sLrow) (defBody sLrow) (defScope sLrow) .none kV35 dc35 pm35 an35 cd35 ct35), sl35⟩) (c35 : PySem.W.codeIn K cd35 "_law_row_written" = true) (k35 : PySem.W.keepIn K (.ref f35) = true)
    (a36 : PySem.W.nsIn K mainGlobals "_law_edge" = some (some (.ref f36))) (l36 : K.lookup f36 = some ⟨oc36, od36, .func (PySem.W.fnOf "_law_edge" "_law_edge" (defArgs sEdge) (defBody sEdge) (defScope sEdge) .none kV36 dc36 pm36 an36 cd36 ct36), sl36⟩) (c36 : PySem.W.codeIn K cd36 "_law_edge" = true) (k36 : PySem.W.keepIn K (.ref f36) = true)
    (a37 : PySem.W.nsIn K mainGlobals "_law_text_right" = some (some (.ref f37))) (l37 : K.lookup f37 = some ⟨oc37, od37, .func (PySem.W.fnOf "_law_text_right" "_law_text_right" (defArgs sTright) (defBody sTright) (defScope sTright) .none kV37 dc37 pm37 an37 cd37 ct37), sl37⟩) (c37 : PySem.W.codeIn K cd37 "_law_text_right" = true) (k37 : PySem.W.keepIn K (.ref f37) = true)
    (a38 : PySem.W.nsIn K mainGlobals "_law_file_right" = some (some (.ref f38))) (l38 : K.lookup f38 = some ⟨oc38, od38, .func (PySem.W.fnOf "_law_file_right" "_law_file_right" (defArgs sFright) (defBody sFright) (defScope sFright) .none kV38 dc38 pm38 an38 cd38 ct38), sl38⟩) (c38 : PySem.W.codeIn K cd38 "_law_file_right" = true) (k38 : PySem.W.keepIn K (.ref f38) = true)
    (a39 : PySem.W.nsIn K mainGlobals "law" = some (some (.ref f39))) (l39 : K.lookup f39 = some ⟨oc39, od39, .func (PySem.W.fnOf "law" "law" (defArgs sLaw) (defBody sLaw) (defScope sLaw) .none kV39 dc39 pm39 an39 cd39 ct39), sl39⟩) (c39 : PySem.W.codeIn K cd39 "law" = true) (k39 : PySem.W.keepIn K (.ref f39) = true)
    (z1 : PySem.W.nsIn K mainGlobals "len" = some none)
    (z2 : PySem.W.nsIn K mainGlobals "isinstance" = some none)
    (z3 : PySem.W.nsIn K mainGlobals "str" = some none)
    (z4 : PySem.W.nsIn K mainGlobals "tuple" = some none)
    (z5 : PySem.W.nsIn K mainGlobals "all" = some none)
    (z6 : PySem.W.nsIn K mainGlobals "enumerate" = some none)
    (z7 : PySem.W.nsIn K mainGlobals "sorted" = some none)
    (z8 : PySem.W.nsIn K mainGlobals "set" = some none)
    (z9 : PySem.W.nsIn K mainGlobals "range" = some none)
    (z10 : PySem.W.nsIn K mainGlobals "list" = some none)
    (z11 : PySem.W.nsIn K mainGlobals "int" = some none)
    (z12 : PySem.W.nsIn K mainGlobals "min" = some none)
    (z13 : PySem.W.nsIn K mainGlobals "repr" = some none)
    (q1 : PySem.W.nsIn K mainGlobals "MOST_ROWS" = some (some (.int 40 t1)))
    (q2 : PySem.W.nsIn K mainGlobals "MOST_NAMES" = some (some (.int 12 t2)))
    (q3 : PySem.W.nsIn K mainGlobals "MOST_PIECES" = some (some (.int 8 t3)))
    (q4 : PySem.W.nsIn K mainGlobals "MOST_PLAIN" = some (some (.int 20 t4)))
    (q5 : PySem.W.nsIn K mainGlobals "MOST_LEVELS" = some (some (.int 4 t5)))
    (q6 : PySem.W.nsIn K mainGlobals "MOST_IN_NAME" = some (some (.int 8 t6)))
    (q7 : PySem.W.nsIn K mainGlobals "CAPITALS" = some (some (.str sCAP t7)))
    (q8 : PySem.W.nsIn K mainGlobals "PLAIN_SIGNS" = some (some (.str sPL t8)))
    (q9 : PySem.W.nsIn K mainGlobals "SIGNS" = some (some (.ref fs))) (qs : K.lookup fs = some ⟨.type "tuple", ds, .seq #[.str "" u1, .str "-" u2, .str ":-" u3, .str "+" u4, .str ":+" u5, .str "?" u6, .str ":?" u7, .str "=" u8, .str ":=" u9] ns, ss⟩)
    (q10 : PySem.W.nsIn K mainGlobals "SET" = some (some (.str "set" t10)))
    (q11 : PySem.W.nsIn K mainGlobals "GIVE" = some (some (.str "give" t11)))
    (q12 : PySem.W.nsIn K mainGlobals "DROP" = some (some (.str "drop" t12)))
    (q13 : PySem.W.nsIn K mainGlobals "CHECK" = some (some (.str "check" t13)))
    (q14 : PySem.W.nsIn K mainGlobals "BEGIN" = some (some (.str "${" t14)))
    (q15 : PySem.W.nsIn K mainGlobals "DOLLAR" = some (some (.str "$" t15)))
    (q16 : PySem.W.nsIn K mainGlobals "CURLY" = some (some (.str "{" t16)))
    (q17 : PySem.W.nsIn K mainGlobals "END" = some (some (.str "}" t17)))
    (q18 : PySem.W.nsIn K mainGlobals "COLON" = some (some (.str ":" t18)))
    (q19 : PySem.W.nsIn K mainGlobals "KINDS" = some (some (.str sKIND t19)))
    (q20 : PySem.W.nsIn K mainGlobals "EQUALS" = some (some (.str "=" t20)))
    (q21 : PySem.W.nsIn K mainGlobals "ASKED" = some (some (.str "?" t21)))
    (q22 : PySem.W.nsIn K mainGlobals "GIVEN" = some (some (.str "?=" t22)))
    (q23 : PySem.W.nsIn K mainGlobals "BLANK" = some (some (.str " " t23)))
    (q24 : PySem.W.nsIn K mainGlobals "NEWLINE" = some (some (.str "\n" t24)))
    : ∃ fd : FuncData, (∀ (s : Shared) (v : Value), BindsTo s fd ⟨[v], []⟩ [("script", v)]) ∧ ∀ base : Heap, K.In base → base.Ns mainGlobals mg → FnG l.prog w K mg base 15 fa fd ["script"] (spLaw K) := by
  have e := hfa.symm.trans (PySem.W.mg_of X G a39)
  cases e
  have sig : ∀ H, SqT K H fs (signsL.map V.str) := fun H => .inr ⟨_, _, _, qs, rfl, rfl, (show 9 ≤ sizeLine by decide), .cons ⟨_, rfl⟩ (.cons ⟨_, rfl⟩ (.cons ⟨_, rfl⟩ (.cons ⟨_, rfl⟩ (.cons ⟨_, rfl⟩ (.cons ⟨_, rfl⟩ (.cons ⟨_, rfl⟩ (.cons ⟨_, rfl⟩ (.cons ⟨_, rfl⟩ (.nil)))))))))⟩
  have T : Txt K mg := ⟨PySem.W.mg_none_of X G z1, PySem.W.mg_none_of X G z2, PySem.W.mg_none_of X G z3, PySem.W.mg_none_of X G z4, PySem.W.mg_none_of X G z5, PySem.W.mg_none_of X G z6, PySem.W.mg_none_of X G z7, PySem.W.mg_none_of X G z8, PySem.W.mg_none_of X G z9, PySem.W.mg_none_of X G z10, PySem.W.mg_none_of X G z11, PySem.W.mg_none_of X G z12, PySem.W.mg_none_of X G z13, ⟨_, PySem.W.mg_of X G q1⟩, ⟨_, PySem.W.mg_of X G q2⟩, ⟨_, PySem.W.mg_of X G q3⟩, ⟨_, PySem.W.mg_of X G q4⟩, ⟨_, PySem.W.mg_of X G q5⟩, ⟨_, PySem.W.mg_of X G q6⟩, ⟨_, PySem.W.mg_of X G q7⟩, ⟨_, PySem.W.mg_of X G q8⟩, ⟨fs, PySem.W.mg_of X G q9, sig⟩, ⟨_, PySem.W.mg_of X G q10⟩, ⟨_, PySem.W.mg_of X G q11⟩, ⟨_, PySem.W.mg_of X G q12⟩, ⟨_, PySem.W.mg_of X G q13⟩, ⟨_, PySem.W.mg_of X G q14⟩, ⟨_, PySem.W.mg_of X G q15⟩, ⟨_, PySem.W.mg_of X G q16⟩, ⟨_, PySem.W.mg_of X G q17⟩, ⟨_, PySem.W.mg_of X G q18⟩, ⟨_, PySem.W.mg_of X G q19⟩, ⟨_, PySem.W.mg_of X G q20⟩, ⟨_, PySem.W.mg_of X G q21⟩, ⟨_, PySem.W.mg_of X G q22⟩, ⟨_, PySem.W.mg_of X G q23⟩, ⟨_, PySem.W.mg_of X G q24⟩⟩
  have F1 := fun_mk (st := sIsName) l1 c1 k1
  have D1 : Df K mg "is_name" sIsName ["thing"] f1 _ := ⟨F1, F1.binds (ps := ["thing"]) fun _ _ _ _ _ _ us hl => match us, hl with | [_], _ => rfl, PySem.W.mg_of X G a1⟩
  have F2 := fun_mk (st := sIsPlain) l2 c2 k2
  have D2 : Df K mg "is_plain" sIsPlain ["thing"] f2 _ := ⟨F2, F2.binds (ps := ["thing"]) fun _ _ _ _ _ _ us hl => match us, hl with | [_], _ => rfl, PySem.W.mg_of X G a2⟩
  have F3 := fun_mk (st := sIsPart) l3 c3 k3
  have D3 : Df K mg "is_part" sIsPart ["thing", "levels"] f3 _ := ⟨F3, F3.binds (ps := ["thing", "levels"]) fun _ _ _ _ _ _ us hl => match us, hl with | [_, _], _ => rfl, PySem.W.mg_of X G a3⟩
  have F4 := fun_mk (st := sIsTextOf) l4 c4 k4
  have D4 : Df K mg "is_text_of" sIsTextOf ["thing", "levels"] f4 _ := ⟨F4, F4.binds (ps := ["thing", "levels"]) fun _ _ _ _ _ _ us hl => match us, hl with | [_, _], _ => rfl, PySem.W.mg_of X G a4⟩
  have F5 := fun_mk (st := sIsText) l5 c5 k5
  have D5 : Df K mg "is_text" sIsText ["thing"] f5 _ := ⟨F5, F5.binds (ps := ["thing"]) fun _ _ _ _ _ _ us hl => match us, hl with | [_], _ => rfl, PySem.W.mg_of X G a5⟩
  have F6 := fun_mk (st := sIsRow) l6 c6 k6
  have D6 : Df K mg "is_row" sIsRow ["thing"] f6 _ := ⟨F6, F6.binds (ps := ["thing"]) fun _ _ _ _ _ _ us hl => match us, hl with | [_], _ => rfl, PySem.W.mg_of X G a6⟩
  have F7 := fun_mk (st := sTextOfRow) l7 c7 k7
  have D7 : Df K mg "text_of_row" sTextOfRow ["row"] f7 _ := ⟨F7, F7.binds (ps := ["row"]) fun _ _ _ _ _ _ us hl => match us, hl with | [_], _ => rfl, PySem.W.mg_of X G a7⟩
  have F8 := fun_mk (st := sNamesInText) l8 c8 k8
  have D8 : Df K mg "names_in_text" sNamesInText ["text"] f8 _ := ⟨F8, F8.binds (ps := ["text"]) fun _ _ _ _ _ _ us hl => match us, hl with | [_], _ => rfl, PySem.W.mg_of X G a8⟩
  have F9 := fun_mk (st := sNamesIn) l9 c9 k9
  have D9 : Df K mg "names_in" sNamesIn ["rows"] f9 _ := ⟨F9, F9.binds (ps := ["rows"]) fun _ _ _ _ _ _ us hl => match us, hl with | [_], _ => rfl, PySem.W.mg_of X G a9⟩
  have F10 := fun_mk (st := sNeedFile) l10 c10 k10
  have D10 : Df K mg "need_file" sNeedFile ["thing"] f10 _ := ⟨F10, F10.binds (ps := ["thing"]) fun _ _ _ _ _ _ us hl => match us, hl with | [_], _ => rfl, PySem.W.mg_of X G a10⟩
  have F11 := fun_mk (st := sWritten) l11 c11 k11
  have D11 : Df K mg "written" sWritten ["text"] f11 _ := ⟨F11, F11.binds (ps := ["text"]) fun _ _ _ _ _ _ us hl => match us, hl with | [_], _ => rfl, PySem.W.mg_of X G a11⟩
  have F12 := fun_mk (st := sTextOf) l12 c12 k12
  have D12 : Df K mg "text_of" sTextOf ["text"] f12 _ := ⟨F12, F12.binds (ps := ["text"]) fun _ _ _ _ _ _ us hl => match us, hl with | [_], _ => rfl, PySem.W.mg_of X G a12⟩
  have F13 := fun_mk (st := sRowText) l13 c13 k13
  have D13 : Df K mg "row_text" sRowText ["row"] f13 _ := ⟨F13, F13.binds (ps := ["row"]) fun _ _ _ _ _ _ us hl => match us, hl with | [_], _ => rfl, PySem.W.mg_of X G a13⟩
  have F14 := fun_mk (st := sFileText) l14 c14 k14
  have D14 : Df K mg "file_text" sFileText ["file"] f14 _ := ⟨F14, F14.binds (ps := ["file"]) fun _ _ _ _ _ _ us hl => match us, hl with | [_], _ => rfl, PySem.W.mg_of X G a14⟩
  have F15 := fun_mk (st := sNeedSign) l15 c15 k15
  have D15 : Df K mg "need_sign" sNeedSign ["line", "at", "signs", "row"] f15 _ := ⟨F15, F15.binds (ps := ["line", "at", "signs", "row"]) fun _ _ _ _ _ _ us hl => match us, hl with | [_, _, _, _], _ => rfl, PySem.W.mg_of X G a15⟩
  have F16 := fun_mk (st := sNameAt) l16 c16 k16
  have D16 : Df K mg "name_at" sNameAt ["line", "at", "row"] f16 _ := ⟨F16, F16.binds (ps := ["line", "at", "row"]) fun _ _ _ _ _ _ us hl => match us, hl with | [_, _, _], _ => rfl, PySem.W.mg_of X G a16⟩
  have F17 := fun_mk (st := sHeadAt) l17 c17 k17
  have D17 : Df K mg "head_at" sHeadAt ["line", "at", "row"] f17 _ := ⟨F17, F17.binds (ps := ["line", "at", "row"]) fun _ _ _ _ _ _ us hl => match us, hl with | [_, _, _], _ => rfl, PySem.W.mg_of X G a17⟩
  have F18 := fun_mk (st := sWithPlain) l18 c18 k18
  have D18 : Df K mg "with_plain" sWithPlain ["pieces", "sign"] f18 _ := ⟨F18, F18.binds (ps := ["pieces", "sign"]) fun _ _ _ _ _ _ us hl => match us, hl with | [_, _], _ => rfl, PySem.W.mg_of X G a18⟩
  have F19 := fun_mk (st := sTextAt) l19 c19 k19
  have D19 : Df K mg "text_at" sTextAt ["line", "at", "row"] f19 _ := ⟨F19, F19.binds (ps := ["line", "at", "row"]) fun _ _ _ _ _ _ us hl => match us, hl with | [_, _, _], _ => rfl, PySem.W.mg_of X G a19⟩
  have F20 := fun_mk (st := sWordAt) l20 c20 k20
  have D20 : Df K mg "word_at" sWordAt ["line", "word", "row"] f20 _ := ⟨F20, F20.binds (ps := ["line", "word", "row"]) fun _ _ _ _ _ _ us hl => match us, hl with | [_, _, _], _ => rfl, PySem.W.mg_of X G a20⟩
  have F21 := fun_mk (st := sRowTold) l21 c21 k21
  have D21 : Df K mg "row_told" sRowTold ["line", "row"] f21 _ := ⟨F21, F21.binds (ps := ["line", "row"]) fun _ _ _ _ _ _ us hl => match us, hl with | [_, _], _ => rfl, PySem.W.mg_of X G a21⟩
  have F22 := fun_mk (st := sNeedString) l22 c22 k22
  have D22 : Df K mg "need_string" sNeedString ["thing"] f22 _ := ⟨F22, F22.binds (ps := ["thing"]) fun _ _ _ _ _ _ us hl => match us, hl with | [_], _ => rfl, PySem.W.mg_of X G a22⟩
  have F23 := fun_mk (st := sReadText) l23 c23 k23
  have D23 : Df K mg "read_text" sReadText ["string"] f23 _ := ⟨F23, F23.binds (ps := ["string"]) fun _ _ _ _ _ _ us hl => match us, hl with | [_], _ => rfl, PySem.W.mg_of X G a23⟩
  have F24 := fun_mk (st := sReadFile) l24 c24 k24
  have D24 : Df K mg "read_file" sReadFile ["string"] f24 _ := ⟨F24, F24.binds (ps := ["string"]) fun _ _ _ _ _ _ us hl => match us, hl with | [_], _ => rfl, PySem.W.mg_of X G a24⟩
  have F25 := fun_mk (st := sMixed) l25 c25 k25
  have D25 : Df K mg "_law_mixed" sMixed ["cell", "k"] f25 _ := ⟨F25, F25.binds (ps := ["cell", "k"]) fun _ _ _ _ _ _ us hl => match us, hl with | [_, _], _ => rfl, PySem.W.mg_of X G a25⟩
  have F26 := fun_mk (st := sBegin) l26 c26 k26
  have D26 : Df K mg "_law_begin" sBegin ["script"] f26 _ := ⟨F26, F26.binds (ps := ["script"]) fun _ _ _ _ _ _ us hl => match us, hl with | [_], _ => rfl, PySem.W.mg_of X G a26⟩
  have F27 := fun_mk (st := sDraw) l27 c27 k27
  have D27 : Df K mg "_law_draw" sDraw ["state", "many"] f27 _ := ⟨F27, F27.binds (ps := ["state", "many"]) fun _ _ _ _ _ _ us hl => match us, hl with | [_, _], _ => rfl, PySem.W.mg_of X G a27⟩
  have F28 := fun_mk (st := sOf) l28 c28 k28
  have D28 : Df K mg "_law_of" sOf ["state", "some"] f28 _ := ⟨F28, F28.binds (ps := ["state", "some"]) fun _ _ _ _ _ _ us hl => match us, hl with | [_, _], _ => rfl, PySem.W.mg_of X G a28⟩
  have F29 := fun_mk (st := sNames) l29 c29 k29
  have D29 : Df K mg "_law_names" sNames ["state", "many"] f29 _ := ⟨F29, F29.binds (ps := ["state", "many"]) fun _ _ _ _ _ _ us hl => match us, hl with | [_, _], _ => rfl, PySem.W.mg_of X G a29⟩
  have F30 := fun_mk (st := sPlain) l30 c30 k30
  have D30 : Df K mg "_law_plain" sPlain ["state"] f30 _ := ⟨F30, F30.binds (ps := ["state"]) fun _ _ _ _ _ _ us hl => match us, hl with | [_], _ => rfl, PySem.W.mg_of X G a30⟩
  have F31 := fun_mk (st := sText) l31 c31 k31
  have D31 : Df K mg "_law_text" sText ["state", "names", "deep"] f31 _ := ⟨F31, F31.binds (ps := ["state", "names", "deep"]) fun _ _ _ _ _ _ us hl => match us, hl with | [_, _, _], _ => rfl, PySem.W.mg_of X G a31⟩
  have F32 := fun_mk (st := sRow) l32 c32 k32
  have D32 : Df K mg "_law_row" sRow ["state", "names"] f32 _ := ⟨F32, F32.binds (ps := ["state", "names"]) fun _ _ _ _ _ _ us hl => match us, hl with | [_, _], _ => rfl, PySem.W.mg_of X G a32⟩
  have F33 := fun_mk (st := sFile) l33 c33 k33
  have D33 : Df K mg "_law_file" sFile ["state", "names", "most"] f33 _ := ⟨F33, F33.binds (ps := ["state", "names", "most"]) fun _ _ _ _ _ _ us hl => match us, hl with | [_, _, _], _ => rfl, PySem.W.mg_of X G a33⟩
  have F34 := fun_mk (st := sLwritten) l34 c34 k34
  have D34 : Df K mg "_law_written" sLwritten ["text"] f34 _ := ⟨F34, F34.binds (ps := ["text"]) fun _ _ _ _ _ _ us hl => match us, hl with | [_], _ => rfl, PySem.W.mg_of X G a34⟩
  have F35 := fun_mk (st := sLrow) l35 c35 k35
  have D35 : Df K mg "_law_row_written" sLrow ["row"] f35 _ := ⟨F35, F35.binds (ps := ["row"]) fun _ _ _ _ _ _ us hl => match us, hl with | [_], _ => rfl, PySem.W.mg_of X G a35⟩
  have F36 := fun_mk (st := sEdge) l36 c36 k36
  have D36 : Df K mg "_law_edge" sEdge ["state"] f36 _ := ⟨F36, F36.binds (ps := ["state"]) fun _ _ _ _ _ _ us hl => match us, hl with | [_], _ => rfl, PySem.W.mg_of X G a36⟩
  have F37 := fun_mk (st := sTright) l37 c37 k37
  have D37 : Df K mg "_law_text_right" sTright ["text"] f37 _ := ⟨F37, F37.binds (ps := ["text"]) fun _ _ _ _ _ _ us hl => match us, hl with | [_], _ => rfl, PySem.W.mg_of X G a37⟩
  have F38 := fun_mk (st := sFright) l38 c38 k38
  have D38 : Df K mg "_law_file_right" sFright ["rows"] f38 _ := ⟨F38, F38.binds (ps := ["rows"]) fun _ _ _ _ _ _ us hl => match us, hl with | [_], _ => rfl, PySem.W.mg_of X G a38⟩
  have F39 := fun_mk (st := sLaw) l39 c39 k39
  refine ⟨_, (fun s v => (.of_eq rfl : BindsTo s (PySem.W.fnOf "law" "law" (defArgs sLaw) (defBody sLaw) (defScope sLaw) .none kV39 dc39 pm39 an39 cd39 ct39) ⟨[v], []⟩ [("script", v)])), fun base _ _ => ?_⟩
  have g_is_name := ok_is_name (P := l.prog) (w := w) (base := base) F1 T
  have g_is_text_of := all_textOf (P := l.prog) (w := w) (base := base) T D1 D2 D3 D4 4
  have g_is_text := ok_is_text (P := l.prog) (w := w) (base := base) F5 T D4 g_is_text_of
  have g_is_row := ok_is_row (P := l.prog) (w := w) (base := base) F6 T D1 g_is_name D5 g_is_text
  have g_text_of_row := ok_text_of_row (P := l.prog) (w := w) (base := base) F7 T
  have g_names_in_text := all_names_in_text (P := l.prog) (w := w) (base := base) T D8 5
  have g_names_in := ok_names_in (P := l.prog) (w := w) (base := base) F9 T D7 g_text_of_row D8 g_names_in_text
  have g_need_file := ok_need_file (P := l.prog) (w := w) (base := base) F10 T D6 g_is_row D9 g_names_in
  have g_written := all_written (P := l.prog) (w := w) (base := base) T D11 5
  have g_text_of := ok_text_of (P := l.prog) (w := w) (base := base) F12 T D5 g_is_text D11 g_written
  have g_row_text := ok_row_text (P := l.prog) (w := w) (base := base) F13 T D11 g_written
  have g_file_text := ok_file_text (P := l.prog) (w := w) (base := base) F14 T D10 g_need_file D13 g_row_text
  have g_need_sign := ok_need_sign (P := l.prog) (w := w) (base := base) F15 T
  have g_name_at := ok_name_at (P := l.prog) (w := w) (base := base) F16 T D15 g_need_sign
  have g_head_at := ok_head_at (P := l.prog) (w := w) (base := base) F17 T D15 g_need_sign D16 g_name_at
  have g_with_plain := ok_with_plain (P := l.prog) (w := w) (base := base) F18 T
  have g_text_at := ok_text_at (P := l.prog) (w := w) (base := base) F19 T D15 g_need_sign D17 g_head_at D18 g_with_plain
  have g_word_at := ok_word_at (P := l.prog) (w := w) (base := base) F20 T D15 g_need_sign
  have g_row_told := ok_row_told (P := l.prog) (w := w) (base := base) F21 T D15 g_need_sign D20 g_word_at D16 g_name_at D19 g_text_at
  have g_need_string := ok_need_string (P := l.prog) (w := w) (base := base) F22 T
  have g_read_text := ok_read_text (P := l.prog) (w := w) (base := base) F23 D22 g_need_string D19 g_text_at D5 g_is_text
  have g_read_file := ok_read_file (P := l.prog) (w := w) (base := base) F24 T D22 g_need_string D21 g_row_told D10 g_need_file
  have g_mixed := ok_mixed (P := l.prog) (w := w) (base := base) F25 T
  have g_begin := ok_begin (P := l.prog) (w := w) (base := base) F26 T
  have g_draw := ok_draw (P := l.prog) (w := w) (base := base) F27 T D25 g_mixed
  have g_of := ok_of (P := l.prog) (w := w) (base := base) F28 T D27 g_draw
  have g_names := ok_names (P := l.prog) (w := w) (base := base) F29 T D27 g_draw
  have g_plain := ok_plain (P := l.prog) (w := w) (base := base) F30 D27 g_draw
  have g_text3 := all_text (P := l.prog) (w := w) (base := base) T D31 D27 g_draw D30 g_plain 3
  have g_text4 := all_text (P := l.prog) (w := w) (base := base) T D31 D27 g_draw D30 g_plain 4
  have g_row := ok_row (P := l.prog) (w := w) (base := base) F32 T D27 g_draw D31 g_text3
  have g_file := ok_file (P := l.prog) (w := w) (base := base) F33 T D27 g_draw D32 g_row
  have g_lwritten := all_lwritten (P := l.prog) (w := w) (base := base) T D34 5
  have g_lrow := ok_lrow (P := l.prog) (w := w) (base := base) F35 D34 g_lwritten
  have g_edge := ok_edge (P := l.prog) (w := w) (base := base) F36 T D27 g_draw D28 g_of
  have g_tright := ok_tright (P := l.prog) (w := w) (base := base) F37 T D34 g_lwritten D12 g_text_of D23 g_read_text
  have g_fright := ok_fright (P := l.prog) (w := w) (base := base) F38 T D35 g_lrow D14 g_file_text D24 g_read_file
  exact ok_law F39 T D26 g_begin D27 g_draw D29 g_names D33 g_file D36 g_edge D31 g_text4 D37 g_tright D38 g_fright D14 g_file_text D12 g_text_of D24 g_read_file D23 g_read_text
theorem walk {l : PySem.W.OpenLaw} {q : Program} {loose : List Str} {XP : (Str → Option Value) → Heap → Prop} {YP : World → Heap → Prop} {d : DefRec} {K : Params → PySem.W.Frag} (hn : l.most = some 63) (hdf : d.params.defaults = [])
    (hY : ∀ (w : World) (h : Heap), YP w h → (K w.params).In h)
    (F : ∀ (w : World) (mg : Str → Option Value) (fa : Addr) (h : Heap), (K w.params).In h → h.Ns mainGlobals mg → mg d.name = some (.ref fa) →
      ∃ fd : FuncData, (∀ (s : Shared) (u : Value), BindsTo s fd ⟨[u], []⟩ [("script", u)]) ∧ ∀ base : Heap, (K w.params).In base → base.Ns mainGlobals mg → FnG l.prog w (K w.params) mg base 15 fa fd ["script"] (spLaw (K w.params))) :
    PySem.W.WalkO q loose XP YP l.row.toRowW d [] (fun f vs => PySem.call f vs) :=
  endG (n := 63) (k := 15) (x := "script") (sp := fun w => spLaw (K w.params)) hn (by decide) hdf ⟨rfl, by decide, by decide⟩ hY F (fun _ _ a ns hl hS => ⟨a, ns, rfl, hS, hl, fun _ => rfl⟩)
end Er
open PySem PySem.W PyProof.Rows
set_option maxRecDepth 100000 in
set_option maxHeartbeats 0 in
theorem PySem.Challenge.cw_envrows_k06_whole_written_forms_there_an_holds : PySem.Challenge.rw_envrows_k06_whole_written_forms_there_an.Holds := by
  w_on; o_law; k_head; (case hw => w_witness2)
  k_fill
  refine Er.walk (l := PySem.Challenge.rw_envrows_k06_whole_written_forms_there_an) rfl rfl (fun w h Y => PySem.W.kIn_of Y) ?F
  case F =>
    intro w mg fa h KX G hmg
    refine' Er.all_mk KX G hmg ?a1 ?l1 ?c1 ?k1 ?a2 ?l2 ?c2 ?k2 ?a3 ?l3 ?c3 ?k3 ?a4 ?l4 ?c4 ?k4 ?a5 ?l5 ?c5 ?k5 ?a6 ?l6 ?c6 ?k6 ?a7 ?l7 ?c7 ?k7 ?a8 ?l8 ?c8 ?k8 ?a9 ?l9 ?c9 ?k9 ?a10 ?l10 ?c10 ?k10 ?a11 ?l11 ?c11 ?k11 ?a12 ?l12 ?c12 ?k12 ?a13 ?l13 ?c13 ?k13 ?a14 ?l14 ?c14 ?k14 ?a15 ?l15 ?c15 ?k15 ?a16 ?l16 ?c16 ?k16 ?a17 ?l17 ?c17 ?k17 ?a18 ?l18 ?c18 ?k18 ?a19 ?l19 ?c19 ?k19 ?a20 ?l20 ?c20 ?k20 ?a21 ?l21 ?c21 ?k21 ?a22 ?l22 ?c22 ?k22 ?a23 ?l23 ?c23 ?k23 ?a24 ?l24 ?c24 ?k24 ?a25 ?l25 ?c25 ?k25 ?a26 ?l26 ?c26 ?k26 ?a27 ?l27 ?c27 ?k27 ?a28 ?l28 ?c28 ?k28 ?a29 ?l29 ?c29 ?k29 ?a30 ?l30 ?c30 ?k30 ?a31 ?l31 ?c31 ?k31 ?a32 ?l32 ?c32 ?k32 ?a33 ?l33 ?c33 ?k33 ?a34 ?l34 ?c34 ?k34 ?a35 ?l35 ?c35 ?k35 ?a36 ?l36 ?c36 ?k36 ?a37 ?l37 ?c37 ?k37 ?a38 ?l38 ?c38 ?k38 ?a39 ?l39 ?c39 ?k39 ?z1 ?z2 ?z3 ?z4 ?z5 ?z6 ?z7 ?z8 ?z9 ?z10 ?z11 ?z12 ?z13 ?q1 ?q2 ?q3 ?q4 ?q5 ?q6 ?q7 ?q8 ?q9 ?qs ?q10 ?q11 ?q12 ?q13 ?q14 ?q15 ?q16 ?q17 ?q18 ?q19 ?q20 ?q21 ?q22 ?q23 ?q24
    (case a1 => k_is)
    (case l1 => k_is)
    (case c1 => k_is)
    (case k1 => k_is)
    (case a2 => k_is)
    (case l2 => k_is)
    (case c2 => k_is)
    (case k2 => k_is)
    (case a3 => k_is)
    (case l3 => k_is)
    (case c3 => k_is)
    (case k3 => k_is)
    (case a4 => k_is)
    (case l4 => k_is)
    (case c4 => k_is)
    (case k4 => k_is)
    (case a5 => k_is)
    (case l5 => k_is)
    (case c5 => k_is)
    (case k5 => k_is)
    (case a6 => k_is)
    (case l6 => k_is)
    (case c6 => k_is)
    (case k6 => k_is)
    (case a7 => k_is)
    (case l7 => k_is)
    (case c7 => k_is)
    (case k7 => k_is)
    (case a8 => k_is)
    (case l8 => k_is)
    (case c8 => k_is)
    (case k8 => k_is)
    (case a9 => k_is)
    (case l9 => k_is)
    (case c9 => k_is)
    (case k9 => k_is)
    (case a10 => k_is)
    (case l10 => k_is)
    (case c10 => k_is)
    (case k10 => k_is)
    (case a11 => k_is)
    (case l11 => k_is)
    (case c11 => k_is)
    (case k11 => k_is)
    (case a12 => k_is)
    (case l12 => k_is)
    (case c12 => k_is)
    (case k12 => k_is)
    (case a13 => k_is)
    (case l13 => k_is)
    (case c13 => k_is)
    (case k13 => k_is)
    (case a14 => k_is)
    (case l14 => k_is)
    (case c14 => k_is)
    (case k14 => k_is)
    (case a15 => k_is)
    (case l15 => k_is)
    (case c15 => k_is)
    (case k15 => k_is)
    (case a16 => k_is)
    (case l16 => k_is)
    (case c16 => k_is)
    (case k16 => k_is)
    (case a17 => k_is)
    (case l17 => k_is)
    (case c17 => k_is)
    (case k17 => k_is)
    (case a18 => k_is)
    (case l18 => k_is)
    (case c18 => k_is)
    (case k18 => k_is)
    (case a19 => k_is)
    (case l19 => k_is)
    (case c19 => k_is)
    (case k19 => k_is)
    (case a20 => k_is)
    (case l20 => k_is)
    (case c20 => k_is)
    (case k20 => k_is)
    (case a21 => k_is)
    (case l21 => k_is)
    (case c21 => k_is)
    (case k21 => k_is)
    (case a22 => k_is)
    (case l22 => k_is)
    (case c22 => k_is)
    (case k22 => k_is)
    (case a23 => k_is)
    (case l23 => k_is)
    (case c23 => k_is)
    (case k23 => k_is)
    (case a24 => k_is)
    (case l24 => k_is)
    (case c24 => k_is)
    (case k24 => k_is)
    (case a25 => k_is)
    (case l25 => k_is)
    (case c25 => k_is)
    (case k25 => k_is)
    (case a26 => k_is)
    (case l26 => k_is)
    (case c26 => k_is)
    (case k26 => k_is)
    (case a27 => k_is)
    (case l27 => k_is)
    (case c27 => k_is)
    (case k27 => k_is)
    (case a28 => k_is)
    (case l28 => k_is)
    (case c28 => k_is)
    (case k28 => k_is)
    (case a29 => k_is)
    (case l29 => k_is)
    (case c29 => k_is)
    (case k29 => k_is)
    (case a30 => k_is)
    (case l30 => k_is)
    (case c30 => k_is)
    (case k30 => k_is)
    (case a31 => k_is)
    (case l31 => k_is)
    (case c31 => k_is)
    (case k31 => k_is)
    (case a32 => k_is)
    (case l32 => k_is)
    (case c32 => k_is)
    (case k32 => k_is)
    (case a33 => k_is)
    (case l33 => k_is)
    (case c33 => k_is)
    (case k33 => k_is)
    (case a34 => k_is)
    (case l34 => k_is)
    (case c34 => k_is)
    (case k34 => k_is)
    (case a35 => k_is)
    (case l35 => k_is)
    (case c35 => k_is)
    (case k35 => k_is)
    (case a36 => k_is)
    (case l36 => k_is)
    (case c36 => k_is)
    (case k36 => k_is)
    (case a37 => k_is)
    (case l37 => k_is)
    (case c37 => k_is)
    (case k37 => k_is)
    (case a38 => k_is)
    (case l38 => k_is)
    (case c38 => k_is)
    (case k38 => k_is)
    (case a39 => k_is)
    (case l39 => k_is)
    (case c39 => k_is)
    (case k39 => k_is)
    (case z1 => k_is)
    (case z2 => k_is)
    (case z3 => k_is)
    (case z4 => k_is)
    (case z5 => k_is)
    (case z6 => k_is)
    (case z7 => k_is)
    (case z8 => k_is)
    (case z9 => k_is)
    (case z10 => k_is)
    (case z11 => k_is)
    (case z12 => k_is)
    (case z13 => k_is)
    (case q1 => k_is)
    (case q2 => k_is)
    (case q3 => k_is)
    (case q4 => k_is)
    (case q5 => k_is)
    (case q6 => k_is)
    (case q7 => k_is)
    (case q8 => k_is)
    (case q9 => k_is)
    (case qs => k_is)
    (case q10 => k_is)
    (case q11 => k_is)
    (case q12 => k_is)
    (case q13 => k_is)
    (case q14 => k_is)
    (case q15 => k_is)
    (case q16 => k_is)
    (case q17 => k_is)
    (case q18 => k_is)
    (case q19 => k_is)
    (case q20 => k_is)
    (case q21 => k_is)
    (case q22 => k_is)
    (case q23 => k_is)
    (case q24 => k_is)
#print axioms PySem.Challenge.cw_envrows_k06_whole_written_forms_there_an_holds
