import PyProof.Rows.All
import Wide.All
import OpenK.AllK
import Wide.FinOn
import HandS.Base
import HandS.Call
import HandS.Codes
import HandS.Comp
import HandS.Dict
import HandS.Ends
import HandS.Exc
import HandS.ExcField
import HandS.ExcInit
import HandS.ExcOwn
import HandS.IsInst
import HandS.Iter
import HandS.List
import HandS.RaiseMore
import HandS.Steps
import HandS.Text
import HandS.TryMany
import HandS.Words
import HandS.WordsExc
import HandS.WordsList
import KE.IntTextLaws
import PySem.Challenge.RW_porterlodge_k81_plain_values
set_option Elab.async false
set_option maxRecDepth 100000
set_option maxHeartbeats 2000000
/-! Plain values: tokens, the stack machine, the law's own machine; no program in sight. -/
namespace PV
open PySem

/-- a text of codes -/
def S (l : List Nat) : Str := ⟨l.toArray⟩
theorem S_toList (l : List Nat) : (S l).cps.toList = l := rfl
theorem S_of (z : Str) : S z.cps.toList = z := by cases z; simp [S]
theorem S_inj {a b : List Nat} (h : S a = S b) : a = b := by
  have := congrArg (fun z : Str => z.cps.toList) h
  simpa [S] using this
theorem S_len (l : List Nat) : (S l).length = l.length := by simp [S, Str.length]

def LET : List Nat := (Str.ofString "abcdefghijklmnopqrstuvwxyz").cps.toList
def DIG : List Nat := (Str.ofString "0123456789").cps.toList
def SIG : List Nat := (Str.ofString "&|!()=:;+-.").cps.toList
def isL (c : Nat) : Bool := decide (c ∈ LET)
def isD (c : Nat) : Bool := decide (c ∈ DIG)
def isS (c : Nat) : Bool := decide (c ∈ SIG)
theorem isL_iff (c : Nat) : isL c = true ↔ 97 ≤ c ∧ c ≤ 122 := by
  have e : LET = [97, 98, 99, 100, 101, 102, 103, 104, 105, 106, 107, 108, 109, 110, 111, 112, 113, 114, 115, 116, 117, 118, 119, 120, 121, 122] := by decide +kernel
  unfold isL
  rw [decide_eq_true_eq, e]
  simp only [List.mem_cons, List.not_mem_nil, or_false]
  omega
theorem isD_iff (c : Nat) : isD c = true ↔ 48 ≤ c ∧ c ≤ 57 := by
  have e : DIG = [48, 49, 50, 51, 52, 53, 54, 55, 56, 57] := by decide +kernel
  unfold isD
  rw [decide_eq_true_eq, e]
  simp only [List.mem_cons, List.not_mem_nil, or_false]
  omega
theorem isS_iff (c : Nat) : isS c = true ↔ c = 38 ∨ c = 124 ∨ c = 33 ∨ c = 40 ∨ c = 41 ∨ c = 61 ∨ c = 58 ∨ c = 59 ∨ c = 43 ∨ c = 45 ∨ c = 46 := by
  have e : SIG = [38, 124, 33, 40, 41, 61, 58, 59, 43, 45, 46] := by decide +kernel
  unfold isS
  rw [decide_eq_true_eq, e]
  simp only [List.mem_cons, List.not_mem_nil, or_false]

/-- a token: its kind, its text, its column -/
structure Tk where
  kind : Str
  text : Str
  col : Int
def Tk.d (t : Tk) : PyData := .tuple [.str t.kind, .str t.text, .int t.col]
def kWord : Str := Str.ofString "word"
def kNum : Str := Str.ofString "number"
def kSign : Str := Str.ofString "sign"
def kOther : Str := Str.ofString "other"
def kEnd : Str := Str.ofString "end"

/-- the length of the run of allowed signs at the head -/
def run (al : Nat → Bool) (l : List Nat) : Nat := (l.takeWhile al).length
theorem run_le (al : Nat → Bool) (l : List Nat) : run al l ≤ l.length := by
  unfold run
  exact (List.takeWhile_sublist al).length_le
theorem run_nil (al : Nat → Bool) : run al [] = 0 := rfl
theorem run_cons_t {al : Nat → Bool} {c : Nat} {l : List Nat} (h : al c = true) : run al (c :: l) = run al l + 1 := by
  unfold run; rw [List.takeWhile_cons, if_pos h]; rfl
theorem run_cons_f {al : Nat → Bool} {c : Nat} {l : List Nat} (h : al c = false) : run al (c :: l) = 0 := by
  unfold run; rw [List.takeWhile_cons, h]; rfl
theorem run_app {al : Nat → Bool} {w l : List Nat} (hw : ∀ c ∈ w, al c = true) : run al (w ++ l) = w.length + run al l := by
  induction w with
  | nil => simp
  | cons c w ih =>
    rw [List.cons_append, run_cons_t (hw c (List.mem_cons_self ..)), ih (fun x hx => hw x (List.mem_cons_of_mem _ hx)), List.length_cons]
    omega
theorem run_stop {al : Nat → Bool} {l : List Nat} (h : ∀ c, l.head? = some c → al c = false) : run al l = 0 := by
  cases l with
  | nil => rfl
  | cons c l => exact run_cons_f (h c rfl)

/-- the tokens of a text from a place on -/
def tok : List Nat → Nat → List Tk
  | [], _ => []
  | c :: cs, p =>
    if c = 32 then tok cs (p + 1)
    else if isL c then ⟨kWord, S ((c :: cs).take (run isL cs + 1)), p + 1⟩ :: tok (cs.drop (run isL cs)) (p + 1 + run isL cs)
    else if isD c then ⟨kNum, S ((c :: cs).take (run isD cs + 1)), p + 1⟩ :: tok (cs.drop (run isD cs)) (p + 1 + run isD cs)
    else if isS c then ⟨kSign, S [c], p + 1⟩ :: tok cs (p + 1)
    else ⟨kOther, S [c], p + 1⟩ :: tok cs (p + 1)
termination_by l => l.length
decreasing_by all_goals (simp only [List.length_cons, List.length_drop]; omega)

theorem tok_nil (p : Nat) : tok [] p = [] := by rw [tok]
theorem tok_blank (cs : List Nat) (p : Nat) : tok (32 :: cs) p = tok cs (p + 1) := by rw [tok, if_pos rfl]
theorem tok_let {c : Nat} {cs : List Nat} {p : Nat} (h : isL c = true) :
    tok (c :: cs) p = ⟨kWord, S ((c :: cs).take (run isL cs + 1)), p + 1⟩ :: tok (cs.drop (run isL cs)) (p + 1 + run isL cs) := by
  have hc : ¬ c = 32 := fun e => by subst e; exact absurd h (by decide +kernel)
  rw [tok, if_neg hc, if_pos h]
theorem tok_dig {c : Nat} {cs : List Nat} {p : Nat} (h : isD c = true) :
    tok (c :: cs) p = ⟨kNum, S ((c :: cs).take (run isD cs + 1)), p + 1⟩ :: tok (cs.drop (run isD cs)) (p + 1 + run isD cs) := by
  have hc : ¬ c = 32 := fun e => by subst e; exact absurd h (by decide +kernel)
  have hl : ¬ isL c = true := fun e => by rw [isL_iff] at e; rw [isD_iff] at h; omega
  rw [tok, if_neg hc, if_neg hl, if_pos h]
theorem tok_sig {c : Nat} {cs : List Nat} {p : Nat} (h : isS c = true) : tok (c :: cs) p = ⟨kSign, S [c], p + 1⟩ :: tok cs (p + 1) := by
  have hc : ¬ c = 32 := fun e => by subst e; exact absurd h (by decide +kernel)
  have hl : ¬ isL c = true := fun e => by rw [isL_iff] at e; rw [isS_iff] at h; omega
  have hd : ¬ isD c = true := fun e => by rw [isD_iff] at e; rw [isS_iff] at h; omega
  rw [tok, if_neg hc, if_neg hl, if_neg hd, if_pos h]
theorem tok_oth {c : Nat} {cs : List Nat} {p : Nat} (h0 : ¬ c = 32) (h1 : isL c = false) (h2 : isD c = false) (h3 : isS c = false) :
    tok (c :: cs) p = ⟨kOther, S [c], p + 1⟩ :: tok cs (p + 1) := by
  rw [tok, if_neg h0, h1, h2, h3]; rfl
theorem tok_len : ∀ (n : Nat) (l : List Nat) (p : Nat), l.length ≤ n → (tok l p).length ≤ l.length := by
  intro n
  induction n with
  | zero =>
    intro l p h
    have e : l = [] := List.length_eq_zero_iff.mp (Nat.le_zero.mp h)
    subst e
    rw [tok_nil]
    exact Nat.le_refl _
  | succ n ih =>
    intro l p h
    cases l with
    | nil => rw [tok_nil]; exact Nat.le_refl _
    | cons c cs =>
      have hcs : cs.length ≤ n := by simpa using h
      have hd : ∀ k : Nat, (cs.drop k).length ≤ n := fun k => by rw [List.length_drop]; omega
      rw [tok]
      repeat' split
      · exact Nat.le_trans (ih _ _ hcs) (by simp)
      · have := ih _ (p + 1 + run isL cs) (hd (run isL cs)); rw [List.length_drop] at this; simp only [List.length_cons]; omega
      · have := ih _ (p + 1 + run isD cs) (hd (run isD cs)); rw [List.length_drop] at this; simp only [List.length_cons]; omega
      · have := ih _ (p + 1) hcs; simp only [List.length_cons]; omega
      · have := ih _ (p + 1) hcs; simp only [List.length_cons]; omega
theorem tok_blanks : ∀ (n : Nat) (l : List Nat) (p : Nat), tok (List.replicate n 32 ++ l) p = tok l (p + n)
  | 0, l, p => rfl
  | n + 1, l, p => by
    rw [List.replicate_succ, List.cons_append, tok_blank, tok_blanks n l (p + 1)]
    congr 1; omega
/-- a word ahead of what is no letter -/
theorem tok_word {c : Nat} {w l : List Nat} {p : Nat} (hw : ∀ x ∈ c :: w, isL x = true) (hl : ∀ x, l.head? = some x → isL x = false) :
    tok (c :: w ++ l) p = ⟨kWord, S (c :: w), p + 1⟩ :: tok l (p + (c :: w).length) := by
  have hc := hw c (List.mem_cons_self ..)
  have hr : run isL (w ++ l) = w.length := by rw [run_app (fun x hx => hw x (List.mem_cons_of_mem _ hx)), run_stop hl]; rfl
  rw [List.cons_append, tok_let hc, hr]
  congr 1
  · congr 1
    rw [List.take_succ_cons, List.take_left']
    rfl
  · rw [List.drop_left' rfl, List.length_cons]
    congr 1; omega
theorem tok_num {c : Nat} {w l : List Nat} {p : Nat} (hw : ∀ x ∈ c :: w, isD x = true) (hl : ∀ x, l.head? = some x → isD x = false) :
    tok (c :: w ++ l) p = ⟨kNum, S (c :: w), p + 1⟩ :: tok l (p + (c :: w).length) := by
  have hc := hw c (List.mem_cons_self ..)
  have hr : run isD (w ++ l) = w.length := by rw [run_app (fun x hx => hw x (List.mem_cons_of_mem _ hx)), run_stop hl]; rfl
  rw [List.cons_append, tok_dig hc, hr]
  congr 1
  · congr 1
    rw [List.take_succ_cons, List.take_left']
    rfl
  · rw [List.drop_left' rfl, List.length_cons]
    congr 1; omega
end PV
namespace PV
open PySem

/-! ### the stack machine over tokens -/
def sOpen : Str := Str.ofString "("
def sShut : Str := Str.ofString ")"
theorem sOpen_S : sOpen = S [40] := by decide +kernel
theorem sShut_S : sShut = S [41] := by decide +kernel
/-- a number's text as a value -/
def asNum (z : Str) : Option PyData :=
  if 9 < z.length ∨ (1 < z.length ∧ z.cps.toList.head? = some 48) then none else some (.int ((intText? z).getD 0))
def singleK (k z : Str) : Option PyData :=
  if k = kNum then asNum z else if ¬ k = kWord ∨ 8 < z.length then none else some (.str z)
def single (t : Tk) : Option PyData := singleK t.kind t.text
theorem kWN : ¬ kWord = kNum := by decide +kernel
theorem kSN : ¬ kSign = kNum := by decide +kernel
theorem kSW : ¬ kSign = kWord := by decide +kernel
theorem kON : ¬ kOther = kNum := by decide +kernel
theorem kOW : ¬ kOther = kWord := by decide +kernel
theorem kEN : ¬ kEnd = kNum := by decide +kernel
theorem kEW : ¬ kEnd = kWord := by decide +kernel
inductive Nx where
  | more (st : List (List PyData))
  | done (d : PyData)
  | bad
  | many
def putN (d : PyData) : List (List PyData) → Nx
  | [] => .done d
  | top :: r => .more ((top ++ [d]) :: r)
def stepT (t : Tk) (st : List (List PyData)) : Nx :=
  if t.kind = kSign ∧ t.text = sOpen then (if 12 ≤ st.length then .many else .more ([] :: st))
  else match st, decide (t.kind = kSign ∧ t.text = sShut) with
    | top :: r, true => putN (.tuple top) r
    | st, _ => match single t with
      | none => .bad
      | some d => putN d st
inductive Out where
  | val (d : PyData) (rest : List Tk)
  | bad (col : Int)
  | many
def rd : List Tk → List (List PyData) → Out
  | [], _ => .bad 0
  | t :: ts, st => match stepT t st with
    | .more st' => rd ts st'
    | .done d => .val d ts
    | .bad => .bad t.col
    | .many => .many
inductive Res where
  | val (d : PyData)
  | bad (col : Int)
  | many
def rdAll (ts : List Tk) : Res := match rd ts [] with
  | .val d [] => .val d
  | .val d (t :: _) => if t.kind = kEnd then .val d else .bad t.col
  | .bad c => .bad c
  | .many => .many

/-! ### the law's machine over pieces -/
def worth (p : Str) : Option PyData :=
  if (p.cps.toList.filter isD).length = p.length then
    (if 9 < p.length ∨ (1 < p.length ∧ p.cps.toList.head? = some 48) then none else some (.int ((intText? p).getD 0)))
  else if (p.cps.toList.filter isL).length = p.length ∧ p.length ≤ 8 then some (.str p) else none
def stepP (p : Str) (st : List (List PyData)) : Nx :=
  if p = sOpen then (if 12 ≤ st.length then .many else .more ([] :: st))
  else match st, decide (p = sShut) with
    | top :: r, true => putN (.tuple top) r
    | st, _ => match worth p with
      | none => .bad
      | some d => putN d st
def due (behind : Int) : List (Str × Int) → List (List PyData) → Res
  | [], _ => .bad behind
  | (p, c) :: r, st => match stepP p st with
    | .more st' => due behind r st'
    | .done d => (match r with
      | [] => .val d
      | (_, c') :: _ => .bad c')
    | .bad => .bad c
    | .many => .many

/-- a piece is one token -/
def pk (p : Str) : Str := match p.cps.toList with
  | [] => kOther
  | c :: _ => if isL c then kWord else if isD c then kNum else if isS c then kSign else kOther
inductive POk : Str → Prop where
  | word (c : Nat) (w : List Nat) : (∀ x ∈ c :: w, isL x = true) → POk (S (c :: w))
  | num (c : Nat) (w : List Nat) : (∀ x ∈ c :: w, isD x = true) → POk (S (c :: w))
  | sig (c : Nat) : isS c = true → POk (S [c])
  | oth (c : Nat) : ¬ c = 32 → isL c = false → isD c = false → isS c = false → POk (S [c])
theorem L_notD {c : Nat} (h : isL c = true) : isD c = false := by
  cases e : isD c with
  | false => rfl
  | true => rw [isL_iff] at h; rw [isD_iff] at e; omega
theorem D_notL {c : Nat} (h : isD c = true) : isL c = false := by
  cases e : isL c with
  | false => rfl
  | true => rw [isD_iff] at h; rw [isL_iff] at e; omega
theorem S_notL {c : Nat} (h : isS c = true) : isL c = false := by
  cases e : isL c with
  | false => rfl
  | true => rw [isS_iff] at h; rw [isL_iff] at e; omega
theorem S_notD {c : Nat} (h : isS c = true) : isD c = false := by
  cases e : isD c with
  | false => rfl
  | true => rw [isS_iff] at h; rw [isD_iff] at e; omega
theorem pk_word {c : Nat} {w : List Nat} (h : ∀ x ∈ c :: w, isL x = true) : pk (S (c :: w)) = kWord := by
  unfold pk
  rw [S_toList]
  show (if isL c then kWord else _) = kWord
  rw [if_pos (h c (List.mem_cons_self ..))]
theorem pk_num {c : Nat} {w : List Nat} (h : ∀ x ∈ c :: w, isD x = true) : pk (S (c :: w)) = kNum := by
  unfold pk
  rw [S_toList]
  show (if isL c then kWord else if isD c then kNum else _) = kNum
  have hc := h c (List.mem_cons_self ..)
  rw [if_neg (by rw [D_notL hc]; exact Bool.false_ne_true), if_pos hc]
theorem pk_sig {c : Nat} (h : isS c = true) : pk (S [c]) = kSign := by
  unfold pk
  rw [S_toList]
  show (if isL c then kWord else if isD c then kNum else if isS c then kSign else _) = kSign
  rw [if_neg (by rw [S_notL h]; exact Bool.false_ne_true), if_neg (by rw [S_notD h]; exact Bool.false_ne_true), if_pos h]
theorem pk_oth {c : Nat} (h1 : isL c = false) (h2 : isD c = false) (h3 : isS c = false) : pk (S [c]) = kOther := by
  unfold pk
  rw [S_toList]
  show (if isL c then kWord else if isD c then kNum else if isS c then kSign else _) = kOther
  rw [h1, h2, h3]; rfl
theorem filter_all {al : Nat → Bool} {l : List Nat} (h : ∀ x ∈ l, al x = true) : (l.filter al).length = l.length := by
  rw [List.filter_eq_self.mpr h]
theorem filter_none {al : Nat → Bool} {c : Nat} {w : List Nat} (h : al c = false) : ¬ ((c :: w).filter al).length = (c :: w).length := by
  rw [List.filter_cons, h]
  intro e
  have := List.length_filter_le al w
  simp only [Bool.false_eq_true, if_false, List.length_cons] at e
  omega
theorem single_worth {p : Str} (h : POk p) (c : Int) : single ⟨pk p, p, c⟩ = worth p := by
  show singleK (pk p) p = worth p
  cases h with
  | word a w hw =>
    have ha := hw a (List.mem_cons_self ..)
    unfold singleK worth
    rw [pk_word hw, if_neg kWN, S_toList, S_len, if_neg (filter_none (L_notD ha)), filter_all hw]
    by_cases h8 : (a :: w).length ≤ 8
    · rw [if_neg (by intro q; rcases q with q | q; exact q rfl; omega), if_pos ⟨rfl, h8⟩]
    · rw [if_pos (.inr (by omega)), if_neg (by intro q; exact h8 q.2)]
  | num a w hw =>
    unfold singleK worth asNum
    rw [pk_num hw, if_pos rfl, S_toList, filter_all hw, S_len, if_pos rfl]
  | sig a ha =>
    unfold singleK worth
    rw [pk_sig ha, if_neg kSN, if_pos (.inl kSW), S_toList, S_len, if_neg (filter_none (S_notD ha)), if_neg (fun q => filter_none (S_notL ha) q.1)]
  | oth a h0 h1 h2 h3 =>
    unfold singleK worth
    rw [pk_oth h1 h2 h3, if_neg kON, if_pos (.inl kOW), S_toList, S_len, if_neg (filter_none h2), if_neg (fun q => filter_none h1 q.1)]
theorem sign_iff {p : Str} (h : POk p) {c : Nat} (hc : isS c = true) : (pk p = kSign ∧ p = S [c]) ↔ p = S [c] := by
  refine ⟨fun q => q.2, fun q => ⟨?_, q⟩⟩
  rw [q]; exact pk_sig hc
theorem stepT_P {p : Str} (h : POk p) (c : Int) (st : List (List PyData)) : stepT ⟨pk p, p, c⟩ st = stepP p st := by
  have e1 : (pk p = kSign ∧ p = sOpen) ↔ p = sOpen := by rw [sOpen_S]; exact sign_iff h (by decide +kernel)
  have e2 : (pk p = kSign ∧ p = sShut) ↔ p = sShut := by rw [sShut_S]; exact sign_iff h (by decide +kernel)
  unfold stepT stepP
  have e3 : decide (pk p = kSign ∧ p = sShut) = decide (p = sShut) := decide_eq_decide.mpr e2
  simp only [e1, e3, single_worth h c]
/-- the tokens of a row of pieces -/
def tks (ps : List (Str × Int)) : List Tk := ps.map fun x => ⟨pk x.1, x.1, x.2⟩
theorem pk_end {p : Str} : ¬ pk p = kEnd := by
  unfold pk
  repeat' split
  all_goals decide +kernel
theorem single_end (z : Str) (c : Int) : single ⟨kEnd, z, c⟩ = none := by
  show singleK kEnd z = none
  unfold singleK
  rw [if_neg kEN, if_pos (.inl kEW)]
theorem stepT_end (c : Int) (st : List (List PyData)) : stepT ⟨kEnd, Str.ofString "", c⟩ st = .bad := by
  unfold stepT
  have e1 : ¬ (kEnd = kSign ∧ Str.ofString "" = sOpen) := by decide +kernel
  have e2 : decide (kEnd = kSign ∧ Str.ofString "" = sShut) = false := by decide +kernel
  simp only [if_neg e1, e2, single_end]
theorem rd_due (behind : Int) : ∀ (ps : List (Str × Int)) (st : List (List PyData)), (∀ x ∈ ps, POk x.1) →
    (match rd (tks ps ++ [⟨kEnd, Str.ofString "", behind⟩]) st with
      | .val d [] => Res.val d
      | .val d (t :: _) => if t.kind = kEnd then .val d else .bad t.col
      | .bad c => .bad c
      | .many => .many) = due behind ps st
  | [], st, _ => by
    show (match rd [⟨kEnd, Str.ofString "", behind⟩] st with
      | .val d [] => Res.val d
      | .val d (t :: _) => if t.kind = kEnd then .val d else .bad t.col
      | .bad c => .bad c
      | .many => .many) = .bad behind
    unfold rd
    rw [stepT_end]
  | (p, c) :: r, st, h => by
    have hp := h (p, c) (List.mem_cons_self ..)
    have ih := rd_due behind r
    show (match rd (⟨pk p, p, c⟩ :: (tks r ++ [⟨kEnd, Str.ofString "", behind⟩])) st with
      | .val d [] => Res.val d
      | .val d (t :: _) => if t.kind = kEnd then .val d else .bad t.col
      | .bad c => .bad c
      | .many => .many) = due behind ((p, c) :: r) st
    unfold rd due
    rw [stepT_P hp c st]
    cases hs : stepP p st with
    | more st' => exact ih st' fun x hx => h x (List.mem_cons_of_mem _ hx)
    | done d =>
      cases r with
      | nil => rfl
      | cons q r =>
        obtain ⟨q1, q2⟩ := q
        show (if pk q1 = kEnd then Res.val d else Res.bad q2) = Res.bad q2
        rw [if_neg pk_end]
    | bad => rfl
    | many => rfl
theorem rdAll_due (behind : Int) (ps : List (Str × Int)) (h : ∀ x ∈ ps, POk x.1) : rdAll (tks ps ++ [⟨kEnd, Str.ofString "", behind⟩]) = due behind ps [] := rd_due behind ps [] h
end PV
namespace PV
open PySem TL

/-! ### a text of pieces with gaps -/
/-- l does not go on with p -/
def Clear (p : Str) (l : List Nat) : Prop := pk p = kWord ∨ pk p = kNum → ∀ c, l.head? = some c → isL c = false ∧ isD c = false
theorem tok_piece {p : Str} (h : POk p) {l : List Nat} (hc : Clear p l) (q : Nat) : tok (tl p ++ l) q = ⟨pk p, p, q + 1⟩ :: tok l (q + p.length) := by
  cases h with
  | word a w hw =>
    rw [pk_word hw, S_len]
    exact tok_word hw fun c e => (hc (.inl (pk_word hw)) c e).1
  | num a w hw =>
    rw [pk_num hw, S_len]
    exact tok_num hw fun c e => (hc (.inr (pk_num hw)) c e).2
  | sig a ha =>
    rw [pk_sig ha, S_len]
    exact tok_sig ha
  | oth a h0 h1 h2 h3 =>
    rw [pk_oth h1 h2 h3, S_len]
    exact tok_oth h0 h1 h2 h3
/-- the text so far is these pieces at these columns; last: the piece at its very end, if no blank stands behind it -/
def Built (text : Str) (ps : List (Str × Int)) (last : Option Str) : Prop :=
  ∀ l, (∀ p, last = some p → Clear p l) → tok (tl text ++ l) 0 = tks ps ++ tok l text.length
theorem rep_tl (n : Nat) : tl (S (List.replicate n 32)) = List.replicate n 32 := rfl
theorem built_start (n : Nat) : Built (S (List.replicate n 32)) [] none := fun l _ => by
  rw [rep_tl, tok_blanks, S_len, List.length_replicate]
  show _ = [] ++ _
  rw [List.nil_append, Nat.zero_add]
theorem built_step {text p : Str} {ps : List (Str × Int)} {last : Option Str} {gap : Nat} (hb : Built text ps last) (hp : POk p) (hl : ∀ q l, last = some q → Clear q (tl p ++ l)) :
    Built (text ++ p ++ S (List.replicate gap 32)) (ps ++ [(p, (text.length : Int) + 1)]) (if gap = 0 then some p else none) := fun l hc => by
  have e : tl (text ++ p ++ S (List.replicate gap 32)) ++ l = tl text ++ (tl p ++ (List.replicate gap 32 ++ l)) := by
    rw [tl_append, tl_append, rep_tl, List.append_assoc, List.append_assoc]
  rw [e, hb _ (fun q hq => hl q _ hq), tok_piece hp ?_, tok_blanks]
  · have e2 : (text ++ p ++ S (List.replicate gap 32)).length = text.length + p.length + gap := by
      rw [len_tl, tl_append, tl_append, rep_tl, List.length_append, List.length_append, List.length_replicate, ← len_tl, ← len_tl]
    rw [e2, tks, tks, List.map_append, List.append_assoc]
    rfl
  · by_cases hg : gap = 0
    · subst hg
      exact hc p (by rw [if_pos rfl])
    · obtain ⟨n, rfl⟩ : ∃ n, gap = n + 1 := ⟨gap - 1, by omega⟩
      intro _ c hcc
      rw [List.replicate_succ, List.cons_append] at hcc
      have : (32 : Nat) = c := Option.some.inj hcc
      subst this
      exact ⟨by decide +kernel, by decide +kernel⟩
theorem built_end {text : Str} {ps : List (Str × Int)} {last : Option Str} (hb : Built text ps last) : tok (tl text) 0 = tks ps := by
  have h := hb [] fun p _ _ c hc => by cases hc
  rw [List.append_nil, tok_nil, List.append_nil] at h
  exact h
/-- the joint of two pieces without a blank -/
theorem clear_any {q : Str} (h1 : ¬ pk q = kWord) (h2 : ¬ pk q = kNum) (l : List Nat) : Clear q l := fun h => by
  rcases h with h | h
  · exact (h1 h).elim
  · exact (h2 h).elim
theorem clear_head {q p : Str} (hp : POk p) (h1 : ¬ pk p = kWord) (h2 : ¬ pk p = kNum) (l : List Nat) : Clear q (tl p ++ l) := fun _ c hc => by
  cases hp with
  | word a w hw => exact (h1 (pk_word hw)).elim
  | num a w hw => exact (h2 (pk_num hw)).elim
  | sig a ha =>
    have : a = c := Option.some.inj hc
    subst this
    exact ⟨S_notL ha, S_notD ha⟩
  | oth a h0 h1' h2' h3 =>
    have : a = c := Option.some.inj hc
    subst this
    exact ⟨h1', h2'⟩
def pokB (p : Str) : Bool := match p.cps.toList with
  | [] => false
  | c :: w => (c :: w).all isL || (c :: w).all isD || (w.isEmpty && (isS c || (c != 32 && !isL c && !isD c && !isS c)))
theorem pok_of {p : Str} (h : pokB p = true) : POk p := by
  unfold pokB at h
  cases e : p.cps.toList with
  | nil => rw [e] at h; cases h
  | cons c w =>
    rw [e] at h
    have ep : p = S (c :: w) := by rw [← S_of p, e]
    rw [ep]
    simp only [Bool.or_eq_true, Bool.and_eq_true, List.all_eq_true, List.isEmpty_iff] at h
    rcases h with (h | h) | ⟨hw, h | h⟩
    · exact .word c w h
    · exact .num c w h
    · subst hw; exact .sig c h
    · subst hw
      obtain ⟨⟨⟨h0, h1⟩, h2⟩, h3⟩ := h
      exact .oth c (by simpa using h0) (by simpa using h1) (by simpa using h2) (by simpa using h3)

/-! ### a plain value's text, read back -/
mutual
def txt : PyData → Str
  | .tuple ds => Str.ofString "(" ++ Str.join (Str.ofString " ") (txtAll ds) ++ Str.ofString ")"
  | .int i => Str.ofString (toString i)
  | .str s => s
  | _ => Str.empty
def txtAll : List PyData → List Str
  | [] => []
  | d :: ds => txt d :: txtAll ds
end
/-- a number whose text is read back -/
structure NumOk (i : Int) : Prop where
  dig : ∃ c w, Str.ofString (toString i) = S (c :: w) ∧ (∀ x ∈ c :: w, isD x = true) ∧ (c :: w).length ≤ 9 ∧ (1 < (c :: w).length → ¬ c = 48)
  val : intText? (Str.ofString (toString i)) = some i
  log : i.natAbs.log2 < 1920
structure NameOk (s : Str) : Prop where
  ok : ∃ c w, s = S (c :: w) ∧ (∀ x ∈ c :: w, isL x = true) ∧ (c :: w).length ≤ 8
mutual
/-- a plain value nested at most n deep -/
def Plain : Nat → PyData → Prop
  | _, .int i => NumOk i
  | _, .str s => NameOk s
  | 0, .tuple _ => False
  | n + 1, .tuple ds => PlainAll n ds
  | _, _ => False
def PlainAll : Nat → List PyData → Prop
  | _, [] => True
  | n, d :: ds => Plain n d ∧ PlainAll n ds
end
/-- what comes of a value that is read at a stack -/
def putR (d : PyData) (st : List (List PyData)) (rest : List Tk) : Out := match st with
  | [] => .val d rest
  | top :: r => rd rest ((top ++ [d]) :: r)
theorem rd_put {t : Tk} {ts : List Tk} {st st' : List (List PyData)} {d : PyData} (h : stepT t st = putN d st') : rd (t :: ts) st = putR d st' ts := by
  unfold rd
  rw [h]
  cases st' with
  | nil => rfl
  | cons top r => rfl
theorem stepT_one {k z : Str} {c : Int} {st : List (List PyData)} {d : PyData} (hk : ¬ k = kSign) (hs : singleK k z = some d) : stepT ⟨k, z, c⟩ st = putN d st := by
  unfold stepT
  have e1 : ¬ (k = kSign ∧ z = sOpen) := fun q => hk q.1
  have e2 : decide (k = kSign ∧ z = sShut) = false := decide_eq_false fun q => hk q.1
  have e3 : single ⟨k, z, c⟩ = some d := hs
  simp only [if_neg e1, e2, e3]
theorem stepT_open {c : Int} {st : List (List PyData)} (h : st.length < 12) : stepT ⟨kSign, sOpen, c⟩ st = .more ([] :: st) := by
  unfold stepT
  rw [if_pos ⟨rfl, rfl⟩, if_neg (by omega)]
theorem stepT_shut {c : Int} {top : List PyData} {r : List (List PyData)} : stepT ⟨kSign, sShut, c⟩ (top :: r) = putN (.tuple top) r := by
  unfold stepT
  have e1 : ¬ (kSign = kSign ∧ sShut = sOpen) := by decide +kernel
  have e2 : decide (kSign = kSign ∧ sShut = sShut) = true := by decide +kernel
  show (if kSign = kSign ∧ sShut = sOpen then _ else _) = _
  rw [if_neg e1]
  show (match top :: r, decide (kSign = kSign ∧ sShut = sShut) with
    | top :: r, true => putN (.tuple top) r
    | st, _ => match single ⟨kSign, sShut, c⟩ with
      | none => Nx.bad
      | some d => putN d st) = _
  rw [e2]
def Edge (l : List Nat) : Prop := ∀ c, l.head? = some c → isL c = false ∧ isD c = false
theorem edge_nil : Edge [] := fun c h => by cases h
theorem edge_blank (l : List Nat) : Edge (32 :: l) := fun c h => by
  have e : 32 = c := Option.some.inj h
  subst e
  exact ⟨by decide +kernel, by decide +kernel⟩
theorem edge_shut (l : List Nat) : Edge (41 :: l) := fun c h => by
  have e : 41 = c := Option.some.inj h
  subst e
  exact ⟨by decide +kernel, by decide +kernel⟩
theorem txt_tuple (ds : List PyData) : tl (txt (.tuple ds)) = 40 :: (joinL [32] ((txtAll ds).map tl) ++ [41]) := by
  have e1 : tl (Str.ofString "(") = [40] := by decide +kernel
  have e2 : tl (Str.ofString ")") = [41] := by decide +kernel
  have e3 : tl (Str.ofString " ") = [32] := by decide +kernel
  rw [txt, tl_append, tl_append, tl_join, e1, e2, e3, List.append_assoc]
  rfl
def Reads (w : List Nat) (st : List (List PyData)) (R : List Tk → Out) : Prop :=
  ∀ (l : List Nat) (p : Nat), Edge l → ∃ ts, tok (w ++ l) p = ts ++ tok l (p + w.length) ∧ ∀ rest, rd (ts ++ rest) st = R rest
theorem reads_both : ∀ n : Nat,
    (∀ d st, Plain n d → st.length + n ≤ 12 → Reads (tl (txt d)) st (putR d st)) ∧
    (∀ ds acc st, PlainAll n ds → st.length + n + 1 ≤ 12 → Reads (joinL [32] ((txtAll ds).map tl)) (acc :: st) (fun rest => rd rest ((acc ++ ds) :: st))) := by
  have num : ∀ (i : Int) (st : List (List PyData)), NumOk i → Reads (tl (txt (.int i))) st (putR (.int i) st) := by
    intro i st h l p hl
    obtain ⟨c, w, e, hd, h9, h0⟩ := h.dig
    refine ⟨[⟨kNum, S (c :: w), p + 1⟩], ?_, fun rest => ?_⟩
    · rw [txt, e]
      exact tok_num hd fun x hx => (hl x hx).2
    · refine rd_put (stepT_one (by decide +kernel) ?_)
      unfold singleK asNum
      rw [if_pos rfl, if_neg ?_, ← e, h.val]
      · rfl
      · rw [S_len, S_toList]
        rintro (q | ⟨q1, q2⟩)
        · omega
        · exact h0 q1 (Option.some.inj q2)
  have nam : ∀ (s : Str) (st : List (List PyData)), NameOk s → Reads (tl (txt (.str s))) st (putR (.str s) st) := by
    intro s st h l p hl
    obtain ⟨c, w, e, hd, h8⟩ := h.ok
    refine ⟨[⟨kWord, S (c :: w), p + 1⟩], ?_, fun rest => ?_⟩
    · rw [txt, e]
      exact tok_word hd fun x hx => (hl x hx).1
    · refine rd_put (stepT_one (by decide +kernel) ?_)
      unfold singleK
      rw [if_neg kWN, if_neg ?_, e]
      rw [S_len]
      rintro (q | q)
      · exact q rfl
      · omega
  have many : ∀ n : Nat, (∀ d st, Plain n d → st.length + n ≤ 12 → Reads (tl (txt d)) st (putR d st)) →
      ∀ ds acc st, PlainAll n ds → st.length + n + 1 ≤ 12 → Reads (joinL [32] ((txtAll ds).map tl)) (acc :: st) (fun rest => rd rest ((acc ++ ds) :: st)) := by
    intro n one ds
    induction ds with
    | nil =>
      intro acc st _ _ l p _
      refine ⟨[], ?_, fun rest => ?_⟩
      · rfl
      · rw [List.append_nil]; rfl
    | cons d ds ih =>
      intro acc st hp hn l p hl
      obtain ⟨h1, h2⟩ := (by unfold PlainAll at hp; exact hp : Plain n d ∧ PlainAll n ds)
      have hd := one d (acc :: st) h1 (by simp only [List.length_cons]; omega)
      cases ds with
      | nil =>
        obtain ⟨ts, e1, e2⟩ := hd l p hl
        exact ⟨ts, e1, e2⟩
      | cons d' ds' =>
        have hj : joinL [32] ((txtAll (d :: d' :: ds')).map tl) = tl (txt d) ++ (32 :: joinL [32] ((txtAll (d' :: ds')).map tl)) := rfl
        obtain ⟨ts, e1, e2⟩ := hd (32 :: joinL [32] ((txtAll (d' :: ds')).map tl) ++ l) p (edge_blank _)
        obtain ⟨us, f1, f2⟩ := ih (acc ++ [d]) st h2 hn l (p + (tl (txt d)).length + 1) hl
        refine ⟨ts ++ us, ?_, fun rest => ?_⟩
        · rw [hj, List.append_assoc, e1, List.cons_append, tok_blank, f1, List.append_assoc]
          congr 3
          simp only [List.length_append, List.length_cons]
          omega
        · rw [List.append_assoc, e2]
          show rd (us ++ rest) ((acc ++ [d]) :: st) = _
          rw [f2, List.append_assoc]
          rfl
  intro n
  induction n with
  | zero =>
    have one : ∀ d st, Plain 0 d → st.length + 0 ≤ 12 → Reads (tl (txt d)) st (putR d st) := by
      intro d st hp hn
      cases d with
      | int i => exact num i st (by unfold Plain at hp; exact hp)
      | str s => exact nam s st (by unfold Plain at hp; exact hp)
      | tuple ds => unfold Plain at hp; exact hp.elim
      | _ => unfold Plain at hp; exact hp.elim
    exact ⟨one, many 0 one⟩
  | succ n ih =>
    have one : ∀ d st, Plain (n + 1) d → st.length + (n + 1) ≤ 12 → Reads (tl (txt d)) st (putR d st) := by
      intro d st hp hn
      cases d with
      | int i => exact num i st (by unfold Plain at hp; exact hp)
      | str s => exact nam s st (by unfold Plain at hp; exact hp)
      | tuple ds =>
        have hp' : PlainAll n ds := by unfold Plain at hp; exact hp
        intro l p hl
        obtain ⟨us, f1, f2⟩ := ih.2 ds [] st hp' (by omega) (41 :: l) (p + 1) (edge_shut l)
        refine ⟨⟨kSign, sOpen, p + 1⟩ :: (us ++ [⟨kSign, sShut, p + 1 + (joinL [32] ((txtAll ds).map tl)).length + 1⟩]), ?_, fun rest => ?_⟩
        · rw [txt_tuple, List.cons_append, List.append_assoc]
          show tok (40 :: (joinL [32] ((txtAll ds).map tl) ++ (41 :: l))) p = _
          rw [tok_sig (by decide +kernel), f1, tok_sig (by decide +kernel), sOpen_S, sShut_S]
          simp only [List.cons_append, List.append_assoc, List.nil_append]
          have ec : p + 1 + (joinL [32] ((txtAll ds).map tl)).length + 1 = p + (40 :: (joinL [32] ((txtAll ds).map tl) ++ [41])).length := by
            simp only [List.length_cons, List.length_append, List.length_nil]
            omega
          rw [ec]
          congr 3
        · show rd (⟨kSign, sOpen, p + 1⟩ :: (us ++ [_] ++ rest)) st = _
          unfold rd
          rw [stepT_open (by omega)]
          show rd (us ++ [_] ++ rest) ([] :: st) = _
          rw [List.append_assoc, f2]
          exact rd_put stepT_shut
      | _ => unfold Plain at hp; exact hp.elim
    exact ⟨one, many (n + 1) one⟩
/-- the text of a plain value is read as this value -/
theorem read_back {n : Nat} {d : PyData} (hp : Plain n d) (hn : n ≤ 12) (col : Int) : rdAll (tok (tl (txt d)) 0 ++ [⟨kEnd, Str.ofString "", col⟩]) = .val d := by
  obtain ⟨ts, e1, e2⟩ := (reads_both n).1 d [] hp (by simpa using hn) [] 0 edge_nil
  rw [List.append_nil, tok_nil, List.append_nil] at e1
  unfold rdAll
  rw [e1, e2]
  show (if kEnd = kEnd then Res.val d else _) = Res.val d
  rw [if_pos rfl]
end PV
namespace PV
open PySem PySem.Spec PyProof.Rows L2

/-- ' ' * n -/
def rMulS : R2 := fun x y H Q => ∃ (z : Str) (i : Int), x = .str z ∧ y = .int i ∧ z.length ≤ 16 ∧ 0 ≤ i ∧ i ≤ 1000 ∧ Q (.str (Txt.mul z i)) H
theorem op_mulS {X : Cx} : OpR X (binaryOp .Mult) rMulS := by
  intro pins s σ H x y u v Q I rx ry h
  obtain ⟨z, i, rfl, rfl, hz, h0, h1, q⟩ := h
  obtain ⟨t, rfl⟩ := rx
  obtain ⟨t', rfl⟩ := ry
  exact PySem.W.KXi.mul (n := z.length) rfl hz (by omega) (by omega) fun t2 k _ _ => ⟨.str _, H, I.tok _, ⟨_, rfl⟩, q⟩
theorem mul_blank (n : Nat) : Txt.mul (Str.ofString " ") (n : Int) = S (List.replicate n 32) := by
  have e : Str.ofString " " = S [32] := by decide +kernel
  have fold : ∀ (k : Nat) (acc : Array Nat), ((List.replicate k (#[32] : Array Nat)).foldl (· ++ ·) acc).toList = acc.toList ++ List.replicate k 32 := by
    intro k
    induction k with
    | zero => intro acc; simp
    | succ k ih =>
      intro acc
      rw [List.replicate_succ, List.foldl_cons, ih, List.replicate_succ]
      simp
  unfold Txt.mul
  rw [e]
  by_cases h0 : (n : Int) < 1
  · have : n = 0 := by omega
    subst this
    rw [if_pos h0]
    rfl
  · rw [if_neg h0]
    by_cases h1 : n = 1
    · subst h1
      rw [if_pos (by decide)]
      rfl
    · have hb : ((n : Int) == 1 || (S [32]).length == 0) = false := by
        have : ((n : Int) == 1) = false := by simpa using (show ¬ (n : Int) = 1 by omega)
        rw [this]; rfl
      rw [hb, if_neg Bool.false_ne_true]
      have := fold n #[]
      simp only [List.nil_append, Int.toNat_natCast] at this ⊢
      show (⟨_⟩ : Str) = ⟨(List.replicate n 32).toArray⟩
      congr 1
      apply Array.toList_inj.mp
      show (List.foldl (· ++ ·) #[] (List.replicate n (#[32] : Array Nat))).toList = _
      simpa using this
/-- repr of a tuple of data, where no other repr runs -/
def rRepr (K : PySem.W.Frag) : List V → Hp → VK → Prop := fun xs H Q => ∃ a d, xs = [.ref a] ∧ Dp K H (.ref a) d ∧ d.showable = true ∧ d.hasDict = false ∧ d.depth ≤ 64 ∧ d.shown.length ≤ sizeLine ∧ Q (.str d.shown) H
theorem call_repr {X : Cx} (hg : X.A.guards = some []) (hu : X.A.units + 100 < cLine) : CallR X (.builtin "repr") (rRepr X.K) := by
  intro pins s σ H xs us Q I r h
  obtain ⟨a, d, rfl, hd, hs, hn, hdp, hz, q⟩ := h
  obtain ⟨u, rfl, ru⟩ : ∃ u, us = [u] ∧ RelV (.ref a) u := by
    cases r with
    | cons r1 r2 => cases r2; exact ⟨_, rfl, r1⟩
  obtain rfl : u = Value.ref a := ru
  obtain ⟨as, hr⟩ := Dp.reads I d (.ref a) (.ref a) hd rfl
  exact repr_of_reads' hr hs (fun e => by rw [hn] at e; cases e) hg (by omega) (fun _ _ e => e) (fun h' u tk hk => ⟨.str d.shown, H, I.kept hk, ⟨u, rfl⟩, q⟩) hz
/-- str of an int or of a text -/
def rStrD : List V → Hp → VK → Prop := fun xs H Q => (∃ i, xs = [.int i] ∧ i.natAbs.log2 < 1920 ∧ Q (.str (toString i)) H) ∨ ∃ a, xs = [.str a] ∧ Q (.str a) H
theorem call_strD {X : Cx} : CallR X (.type "str") rStrD := CallR.or call_str_int SkE.call_str_str
end PV
namespace PV
open PySem PySem.Spec PyProof.Rows L2

/-! ### try with several clauses «except X as n» -/
/-- the wish of a row of clauses: class, slot of the name, suite -/
def wAsm (K : PySem.W.Frag) (Wout : WX) (D : Ends) : List (Value × Nat × (Addr → Value → Option Addr → TS)) → WX
  | [] => Wout
  | (c, i, ts) :: r => fun cls d σ H => ∃ b, PySem.W.exmOne K cls c = some b ∧
      (b = true → ∀ a, H a = none → ts a cls d ⟨fun σ' H' => D.nx (σ'.set i none) H', D.rt, fun σ' H' => D.bk (σ'.set i none) H', fun σ' H' => D.ct (σ'.set i none) H'⟩ (σ.set i (some (.ref a))) H) ∧
      (b = false → wAsm K Wout D r cls d σ H)
inductive HdA (X : Cx) : List ExceptHandler → List (Value × Nat × (Addr → Value → Option Addr → TS)) → Prop
  | nil : HdA X [] []
  | cons {x n : Str} {c : Value} {i : Nat} {ts : Addr → Value → Option Addr → TS} {b₀ : Stmt} {suite : List Stmt} {np pos' : Pos} {hds : List ExceptHandler} {l : List (Value × Nat × (Addr → Value → Option Addr → TS))}
      (hN : X.N.Nodup) (hi : X.N[i]? = some n) (hln : X.env.kindOf n = some .local) (hc : Names X x c)
      (hsu : ∀ (a : Addr) (oe : Obj) (cls : Value) (d : Option Addr) (pn : List (Addr × Obj)), Zc cls d oe → (∃ vs, oe.data = .fields vs) → PSs (X.suite a ((a, oe) :: pn)) (b₀ :: suite) (ts a cls d))
      (r : HdA X hds l) : HdA X (.ExceptHandler (some (.Name x np)) (some n) (b₀ :: suite) pos' :: hds) ((c, i, ts) :: l)
section
variable {X : Cx}
/-- a fall through the ends of a body that ran within the try -/
theorem sp_untry {pins : List (Addr × Obj)} {pn : List (Addr × Obj)} {xe : Value → Shared → Prop} {D : Ends} {f : Flow} {s : Shared} (un : ∀ {σ : L2.St} {H : Hp}, Inv (X.tr pn xe) [] σ H s → Inv X pins σ H s) (q : SP (X.tr pn xe) [] D f s) : SP X pins D f s := by
  cases f with
  | ret u => obtain ⟨v, σ1, H1, J, r, k⟩ := q; exact ⟨v, σ1, H1, un J, r, k⟩
  | next => obtain ⟨σ1, H1, J, k⟩ := q; exact ⟨σ1, H1, un J, k⟩
  | brk => obtain ⟨σ1, H1, J, k⟩ := q; exact ⟨σ1, H1, un J, k⟩
  | cont => obtain ⟨σ1, H1, J, k⟩ := q; exact ⟨σ1, H1, un J, k⟩
theorem ps_try_asm {body : List Stmt} {h₀ : ExceptHandler} {hds : List ExceptHandler} {l : List (Value × Nat × (Addr → Value → Option Addr → TS))} {pos : Pos} {tb : WX → TS} {Wout : WX}
    (hs : X.stack = X.env :: X.outer) (hf : X.env.frame = some X.env.locals) (tk : Takes X Wout)
    (hb : ∀ (W : WX) (pn : List (Addr × Obj)) (xe : Value → Shared → Prop), Takes (X.tr pn xe) W → PassesOwn (model X.prog X.w) X.A X.env xe → PSs (X.tr pn xe) body (tb W))
    (hh : HdA X (h₀ :: hds) l) : PS X (.Try body (h₀ :: hds) [] [] pos) (fun D σ H => tb (wAsm X.K Wout D l) D σ H) := by
  refine ⟨fun pins s σ H D I h => wpAny_Try_except ?_⟩
  have ok := I.ok
  have hfr : X.A.frames = some (X.env :: X.outer) := ok.frames.trans (congrArg some hs)
  refine wpAny_mono ((hb (wAsm X.K Wout D l) (X.pn ++ pins) (fun e s₁ => wpAny (model X.prog X.w) X.A (noteFrame e X.env) (fun _ s₂ => wpAny (model X.prog X.w) X.A (setFlight e none)
    (fun _ s₃ => wpAny (model X.prog X.w) X.A (handleBy e X.env (h₀ :: hds)) (SP X pins D) X.xe s₃) X.xe s₂) X.xe s₁) ?caught PassesOwn.looking).run [] s σ H D (I.toTry _) h) ?ends fun _ _ he => he
  case ends =>
    intro f s1 q
    have q' := sp_untry (X := X) (pins := pins) (fun J => J.ofTry ok) q
    cases f with
    | next => exact wpAny_execs_nil q'
    | ret u => exact q'
    | brk => exact q'
    | cont => exact q'
  case caught =>
    intro u s' xx
    obtain ⟨a, B, sI, pins', σ', H', cls, d, rfl, J0, nb, up, sky, na, os, ag, w⟩ := xx
    have J : Inv X pins σ' H' sI := J0.ofTry ok
    have sky1 : Sky B (X.env :: X.outer) a (Zc cls d) X.env.locals s'.heap := hs ▸ sky
    refine Sky.land Zc.steady hfr hf sky1 fun h3 fl3 up3 => ?_
    have J3 : Inv X pins σ' H' { s' with heap := h3 } := J.landed nb fl3.1 (up.trans up3) os ag
    obtain ⟨oe3, vs3, he3, hz3, hd3⟩ := fl3.there
    have nfr : a ∉ frs (X.env :: X.outer) := fun hm => by
      obtain ⟨_, o', e', hnf⟩ := fl3.2.2.1.mem hm
      cases he3.symm.trans e'
      exact hnf _ hd3
    have nL : a ≠ X.env.locals := fun z => nfr (List.mem_filterMap.mpr ⟨X.env, List.mem_cons_self, hf.trans (congrArg some z.symm)⟩)
    have nF : a ∉ X.fs := fun hm => by
      obtain ⟨e, he, q⟩ := List.mem_filterMap.mp hm
      exact nfr (List.mem_filterMap.mpr ⟨e, List.mem_cons_of_mem _ he, q⟩)
    have S3 := J3.suite he3 hd3 na nL nF
    have each : ∀ {hs' : List ExceptHandler} {l' : List (Value × Nat × (Addr → Value → Option Addr → TS))}, HdA X hs' l' → wAsm X.K Wout D l' cls d σ' H' →
        wpAny (model X.prog X.w) X.A (handleBy (.ref a) X.env hs') (SP X pins D) X.xe { s' with heap := h3 } := by
      intro hs' l' hk
      induction hk with
      | nil =>
        intro w
        refine wpAny_handleBy_nil ?_
        obtain ⟨k1, k2, k3, oe, vs, T, oT, ts', he, hz, hd, h1, hr⟩ := id fl3
        unfold PySem.passOn
        refine wpAny_bind (wpAny_field he hd h1 ?_)
        rw [if_neg (show ¬ ((Value.ref T == Value.none) = true) from by simp)]
        have out : wpAny (model X.prog X.w) X.A (setFlight (.ref a) X.env.frame) (fun _ s4 => wpAny (model X.prog X.w) X.A (throw (.ref a) : Sem Flow) (SP X pins D) X.xe s4) X.xe { s' with heap := h3 } := by
          rw [hf]
          exact HandSPX.setFlight_upZ fl3 fun h4 hh4 up4 => wpAny_throw (tk _ _ ⟨a, B, sI, pins, σ', H', cls, d, rfl, J, nb, (up.trans up3).trans up4, .inr (.inr (hs ▸ hh4)), na, os, ag, w⟩)
        first
          | exact wpAny_bind (wpAny_pure (wpAny_bind out))
          | exact wpAny_bind out
      | @cons x n c i ts b₀ suite np pos' hds2 l2 hN hi hln hc hsu r ih =>
        rintro ⟨b, hb1, hyes, hno⟩
        refine wpAny_handleBy_cons (codeAny_handlers_test ?_) (fun q => nomatch q)
        have LT : PySem.W.Looks (model X.prog X.w) h3 (typeOf (.ref a)) cls := fun A Q E s k q => wpAny_typeOf_ref (k _ _ he3) (hz3.1.symm ▸ q)
        have LM := PySem.W.exm_one (M := model X.prog X.w) J3.kIn LT hb1
        have named : ∀ {Q : Value → Shared → Prop} {E : Value → Shared → Prop}, Q c { s' with heap := h3 } → wpAny (model X.prog X.w) (X.A.mark (some (.ref a))) (eval (.Name x np) X.env) Q E { s' with heap := h3 } := fun {Q E} q => by
          obtain ⟨hg, hdbg, hm | ⟨hm, hv, hnn⟩⟩ := hc
          · exact ld_glob (X := X.suite a ((a, oe3) :: (X.pn ++ pins))) S3 hg hm q hdbg
          · exact ld_blt (X := X.suite a ((a, oe3) :: (X.pn ++ pins))) S3 hg hm hv q hnn hdbg
        refine named (LM.here ?_)
        cases b with
        | false => exact ih (hno rfl)
        | true =>
          refine codeAny_handlers_suite_as (HandSPX.lands_againZ fl3 fun h4 fl4 up4 => ?_)
          have J4 : Inv X pins σ' H' { s' with heap := h4 } := J.landed nb fl4.1 ((up.trans up3).trans up4) os ag
          obtain ⟨oe4, vs4, he4, hz4, hd4⟩ := fl4.there
          have S4 := J4.suite he4 hd4 na nL nF
          refine store_ok (X := X.suite a ((a, oe4) :: (X.pn ++ pins))) (v := .ref a) S4 hN hi (.inl hln) rfl (fun s5 S5 => ?_) (.inr hln)
          refine wpAny_mono ((hsu a oe4 cls d (X.pn ++ pins) hz4 ⟨_, hd4⟩).run [] s5 _ H' _ S5 (hyes rfl a na)) (fun f s6 q => ?_) (fun _ _ z => False.elim z)
          have done_ : ∀ {σ6 : L2.St} {H6 : Hp} {Q : Shared → Prop}, Inv (X.suite a ((a, oe4) :: (X.pn ++ pins))) [] σ6 H6 s6 → (∀ s7, Inv X pins (σ6.set i none) H6 s7 → Q s7) →
              wpAny (model X.prog X.w) X.A (do bindName X.env n .none; unbindBehindTheSuite X.env n pos') (fun _ s7 => Q s7) X.xe s6 := fun S6 hq => gone_ok (S6.unsuite ok) hN hi hln hq
          cases f with
          | ret u => obtain ⟨v6, σ6, H6, S6, r6, q6⟩ := q; exact done_ S6 fun s7 J7 => ⟨_, _, _, J7, r6, q6⟩
          | next => obtain ⟨σ6, H6, S6, q6⟩ := q; exact done_ S6 fun s7 J7 => ⟨_, _, J7, q6⟩
          | brk => obtain ⟨σ6, H6, S6, q6⟩ := q; exact done_ S6 fun s7 J7 => ⟨_, _, J7, q6⟩
          | cont => obtain ⟨σ6, H6, S6, q6⟩ := q; exact done_ S6 fun s7 J7 => ⟨_, _, J7, q6⟩
    exact each hh w
end
end PV
namespace PV
open PySem PySem.Spec PyProof.Rows L2

/-! ### the law's own def, entered by the claim's caller alone (its guards are known there) -/
/-- what the law's def keeps where the caller is the claim's -/
structure LawAt (P : Program) (w : World) (K : PySem.W.Frag) (mg : Str → Option Value) (base : Heap) (CX : CXT) (fa : Addr) (fd : FuncData) (x : Str) (sp : Sp) : Prop where
  go : ∀ (s : Shared) (H : Hp) (args : Args) (u : Value) (v : V) (Q : VK) (E : XK), Env0 P w K mg base callerA [] s H → BindsTo s fd args [(x, u)] → RelV v u → sp [v] H Q E →
    codeAny (model P w) callerA (.call (.ref fa) args) (CR CX [] P w H s Q E) s
section
variable {P : Program} {w : World} {K : PySem.W.Frag} {mg : Str → Option Value} {base : Heap} {CX : CXT} {fa : Addr} {x : Str} {sp : Sp}
theorem law_at {name qual : Str} {params : Arguments} {body : List Stmt} {scope : Scope} {dV kV doc pm cdv ct oc : Value} {an od : Option Addr} {osl : Array (Option Value)} {N : List Str} {k : Nat}
    (lk : K.lookup fa = some ⟨oc, od, .func (PySem.W.fnOf name qual params body scope dV kV doc pm an cdv ct), osl⟩) (hcd : PySem.W.codeIn K cdv qual = true) (S : FnScope N [x] scope) (hr : Room (k + 1) callerA)
    (hbody : ∀ (s : Shared) (H : Hp) (v : V) (Q : VK) (E : XK), Room k (callerA.deeper (envOfC qual scope s.heap.objs.size fa cdv)) → sp [v] H Q E →
      ∃ t, PSs (cxOf CX P w K mg base N qual scope fa cdv callerA [] s H E) body t ∧ t { nx := fun _ H' => Q .non H', rt := Q } (start N [v]) H) :
    LawAt P w K mg base CX fa (PySem.W.fnOf name qual params body scope dV kV doc pm an cdv ct) x sp := by
  constructor
  intro s H args u v Q E e0 hb r hsp
  have grow : ∀ b o, base.get? b = some o → s.heap.get? b = some o := fun b o e => (e0.bs b o e).1
  have KX := e0.mod.kin.keeps grow
  have par : scope.names.lookup x = some .local ∨ scope.names.lookup x = some .cell := S.par x (List.mem_singleton.mpr rfl)
  refine codeAny_call_function hr.depth (KX _ _ lk) rfl S.co S.gen rfl (PySem.W.codeRec_of KX hcd) (hb _ _ _ _ ?_)
  refine wpAny_newFunctionEnv_cells S.kind (fun y hy => ?_) fun env he s1 z => ?_
  · obtain rfl := List.mem_singleton.mp hy
    exact par.imp_right fun q => ⟨q, PySem.W.cellsFrom_some _ _ _ (.inl q)⟩
  subst he
  refine ⟨(e0.mod.nolimit.keeps grow).keeps z.toInCall.keep, codeAny_func ?_⟩
  obtain ⟨t, ht, hq⟩ := hbody s H v Q E (hr.deeper _) hsp
  have vv : Vals [v] [u] := .cons r .nil
  refine wpAny_mono (ht.run [] s1 (start N [v]) H _ (inv_start S hr.hd e0 rfl vv z) hq) (fun fl s' hs => ?_) fun _ _ hs => hs
  cases fl with
  | ret y => obtain ⟨y', σ', H', J, ry, q⟩ := hs; exact ⟨y', H', J.os, J.bare, J.base, J.hok, ry, q⟩
  | next => obtain ⟨σ', H', J, q⟩ := hs; exact ⟨V.non, H', J.os, J.bare, J.base, J.hok, rfl, q⟩
  | brk => obtain ⟨_, _, _, q⟩ := hs; exact False.elim q
  | cont => obtain ⟨_, _, _, q⟩ := hs; exact False.elim q
/-- what may be tracked at the law's entry: the script alone -/
theorem law_go {mb : Str → Option Value} {a : Addr} {fd : FuncData} {s₁ : Shared} {vs : List Value} {H : Hp}
    (KX : K.In s₁.heap) (hns : s₁.heap.Ns mainGlobals mg) (hb : s₁.heap.Ns builtinsNs mb) (hbb : ∀ x : Str, x ≠ "__name__" → mb x = bootBuiltins x) (hlim : s₁.heap.NoLimit) (hg : s₁.gens = #[])
    (ha : s₁.heap.get? a = some { cls := .type "list", data := .seq vs.toArray })
    (F : ∀ base : Heap, K.In base → base.Ns mainGlobals mg → LawAt P w K mg base CX fa fd x sp) (hbind : ∀ (s : Shared) (u : Value), BindsTo s fd ⟨[u], []⟩ [(x, u)])
    (hO : Only H) (hok : HOk P w H s₁.heap) (hA : ∀ b, H b ≠ none → b = a ∧ K.lookup a = none)
    (hsp : sp [.ref a] H (fun v _ => v = .bl true) fun _ _ _ => False) (hCX : ∀ H e s', CX [] H s₁ (fun _ _ _ => False) e s' → False) :
    codeAny (model P w) callerA (.call (.ref fa) ⟨[.ref a], []⟩) (fun r s' => r = .ok (.ret (.bool true)) ∧ OldK s₁.heap s'.heap ∧ s'.os = s₁.os ∧ AllBare s'.gens) s₁ := by
  have untracked : ∀ {b : Addr}, (H b ≠ none → False) → H b = none := fun {b} h => Classical.byContradiction h
  have into : ∀ {b : Addr} {o : Obj}, s₁.heap.get? b = some o → (H b ≠ none → False) → (hidT s₁.heap H).get? b = some o := fun e n => hidT_get e (untracked n)
  have ns_into : ∀ {b : Addr} {m : Str → Option Value}, s₁.heap.Ns b m → (hidT s₁.heap H).Ns b m := by
    rintro b m ⟨o, es, ep, e, d, r⟩
    refine ⟨o, es, ep, into e fun z => ?_, d, r⟩
    obtain ⟨rfl, -⟩ := hA b z
    cases ha.symm.trans e
    have d' : Data.seq vs.toArray _ = Data.dict es ep := d
    cases d'
  have hKb : K.In (hidT s₁.heap H) := fun b o e => into (KX b o e) fun z => by
    obtain ⟨rfl, n⟩ := hA b z
    cases n.symm.trans e
  have hM : Mod K mg (hidT s₁.heap H) := ⟨hKb, ns_into hns, ⟨mb, ns_into hb, hbb⟩, hlim.elim fun mc q => ⟨mc, ns_into q.1, q.2⟩⟩
  have nil_mem : ∀ {b : Addr}, b ∈ ([] : List Addr) → False := fun z => nomatch z
  have e0 : Env0 P w K mg (hidT s₁.heap H) callerA [] s₁ H :=
    { frames := rfl, mod := hM, bs := fun b o e => of_hidT e, bsz := Nat.le_of_eq (hidT_size _ _), funs := trivial, frf := fun b z => (nil_mem z).elim, hok := hok, bare := .of_eq hg }
  refine codeAny_mono ((F _ hKb (ns_into hns)).go s₁ H ⟨[.ref a], []⟩ (.ref a) (.ref a) _ _ e0 (hbind s₁ (.ref a)) rfl hsp) fun r s' h => ?_
  cases r with
  | error e => exact (hCX H e s' h).elim
  | ok fl =>
    cases fl with
    | next => exact False.elim h
    | brk => exact False.elim h
    | cont => exact False.elim h
    | ret u =>
      obtain ⟨v, H', os, bare, un, hok', ru, q⟩ := h
      have q' : v = .bl true := q
      subst q'
      obtain rfl : u = Value.bool true := ru
      refine ⟨rfl, OldK.of_keep fun b o e => ?_, os, bare⟩
      rcases hO b with z | ⟨ob, xs, z⟩
      · exact un.keep b o e z (fun y => nil_mem y) (fun y => nil_mem y)
      · obtain ⟨e1, -⟩ := hok b _ z
        obtain ⟨e2, -⟩ := hok' b _ (un.frzs b ob _ z)
        cases e.symm.trans e1
        exact e2
theorem law_entry {mb : Str → Option Value} {a : Addr} {fd : FuncData} {s₁ : Shared} {vs : List Value} {ns : List Int}
    (KX : K.In s₁.heap) (hns : s₁.heap.Ns mainGlobals mg) (hb : s₁.heap.Ns builtinsNs mb) (hbb : ∀ x : Str, x ≠ "__name__" → mb x = bootBuiltins x) (hlim : s₁.heap.NoLimit) (hg : s₁.gens = #[])
    (ha : s₁.heap.get? a = some { cls := .type "list", data := .seq vs.toArray }) (hi : IntsAre vs ns) (hl : ns.length ≤ sizeLine)
    (F : ∀ base : Heap, K.In base → base.Ns mainGlobals mg → LawAt P w K mg base CX fa fd x sp) (hbind : ∀ (s : Shared) (u : Value), BindsTo s fd ⟨[u], []⟩ [(x, u)])
    (hsp : ∀ H : Hp, Only H → SqL K H a (ns.map V.int) → sp [.ref a] H (fun v _ => v = .bl true) fun _ _ _ => False) (hCX : ∀ H e s', CX [] H s₁ (fun _ _ _ => False) e s' → False) :
    codeAny (model P w) callerA (.call (.ref fa) ⟨[.ref a], []⟩) (fun r s' => r = .ok (.ret (.bool true)) ∧ OldK s₁.heap s'.heap ∧ s'.os = s₁.os ∧ AllBare s'.gens) s₁ := by
  have rv := vals_ints hi
  by_cases hk : K.lookup a = none
  · let o : Obj := { cls := .type "list", data := .seq vs.toArray }
    let H : Hp := fun b => if b = a then some (.frz o (.lst (ns.map V.int))) else none
    have at_ : ∀ b u, H b = some u → b = a ∧ u = .frz o (.lst (ns.map V.int)) := fun b u z => by
      by_cases hba : b = a
      · exact ⟨hba, (Option.some.inj ((if_pos hba).symm.trans z)).symm⟩
      · exact absurd ((if_neg hba).symm.trans z) (fun q => nomatch q)
    have only : Only H := fun b => by
      by_cases hba : b = a
      · exact .inr ⟨_, _, if_pos hba⟩
      · exact .inl (if_neg hba)
    refine law_go (H := H) KX hns hb hbb hlim hg ha F hbind only (fun b u z => ?_) (fun b z => ?_) (hsp H only (.inl (.inr ⟨o, if_pos rfl⟩))) hCX
    · obtain ⟨rfl, rfl⟩ := at_ b u z
      exact ⟨ha, by rw [List.length_map]; exact hl, vs, _, rv, ha⟩
    · cases q : H b with
      | none => exact absurd q z
      | some u => exact ⟨(at_ b u q).1, hk⟩
  · obtain ⟨o, ho⟩ := Option.ne_none_iff_exists'.mp hk
    cases ha.symm.trans (KX a o ho)
    have only : Only (fun _ => none) := fun _ => .inl rfl
    refine law_go (H := fun _ => none) KX hns hb hbb hlim hg ha F hbind only (fun b u z => nomatch (show (none : Option HO) = some u from z)) (fun b z => absurd rfl z)
      (hsp _ only (.inr ⟨_, vs.toArray, _, ho, rfl, rfl, rfl, ?_, by simpa using rv⟩)) hCX
    rw [List.size_toArray, hi.length]
    exact hl
end
theorem law_walk {l : PySem.W.OpenLaw} {n : Nat} {q : Program} {loose : List Str} {XP : (Str → Option Value) → Heap → Prop} {YP : World → Heap → Prop} {d : DefRec} {K : Params → PySem.W.Frag} {CX : World → CXT} {sp : World → Sp} {x : Str}
    (hn : l.most = some n) (hn2 : n ≤ sizeLine) (hdf : d.params.defaults = []) (hY : ∀ (w : World) (h : Heap), YP w h → (K w.params).In h)
    (F : ∀ (w : World) (mg : Str → Option Value) (fa : Addr) (h : Heap), (K w.params).In h → h.Ns mainGlobals mg → mg d.name = some (.ref fa) →
      ∃ fd : FuncData, (∀ (s : Shared) (u : Value), BindsTo s fd ⟨[u], []⟩ [(x, u)]) ∧ ∀ base : Heap, (K w.params).In base → base.Ns mainGlobals mg → LawAt l.prog w (K w.params) mg base (CX w) fa fd x (sp w))
    (hsp : ∀ (w : World) (H : Hp) (a : Addr) (ns : List Int), ns.length ≤ n → Only H → SqL (K w.params) H a (ns.map V.int) → sp w [.ref a] H (fun v _ => v = .bl true) fun _ _ _ => False)
    (hCX : ∀ (w : World) (H : Hp) (s : Shared) (e : Value) (s' : Shared), CX w [] H s (fun _ _ _ => False) e s' → False) :
    PySem.W.WalkO q loose XP YP l.row.toRowW d [] (fun f vs => PySem.call f vs) :=
  Att.attach_call hn hdf fun w s₀ s₁ mg mb fa o pm cd doc a vs ns G Y ho hd hcd hmg hobj hints hlen hg => by
    obtain ⟨fd, hb, hF⟩ := F w mg fa _ (hY w _ Y) G.T.g hmg
    exact law_entry (hY w _ Y) G.T.g G.T.b G.T.builtins G.T.nolimit hg hobj hints (Nat.le_trans hlen hn2) hF hb (fun H hO hS => hsp w H a ns hlen hO hS) fun H e s' => hCX w H s₁ e s'
/-- the same, the promise by the written part alone -/
theorem law_walkK {l : PySem.W.OpenLaw} {n : Nat} {q : Program} {loose : List Str} {XP : (Str → Option Value) → Heap → Prop} {YP : World → Heap → Prop} {d : DefRec} {K : Params → PySem.W.Frag} {CX : CXT} {sp : PySem.W.Frag → Sp} {x : Str}
    (hn : l.most = some n) (hn2 : n ≤ sizeLine) (hdf : d.params.defaults = []) (hY : ∀ (w : World) (h : Heap), YP w h → (K w.params).In h)
    (F : ∀ (w : World) (mg : Str → Option Value) (fa : Addr) (h : Heap), (K w.params).In h → h.Ns mainGlobals mg → mg d.name = some (.ref fa) →
      ∃ fd : FuncData, (∀ (s : Shared) (u : Value), BindsTo s fd ⟨[u], []⟩ [(x, u)]) ∧ ∀ base : Heap, (K w.params).In base → base.Ns mainGlobals mg → LawAt l.prog w (K w.params) mg base CX fa fd x (sp (K w.params)))
    (hsp : ∀ (K : PySem.W.Frag) (H : Hp) (a : Addr) (ns : List Int), ns.length ≤ n → Only H → SqL K H a (ns.map V.int) → sp K [.ref a] H (fun v _ => v = .bl true) fun _ _ _ => False)
    (hCX : ∀ (H : Hp) (s : Shared) (e : Value) (s' : Shared), CX [] H s (fun _ _ _ => False) e s' → False) :
    PySem.W.WalkO q loose XP YP l.row.toRowW d [] (fun f vs => PySem.call f vs) :=
  law_walk (CX := fun _ => CX) (sp := fun w => sp (K w.params)) hn hn2 hdf hY F (fun w => hsp (K w.params)) fun _ => hCX
end PV
namespace PV
open PySem PySem.Spec PyProof.Rows L2

/-! ### defs by name -/
/-- the text's def x stands in the module -/
def Fn (K : PySem.W.Frag) (mg : Str → Option Value) (x : Str) (st : Stmt) (ps : List Str) : Prop :=
  ∃ f fd, mg x = some (.ref f) ∧ Fun K x x st f fd ∧ Binds K fd ps []
/-- the class at C has the method m -/
def Mt (K : PySem.W.Frag) (C : Addr) (m qual : Str) (st : Stmt) (ps : List Str) : Prop :=
  ∃ f fd, Meth K C m f ∧ Fun K m qual st f fd ∧ Binds K fd ps []
/-- the module's def x keeps the promise sp -/
def Has (P : Program) (w : World) (K : PySem.W.Frag) (mg : Str → Option Value) (base : Heap) (CX : CXT) (k : Nat) (x : Str) (ps : List Str) (sp : Sp) : Prop :=
  ∃ f fd, mg x = some (.ref f) ∧ PySem.W.keepIn K (.ref f) = true ∧ Binds K fd ps [] ∧ FnOk P w K mg base CX k f fd ps sp
def HasM (P : Program) (w : World) (K : PySem.W.Frag) (mg : Str → Option Value) (base : Heap) (CX : CXT) (k : Nat) (C : Addr) (m : Str) (ps : List Str) (sp : Sp) : Prop :=
  Cls K C ∧ ∃ f fd, Meth K C m f ∧ Binds K fd ps [] ∧ FnOk P w K mg base CX k f fd ps sp
section
variable {P : Program} {w : World} {K : PySem.W.Frag} {mg : Str → Option Value} {base : Heap} {CX : CXT} {j k : Nat} {C : Addr} {x m : Str} {ps : List Str} {sp : Sp}
theorem Has.mono (h : Has P w K mg base CX j x ps sp) (l : j ≤ k) : Has P w K mg base CX k x ps sp := by
  obtain ⟨f, fd, a, b, c, d⟩ := h
  exact ⟨f, fd, a, b, c, d.mono l⟩
theorem HasM.mono (h : HasM P w K mg base CX j C m ps sp) (l : j ≤ k) : HasM P w K mg base CX k C m ps sp := by
  obtain ⟨cl, f, fd, a, c, d⟩ := h
  exact ⟨cl, f, fd, a, c, d.mono l⟩
theorem has_of {st : Stmt} (h : Fn K mg x st ps) (ok : ∀ f fd, Fun K x x st f fd → FnOk P w K mg base CX k f fd ps sp) : Has P w K mg base CX k x ps sp := by
  obtain ⟨f, fd, a, b, c⟩ := h
  exact ⟨f, fd, a, b.kp, c, ok f fd b⟩
theorem hasM_of {qual : Str} {st : Stmt} (cl : Cls K C) (h : Mt K C m qual st ps) (ok : ∀ f fd, Fun K m qual st f fd → FnOk P w K mg base CX k f fd ps sp) : HasM P w K mg base CX k C m ps sp := by
  obtain ⟨f, fd, a, b, c⟩ := h
  exact ⟨cl, f, fd, a, c, ok f fd b⟩
end
section
variable {X : Cx} {k : Nat} {C : Addr} {ps : List Str} {sp : Sp} {x m : Str} {p pos apos : Pos} {e o : Expr} {es : List Expr} {ta : TE} {t : TA} {E : XK} {W : WX}
/-- f(e, ..), f raises nothing -/
theorem pe_c0 (h : Has X.prog X.w X.K X.mg X.base CX0 k x ps sp) (hr : Room k X.A) (hg : Gl X x) (ha : PA X (e :: es) t) (hdb : (x == ("__debug__" : Str)) = false := by decide)
    (he : starEach (e :: es) X.env = (false, eval e X.env) :: starEach es X.env := by rfl) (hpl : (backTo pos (starEach es X.env)).any (·.1) = false := by rfl) : PE X (.Call (.Name x p) (e :: es) [] pos) (tCall sp [] E0 t) := by
  obtain ⟨f, fd, a, b, c, d⟩ := h
  exact pe_call d hr hg a b c .nil pass0 ha hdb he hpl
/-- f(e, ..), what f raises goes where the caller wishes -/
theorem pe_cx (h : Has X.prog X.w X.K X.mg X.base (L2.CX X.prog X.w) k x ps sp) (tk : Takes X W) (hr : Room k X.A) (hg : Gl X x) (ha : PA X (e :: es) t) (hdb : (x == ("__debug__" : Str)) = false := by decide)
    (he : starEach (e :: es) X.env = (false, eval e X.env) :: starEach es X.env := by rfl) (hpl : (backTo pos (starEach es X.env)).any (·.1) = false := by rfl) : PE X (.Call (.Name x p) (e :: es) [] pos) (tCallS sp (WE W) t) := by
  obtain ⟨f, fd, a, b, c, d⟩ := h
  exact pe_callS d hr hg a b c (fun σ => passAt tk σ) ha hdb he hpl
theorem pe_m0 {pl : Sem Bool} (h : HasM X.prog X.w X.K X.mg X.base CX0 k C m ps sp) (hr : Room k X.A) (ho : PE X o ta)
    (ht : eval (.Call (.Attribute o m apos) [] [] pos) X.env = (do
      let ov ← eval o X.env
      standAt apos.atName
      let (f, first) ← holding [ov] (getMethod ov m pl)
      callWith pos f first (backTo pos (starEach [] X.env)) (backToKw pos (keywordEach [] X.env))) := by rfl) : PE X (.Call (.Attribute o m apos) [] [] pos) (tMeth C m sp [] E0 ta tNil) := by
  obtain ⟨cl, f, fd, a, c, d⟩ := h
  exact pe_meth0 ho cl a d hr c .nil pass0 ht
theorem pe_m {pl : Sem Bool} (h : HasM X.prog X.w X.K X.mg X.base CX0 k C m ps sp) (hr : Room k X.A) (ho : PE X o ta) (ha : PA X (e :: es) t)
    (hst : starEach (e :: es) X.env = (false, eval e X.env) :: starEach es X.env := by rfl) (hpl : (backTo pos (starEach es X.env)).any (·.1) = false := by rfl)
    (ht : eval (.Call (.Attribute o m apos) (e :: es) [] pos) X.env = (do
      let ov ← eval o X.env
      standAt apos.atName
      let (f, first) ← holding [ov] (getMethod ov m pl)
      callWith pos f first (backTo pos (starEach (e :: es) X.env)) (backToKw pos (keywordEach [] X.env))) := by rfl) : PE X (.Call (.Attribute o m apos) (e :: es) [] pos) (tMeth C m sp [] E0 ta t) := by
  obtain ⟨cl, f, fd, a, c, d⟩ := h
  exact pe_meth ho cl a d hr c .nil pass0 ha hst hpl ht
theorem pe_m0x {pl : Sem Bool} (h : HasM X.prog X.w X.K X.mg X.base (L2.CX X.prog X.w) k C m ps sp) (tk : Takes X (fun cls d _ H => E cls d H)) (hr : Room k X.A) (ho : PE X o ta)
    (ht : eval (.Call (.Attribute o m apos) [] [] pos) X.env = (do
      let ov ← eval o X.env
      standAt apos.atName
      let (f, first) ← holding [ov] (getMethod ov m pl)
      callWith pos f first (backTo pos (starEach [] X.env)) (backToKw pos (keywordEach [] X.env))) := by rfl) : PE X (.Call (.Attribute o m apos) [] [] pos) (tMeth C m sp [] E ta tNil) := by
  obtain ⟨cl, f, fd, a, c, d⟩ := h
  exact pe_meth0 ho cl a d hr c .nil (passes_call tk fun _ _ _ _ h => h) ht
/-- the module's constants -/
theorem pe_gs {z : Str} (h : ∃ t, X.mg x = some (.str z t)) (hg : Gl X x) (hd : (x == ("__debug__" : Str)) = false := by decide) : PE X (.Name x pos) (tC (.str z)) := by
  obtain ⟨t, h⟩ := h
  exact pe_glob hg h ⟨t, rfl⟩ hd
theorem pe_gi {i : Int} (h : ∃ t, X.mg x = some (.int i t)) (hg : Gl X x) (hd : (x == ("__debug__" : Str)) = false := by decide) : PE X (.Name x pos) (tC (.int i)) := by
  obtain ⟨t, h⟩ := h
  exact pe_glob hg h ⟨t, rfl⟩ hd
end
end PV
namespace PV
open PySem PySem.Spec PyProof.Rows L2
def top (i : Nat) : Stmt := PySem.Challenge.pw_porterlodge_k81_plain_values.main.body.getD i (.Pass ⟨0, 0, 0, 0⟩)
abbrev s_BadText___init__ : Stmt := inClass (top 3) 0
abbrev n_BadText___init__ : List Str := ["self", "line", "column"]
theorem sc_BadText___init__ : FnScope n_BadText___init__ ["self", "line", "column"] (defScope s_BadText___init__) := ⟨rfl, rfl, rfl, by decide +kernel, rfl, by decide +kernel, by decide +kernel⟩
abbrev s_TooMany___init__ : Stmt := inClass (top 4) 0
abbrev n_TooMany___init__ : List Str := ["self", "limit"]
theorem sc_TooMany___init__ : FnScope n_TooMany___init__ ["self", "limit"] (defScope s_TooMany___init__) := ⟨rfl, rfl, rfl, by decide +kernel, rfl, by decide +kernel, by decide +kernel⟩
abbrev s_run_end : Stmt := top 9
abbrev n_run_end : List Str := ["text", "place", "allowed"]
theorem sc_run_end : FnScope n_run_end ["text", "place", "allowed"] (defScope s_run_end) := ⟨rfl, rfl, rfl, by decide +kernel, rfl, by decide +kernel, by decide +kernel⟩
abbrev s_all_tokens : Stmt := top 10
abbrev n_all_tokens : List Str := ["text", "found", "place", "sign", "behind", "kind"]
theorem sc_all_tokens : FnScope n_all_tokens ["text"] (defScope s_all_tokens) := ⟨rfl, rfl, rfl, by decide +kernel, rfl, by decide +kernel, by decide +kernel⟩
abbrev s_Reader___init__ : Stmt := inClass (top 11) 0
abbrev n_Reader___init__ : List Str := ["self", "tokens", "line"]
theorem sc_Reader___init__ : FnScope n_Reader___init__ ["self", "tokens", "line"] (defScope s_Reader___init__) := ⟨rfl, rfl, rfl, by decide +kernel, rfl, by decide +kernel, by decide +kernel⟩
abbrev s_Reader_peek : Stmt := inClass (top 11) 1
abbrev n_Reader_peek : List Str := ["self"]
theorem sc_Reader_peek : FnScope n_Reader_peek ["self"] (defScope s_Reader_peek) := ⟨rfl, rfl, rfl, by decide +kernel, rfl, by decide +kernel, by decide +kernel⟩
abbrev s_Reader_take : Stmt := inClass (top 11) 2
abbrev n_Reader_take : List Str := ["self", "token"]
theorem sc_Reader_take : FnScope n_Reader_take ["self"] (defScope s_Reader_take) := ⟨rfl, rfl, rfl, by decide +kernel, rfl, by decide +kernel, by decide +kernel⟩
abbrev s_Reader_next_is : Stmt := inClass (top 11) 3
abbrev n_Reader_next_is : List Str := ["self", "kind", "text", "token"]
theorem sc_Reader_next_is : FnScope n_Reader_next_is ["self", "kind", "text"] (defScope s_Reader_next_is) := ⟨rfl, rfl, rfl, by decide +kernel, rfl, by decide +kernel, by decide +kernel⟩
abbrev s_Reader_fail : Stmt := inClass (top 11) 4
abbrev n_Reader_fail : List Str := ["self"]
theorem sc_Reader_fail : FnScope n_Reader_fail ["self"] (defScope s_Reader_fail) := ⟨rfl, rfl, rfl, by decide +kernel, rfl, by decide +kernel, by decide +kernel⟩
abbrev s_Reader_ask_end : Stmt := inClass (top 11) 6
abbrev n_Reader_ask_end : List Str := ["self"]
theorem sc_Reader_ask_end : FnScope n_Reader_ask_end ["self"] (defScope s_Reader_ask_end) := ⟨rfl, rfl, rfl, by decide +kernel, rfl, by decide +kernel, by decide +kernel⟩
abbrev s_write_plain : Stmt := top 16
abbrev n_write_plain : List Str := ["plain", "part"]
theorem sc_write_plain : FnScope n_write_plain ["plain"] (defScope s_write_plain) := ⟨rfl, rfl, rfl, by decide +kernel, rfl, by decide +kernel, by decide +kernel⟩
abbrev s_read_single : Stmt := top 17
abbrev n_read_single : List Str := ["reader", "kind", "text", "_"]
theorem sc_read_single : FnScope n_read_single ["reader"] (defScope s_read_single) := ⟨rfl, rfl, rfl, by decide +kernel, rfl, by decide +kernel, by decide +kernel⟩
abbrev s_read_value : Stmt := top 18
abbrev n_read_value : List Str := ["reader", "stack", "plain"]
theorem sc_read_value : FnScope n_read_value ["reader"] (defScope s_read_value) := ⟨rfl, rfl, rfl, by decide +kernel, rfl, by decide +kernel, by decide +kernel⟩
abbrev s_read_plain : Stmt := top 19
abbrev n_read_plain : List Str := ["text", "reader", "plain"]
theorem sc_read_plain : FnScope n_read_plain ["text"] (defScope s_read_plain) := ⟨rfl, rfl, rfl, by decide +kernel, rfl, by decide +kernel, by decide +kernel⟩
abbrev s_law_begin : Stmt := top 21
abbrev n_law_begin : List Str := ["script", "great", "cell", "seed"]
theorem sc_law_begin : FnScope n_law_begin ["script"] (defScope s_law_begin) := ⟨rfl, rfl, rfl, by decide +kernel, rfl, by decide +kernel, by decide +kernel⟩
abbrev s_law_draw : Stmt := top 22
abbrev n_law_draw : List Str := ["d", "many", "great", "digit"]
theorem sc_law_draw : FnScope n_law_draw ["d", "many"] (defScope s_law_draw) := ⟨rfl, rfl, rfl, by decide +kernel, rfl, by decide +kernel, by decide +kernel⟩
abbrev s_law_piece : Stmt := top 23
abbrev n_law_piece : List Str := ["d", "kind"]
theorem sc_law_piece : FnScope n_law_piece ["d"] (defScope s_law_piece) := ⟨rfl, rfl, rfl, by decide +kernel, rfl, by decide +kernel, by decide +kernel⟩
abbrev s_law_worth : Stmt := top 24
abbrev n_law_worth : List Str := ["piece", "figures", "sign", "letters"]
theorem sc_law_worth : FnScope n_law_worth ["piece"] (defScope s_law_worth) := ⟨rfl, rfl, rfl, by decide +kernel, rfl, by decide +kernel, by decide +kernel⟩
abbrev s_law_due : Stmt := top 25
abbrev n_law_due : List Str := ["pieces", "columns", "behind", "stack", "done", "place", "piece", "worth"]
theorem sc_law_due : FnScope n_law_due ["pieces", "columns", "behind"] (defScope s_law_due) := ⟨rfl, rfl, rfl, by decide +kernel, rfl, by decide +kernel, by decide +kernel⟩
abbrev s_law_told : Stmt := top 26
abbrev n_law_told : List Str := ["text", "e"]
theorem sc_law_told : FnScope n_law_told ["text"] (defScope s_law_told) := ⟨rfl, rfl, rfl, by decide +kernel, rfl, by decide +kernel, by decide +kernel⟩
abbrev s_law_value_of : Stmt := top 27
abbrev n_law_value_of : List Str := ["d", "depth", "kind", "k"]
theorem sc_law_value_of : FnScope n_law_value_of ["d", "depth"] (defScope s_law_value_of) := ⟨rfl, rfl, rfl, by decide +kernel, rfl, by decide +kernel, by decide +kernel⟩
abbrev s_law_deep : Stmt := top 28
abbrev n_law_deep : List Str := ["d", "many", "thing", "k"]
theorem sc_law_deep : FnScope n_law_deep ["d", "many"] (defScope s_law_deep) := ⟨rfl, rfl, rfl, by decide +kernel, rfl, by decide +kernel, by decide +kernel⟩
abbrev s_law_plain_text : Stmt := top 29
abbrev n_law_plain_text : List Str := ["thing", "part"]
theorem sc_law_plain_text : FnScope n_law_plain_text ["thing"] (defScope s_law_plain_text) := ⟨rfl, rfl, rfl, by decide +kernel, rfl, by decide +kernel, by decide +kernel⟩
abbrev s_law : Stmt := top 30
abbrev n_law : List Str := ["script", "d", "pieces", "k", "many", "text", "columns", "place", "piece", "gap", "thing", "told", "due"]
theorem sc_law : FnScope n_law ["script"] (defScope s_law) := ⟨rfl, rfl, rfl, by decide +kernel, rfl, by decide +kernel, by decide +kernel⟩
/-- what the top has left -/
structure Txt (K : PySem.W.Frag) (mg : Str → Option Value) (C_BadText C_TooMany C_Reader : Addr) : Prop where
  b_enumerate : mg "enumerate" = none
  b_int : mg "int" = none
  b_isinstance : mg "isinstance" = none
  b_len : mg "len" = none
  b_max : mg "max" = none
  b_range : mg "range" = none
  b_repr : mg "repr" = none
  b_str : mg "str" = none
  b_tuple : mg "tuple" = none
  c_LETTERS : ∃ t, mg "LETTERS" = some (.str "abcdefghijklmnopqrstuvwxyz" t)
  c_DIGITS : ∃ t, mg "DIGITS" = some (.str "0123456789" t)
  c_SIGNS : ∃ t, mg "SIGNS" = some (.str "&|!()=:;+-." t)
  c_MOST_DIGITS : ∃ t, mg "MOST_DIGITS" = some (.int 9 t)
  c_MOST_LETTERS : ∃ t, mg "MOST_LETTERS" = some (.int 8 t)
  c_MOST_DEEP : ∃ t, mg "MOST_DEEP" = some (.int 12 t)
  g_BadText : mg "BadText" = some (.ref C_BadText)
  x_BadText : OexC K C_BadText
  xf_BadText : XfC K C_BadText
  xm_BadText : PySem.W.subIn K (.ref C_BadText) (.type "BaseException") = some true ∧ PySem.W.isClsIn K C_BadText = true ∧ PySem.W.typeIn K (.ref C_BadText) = some (.type "type")
  n_BadText_line : PySem.W.findIn K (.ref C_BadText) "line" = some none
  n_BadText_column : PySem.W.findIn K (.ref C_BadText) "column" = some none
  g_TooMany : mg "TooMany" = some (.ref C_TooMany)
  x_TooMany : OexC K C_TooMany
  xf_TooMany : XfC K C_TooMany
  xm_TooMany : PySem.W.subIn K (.ref C_TooMany) (.type "BaseException") = some true ∧ PySem.W.isClsIn K C_TooMany = true ∧ PySem.W.typeIn K (.ref C_TooMany) = some (.type "type")
  n_TooMany_limit : PySem.W.findIn K (.ref C_TooMany) "limit" = some none
  g_Reader : mg "Reader" = some (.ref C_Reader)
  k_Reader : Cls K C_Reader
  mk_Reader : PySem.W.makesIn K C_Reader = true ∧ PySem.W.keepIn K (.ref C_Reader) = true
  n_Reader_tokens : PySem.W.findIn K (.ref C_Reader) "tokens" = some none
  n_Reader_number : PySem.W.findIn K (.ref C_Reader) "number" = some none
  n_Reader_place : PySem.W.findIn K (.ref C_Reader) "place" = some none
  n_Reader_nodes : PySem.W.findIn K (.ref C_Reader) "nodes" = some none
  n_Reader_nested : PySem.W.findIn K (.ref C_Reader) "nested" = some none
  s_BadText_BadText : PySem.W.subIn K (.ref C_BadText) (.ref C_BadText) = some true
  s_BadText_TooMany : PySem.W.subIn K (.ref C_BadText) (.ref C_TooMany) = some false
  s_TooMany_BadText : PySem.W.subIn K (.ref C_TooMany) (.ref C_BadText) = some false
  s_TooMany_TooMany : PySem.W.subIn K (.ref C_TooMany) (.ref C_TooMany) = some true
  d_BadText___init__ : ∃ f fd, PySem.W.findIn K (.ref C_BadText) "__init__" = some (some (.ref f)) ∧ PySem.W.typeIn K (.ref f) = some (.type "function") ∧ Fun K "__init__" "BadText.__init__" s_BadText___init__ f fd ∧ Binds K fd ["self", "line", "column"] []
  d_TooMany___init__ : ∃ f fd, PySem.W.findIn K (.ref C_TooMany) "__init__" = some (some (.ref f)) ∧ PySem.W.typeIn K (.ref f) = some (.type "function") ∧ Fun K "__init__" "TooMany.__init__" s_TooMany___init__ f fd ∧ Binds K fd ["self", "limit"] []
  d_run_end : Fn K mg "run_end" s_run_end ["text", "place", "allowed"]
  d_all_tokens : Fn K mg "all_tokens" s_all_tokens ["text"]
  d_Reader___init__ : Mt K C_Reader "__init__" "Reader.__init__" s_Reader___init__ ["self", "tokens", "line"]
  d_Reader_peek : Mt K C_Reader "peek" "Reader.peek" s_Reader_peek ["self"]
  d_Reader_take : Mt K C_Reader "take" "Reader.take" s_Reader_take ["self"]
  d_Reader_next_is : Mt K C_Reader "next_is" "Reader.next_is" s_Reader_next_is ["self", "kind", "text"]
  d_Reader_fail : Mt K C_Reader "fail" "Reader.fail" s_Reader_fail ["self"]
  d_Reader_ask_end : Mt K C_Reader "ask_end" "Reader.ask_end" s_Reader_ask_end ["self"]
  d_write_plain : Fn K mg "write_plain" s_write_plain ["plain"]
  d_read_single : Fn K mg "read_single" s_read_single ["reader"]
  d_read_value : Fn K mg "read_value" s_read_value ["reader"]
  d_read_plain : Fn K mg "read_plain" s_read_plain ["text"]
  d_law_begin : Fn K mg "_law_begin" s_law_begin ["script"]
  d_law_draw : Fn K mg "_law_draw" s_law_draw ["d", "many"]
  d_law_piece : Fn K mg "_law_piece" s_law_piece ["d"]
  d_law_worth : Fn K mg "_law_worth" s_law_worth ["piece"]
  d_law_due : Fn K mg "_law_due" s_law_due ["pieces", "columns", "behind"]
  d_law_told : Fn K mg "_law_told" s_law_told ["text"]
  d_law_value_of : Fn K mg "_law_value_of" s_law_value_of ["d", "depth"]
  d_law_deep : Fn K mg "_law_deep" s_law_deep ["d", "many"]
  d_law_plain_text : Fn K mg "_law_plain_text" s_law_plain_text ["thing"]
theorem txt_mk {K : PySem.W.Frag} {h : Heap} {mg : Str → Option Value} {f_BadText___init__ f_TooMany___init__ f_run_end f_all_tokens f_Reader___init__ f_Reader_peek f_Reader_take f_Reader_next_is f_Reader_fail f_Reader_ask_end f_write_plain f_read_single f_read_value f_read_plain f_law_begin f_law_draw f_law_piece f_law_worth f_law_due f_law_told f_law_value_of f_law_deep f_law_plain_text : Addr} {C_BadText C_TooMany C_Reader : Addr} {oc_BadText___init__ kV_BadText___init__ dc_BadText___init__ pm_BadText___init__ cd_BadText___init__ ct_BadText___init__ oc_TooMany___init__ kV_TooMany___init__ dc_TooMany___init__ pm_TooMany___init__ cd_TooMany___init__ ct_TooMany___init__ oc_run_end kV_run_end dc_run_end pm_run_end cd_run_end ct_run_end oc_all_tokens kV_all_tokens dc_all_tokens pm_all_tokens cd_all_tokens ct_all_tokens oc_Reader___init__ kV_Reader___init__ dc_Reader___init__ pm_Reader___init__ cd_Reader___init__ ct_Reader___init__ oc_Reader_peek kV_Reader_peek dc_Reader_peek pm_Reader_peek cd_Reader_peek ct_Reader_peek oc_Reader_take kV_Reader_take dc_Reader_take pm_Reader_take cd_Reader_take ct_Reader_take oc_Reader_next_is kV_Reader_next_is dc_Reader_next_is pm_Reader_next_is cd_Reader_next_is ct_Reader_next_is oc_Reader_fail kV_Reader_fail dc_Reader_fail pm_Reader_fail cd_Reader_fail ct_Reader_fail oc_Reader_ask_end kV_Reader_ask_end dc_Reader_ask_end pm_Reader_ask_end cd_Reader_ask_end ct_Reader_ask_end oc_write_plain kV_write_plain dc_write_plain pm_write_plain cd_write_plain ct_write_plain oc_read_single kV_read_single dc_read_single pm_read_single cd_read_single ct_read_single oc_read_value kV_read_value dc_read_value pm_read_value cd_read_value ct_read_value oc_read_plain kV_read_plain dc_read_plain pm_read_plain cd_read_plain ct_read_plain oc_law_begin kV_law_begin dc_law_begin pm_law_begin cd_law_begin ct_law_begin oc_law_draw kV_law_draw dc_law_draw pm_law_draw cd_law_draw ct_law_draw oc_law_piece kV_law_piece dc_law_piece pm_law_piece cd_law_piece ct_law_piece oc_law_worth kV_law_worth dc_law_worth pm_law_worth cd_law_worth ct_law_worth oc_law_due kV_law_due dc_law_due pm_law_due cd_law_due ct_law_due oc_law_told kV_law_told dc_law_told pm_law_told cd_law_told ct_law_told oc_law_value_of kV_law_value_of dc_law_value_of pm_law_value_of cd_law_value_of ct_law_value_of oc_law_deep kV_law_deep dc_law_deep pm_law_deep cd_law_deep ct_law_deep oc_law_plain_text kV_law_plain_text dc_law_plain_text pm_law_plain_text cd_law_plain_text ct_law_plain_text : Value} {od_BadText___init__ an_BadText___init__ od_TooMany___init__ an_TooMany___init__ od_run_end an_run_end od_all_tokens an_all_tokens od_Reader___init__ an_Reader___init__ od_Reader_peek an_Reader_peek od_Reader_take an_Reader_take od_Reader_next_is an_Reader_next_is od_Reader_fail an_Reader_fail od_Reader_ask_end an_Reader_ask_end od_write_plain an_write_plain od_read_single an_read_single od_read_value an_read_value od_read_plain an_read_plain od_law_begin an_law_begin od_law_draw an_law_draw od_law_piece an_law_piece od_law_worth an_law_worth od_law_due an_law_due od_law_told an_law_told od_law_value_of an_law_value_of od_law_deep an_law_deep od_law_plain_text an_law_plain_text : Option Addr} {sl_BadText___init__ sl_TooMany___init__ sl_run_end sl_all_tokens sl_Reader___init__ sl_Reader_peek sl_Reader_take sl_Reader_next_is sl_Reader_fail sl_Reader_ask_end sl_write_plain sl_read_single sl_read_value sl_read_plain sl_law_begin sl_law_draw sl_law_piece sl_law_worth sl_law_due sl_law_told sl_law_value_of sl_law_deep sl_law_plain_text : Array (Option Value)} {t_LETTERS t_DIGITS t_SIGNS t_MOST_DIGITS t_MOST_LETTERS t_MOST_DEEP : Tok} {nm_BadText q_BadText : Str} {N_BadText : Addr} {bs_BadText bm_BadText sub_BadText : List Value} {sn_BadText : List Str} {ab_BadText_ : Bool} {col_BadText : Option Bool} {dd_BadText : Option Addr} {m0_BadText m1_BadText m2_BadText m3_BadText m5_BadText : Option Value} {nm_TooMany q_TooMany : Str} {N_TooMany : Addr} {bs_TooMany bm_TooMany sub_TooMany : List Value} {sn_TooMany : List Str} {ab_TooMany_ : Bool} {col_TooMany : Option Bool} {dd_TooMany : Option Addr} {m0_TooMany m1_TooMany m2_TooMany m3_TooMany m5_TooMany : Option Value} (X : K.In h) (G : h.Ns mainGlobals mg)
    (ab_enumerate : PySem.W.nsIn K mainGlobals "enumerate" = some none)
    (ab_int : PySem.W.nsIn K mainGlobals "int" = some none)
    (ab_isinstance : PySem.W.nsIn K mainGlobals "isinstance" = some none)
    (ab_len : PySem.W.nsIn K mainGlobals "len" = some none)
    (ab_max : PySem.W.nsIn K mainGlobals "max" = some none)
    (ab_range : PySem.W.nsIn K mainGlobals "range" = some none)
    (ab_repr : PySem.W.nsIn K mainGlobals "repr" = some none)
    (ab_str : PySem.W.nsIn K mainGlobals "str" = some none)
    (ab_tuple : PySem.W.nsIn K mainGlobals "tuple" = some none)
    (ac_LETTERS : PySem.W.nsIn K mainGlobals "LETTERS" = some (some (.str "abcdefghijklmnopqrstuvwxyz" t_LETTERS)))
    (ac_DIGITS : PySem.W.nsIn K mainGlobals "DIGITS" = some (some (.str "0123456789" t_DIGITS)))
    (ac_SIGNS : PySem.W.nsIn K mainGlobals "SIGNS" = some (some (.str "&|!()=:;+-." t_SIGNS)))
    (ac_MOST_DIGITS : PySem.W.nsIn K mainGlobals "MOST_DIGITS" = some (some (.int 9 t_MOST_DIGITS)))
    (ac_MOST_LETTERS : PySem.W.nsIn K mainGlobals "MOST_LETTERS" = some (some (.int 8 t_MOST_LETTERS)))
    (ac_MOST_DEEP : PySem.W.nsIn K mainGlobals "MOST_DEEP" = some (some (.int 12 t_MOST_DEEP)))
    (ag_BadText : PySem.W.nsIn K mainGlobals "BadText" = some (some (.ref C_BadText)))
    (xl_BadText : K.lookup C_BadText = some (excClassObj nm_BadText q_BadText C_BadText N_BadText bs_BadText bm_BadText true sn_BadText sub_BadText ab_BadText_ col_BadText dd_BadText m0_BadText m1_BadText m2_BadText m3_BadText m5_BadText "ValueError.__new__"))
    (xr_BadText : PySem.HandSPX.refsVE bm_BadText = true)
    (sa_BadText : PySem.W.findIn K (.ref C_BadText) "__setattr__" = some (some (.builtin "object.__setattr__")))
    (ga_BadText : PySem.W.findIn K (.ref C_BadText) "__getattribute__" = some (some (.builtin "BaseException.__getattribute__")))
    (gg_BadText : PySem.W.findIn K (.ref C_BadText) "__getattr__" = some none)
    (eC_BadText : PySem.W.subIn K (.ref C_BadText) (.type "BaseException") = some true)
    (tC_BadText : PySem.W.typeIn K (.ref C_BadText) = some (.type "type"))
    (kC_BadText : PySem.W.keepIn K (.ref C_BadText) = true)
    (hC_BadText : PySem.W.hasDictIn K C_BadText = true)
    (iC_BadText : PySem.W.isClsIn K C_BadText = true)
    (an_BadText_line : PySem.W.findIn K (.ref C_BadText) "line" = some none)
    (an_BadText_column : PySem.W.findIn K (.ref C_BadText) "column" = some none)
    (ag_TooMany : PySem.W.nsIn K mainGlobals "TooMany" = some (some (.ref C_TooMany)))
    (xl_TooMany : K.lookup C_TooMany = some (excClassObj nm_TooMany q_TooMany C_TooMany N_TooMany bs_TooMany bm_TooMany true sn_TooMany sub_TooMany ab_TooMany_ col_TooMany dd_TooMany m0_TooMany m1_TooMany m2_TooMany m3_TooMany m5_TooMany "ValueError.__new__"))
    (xr_TooMany : PySem.HandSPX.refsVE bm_TooMany = true)
    (sa_TooMany : PySem.W.findIn K (.ref C_TooMany) "__setattr__" = some (some (.builtin "object.__setattr__")))
    (ga_TooMany : PySem.W.findIn K (.ref C_TooMany) "__getattribute__" = some (some (.builtin "BaseException.__getattribute__")))
    (gg_TooMany : PySem.W.findIn K (.ref C_TooMany) "__getattr__" = some none)
    (eC_TooMany : PySem.W.subIn K (.ref C_TooMany) (.type "BaseException") = some true)
    (tC_TooMany : PySem.W.typeIn K (.ref C_TooMany) = some (.type "type"))
    (kC_TooMany : PySem.W.keepIn K (.ref C_TooMany) = true)
    (hC_TooMany : PySem.W.hasDictIn K C_TooMany = true)
    (iC_TooMany : PySem.W.isClsIn K C_TooMany = true)
    (an_TooMany_limit : PySem.W.findIn K (.ref C_TooMany) "limit" = some none)
    (ag_Reader : PySem.W.nsIn K mainGlobals "Reader" = some (some (.ref C_Reader)))
    (pg_Reader : PySem.W.plainGet K C_Reader Str.empty = true)
    (hd_Reader : PySem.W.hasDictIn K C_Reader = true)
    (po_Reader : PySem.W.plainOver K C_Reader = true)
    (sa_Reader : PySem.W.findIn K (.ref C_Reader) "__setattr__" = some (some (.builtin "object.__setattr__")))
    (mi_Reader : PySem.W.makesIn K C_Reader = true)
    (ki_Reader : PySem.W.keepIn K (.ref C_Reader) = true)
    (an_Reader_tokens : PySem.W.findIn K (.ref C_Reader) "tokens" = some none)
    (an_Reader_number : PySem.W.findIn K (.ref C_Reader) "number" = some none)
    (an_Reader_place : PySem.W.findIn K (.ref C_Reader) "place" = some none)
    (an_Reader_nodes : PySem.W.findIn K (.ref C_Reader) "nodes" = some none)
    (an_Reader_nested : PySem.W.findIn K (.ref C_Reader) "nested" = some none)
    (as_BadText_BadText : PySem.W.subIn K (.ref C_BadText) (.ref C_BadText) = some true)
    (as_BadText_TooMany : PySem.W.subIn K (.ref C_BadText) (.ref C_TooMany) = some false)
    (as_TooMany_BadText : PySem.W.subIn K (.ref C_TooMany) (.ref C_BadText) = some false)
    (as_TooMany_TooMany : PySem.W.subIn K (.ref C_TooMany) (.ref C_TooMany) = some true)
    (a_BadText___init__ : PySem.W.findIn K (.ref C_BadText) "__init__" = some (some (.ref f_BadText___init__)))
    (t_BadText___init__ : PySem.W.typeIn K (.ref f_BadText___init__) = some (.type "function"))
    (l_BadText___init__ : K.lookup f_BadText___init__ = some ⟨oc_BadText___init__, od_BadText___init__, .func (PySem.W.fnOf "__init__" "BadText.__init__" (defArgs s_BadText___init__) (defBody s_BadText___init__) (defScope s_BadText___init__) .none kV_BadText___init__ dc_BadText___init__ pm_BadText___init__ an_BadText___init__ cd_BadText___init__ ct_BadText___init__), sl_BadText___init__⟩)
    (c_BadText___init__ : PySem.W.codeIn K cd_BadText___init__ "BadText.__init__" = true)
    (k_BadText___init__ : PySem.W.keepIn K (.ref f_BadText___init__) = true)
    (a_TooMany___init__ : PySem.W.findIn K (.ref C_TooMany) "__init__" = some (some (.ref f_TooMany___init__)))
    (t_TooMany___init__ : PySem.W.typeIn K (.ref f_TooMany___init__) = some (.type "function"))
    (l_TooMany___init__ : K.lookup f_TooMany___init__ = some ⟨oc_TooMany___init__, od_TooMany___init__, .func (PySem.W.fnOf "__init__" "TooMany.__init__" (defArgs s_TooMany___init__) (defBody s_TooMany___init__) (defScope s_TooMany___init__) .none kV_TooMany___init__ dc_TooMany___init__ pm_TooMany___init__ an_TooMany___init__ cd_TooMany___init__ ct_TooMany___init__), sl_TooMany___init__⟩)
    (c_TooMany___init__ : PySem.W.codeIn K cd_TooMany___init__ "TooMany.__init__" = true)
    (k_TooMany___init__ : PySem.W.keepIn K (.ref f_TooMany___init__) = true)
    (a_run_end : PySem.W.nsIn K mainGlobals "run_end" = some (some (.ref f_run_end)))
    (l_run_end : K.lookup f_run_end = some ⟨oc_run_end, od_run_end, .func (PySem.W.fnOf "run_end" "run_end" (defArgs s_run_end) (defBody s_run_end) (defScope s_run_end) .none kV_run_end dc_run_end pm_run_end an_run_end cd_run_end ct_run_end), sl_run_end⟩)
    (c_run_end : PySem.W.codeIn K cd_run_end "run_end" = true)
    (k_run_end : PySem.W.keepIn K (.ref f_run_end) = true)
    (a_all_tokens : PySem.W.nsIn K mainGlobals "all_tokens" = some (some (.ref f_all_tokens)))
    (l_all_tokens : K.lookup f_all_tokens = some ⟨oc_all_tokens, od_all_tokens, .func (PySem.W.fnOf "all_tokens" "all_tokens" (defArgs s_all_tokens) (defBody s_all_tokens) (defScope s_all_tokens) .none kV_all_tokens dc_all_tokens pm_all_tokens an_all_tokens cd_all_tokens ct_all_tokens), sl_all_tokens⟩)
    (c_all_tokens : PySem.W.codeIn K cd_all_tokens "all_tokens" = true)
    (k_all_tokens : PySem.W.keepIn K (.ref f_all_tokens) = true)
    (a_Reader___init__ : PySem.W.findIn K (.ref C_Reader) "__init__" = some (some (.ref f_Reader___init__)))
    (i_Reader___init__ : PySem.W.isFn K (.ref f_Reader___init__) = true)
    (l_Reader___init__ : K.lookup f_Reader___init__ = some ⟨oc_Reader___init__, od_Reader___init__, .func (PySem.W.fnOf "__init__" "Reader.__init__" (defArgs s_Reader___init__) (defBody s_Reader___init__) (defScope s_Reader___init__) .none kV_Reader___init__ dc_Reader___init__ pm_Reader___init__ an_Reader___init__ cd_Reader___init__ ct_Reader___init__), sl_Reader___init__⟩)
    (c_Reader___init__ : PySem.W.codeIn K cd_Reader___init__ "Reader.__init__" = true)
    (k_Reader___init__ : PySem.W.keepIn K (.ref f_Reader___init__) = true)
    (a_Reader_peek : PySem.W.findIn K (.ref C_Reader) "peek" = some (some (.ref f_Reader_peek)))
    (i_Reader_peek : PySem.W.isFn K (.ref f_Reader_peek) = true)
    (l_Reader_peek : K.lookup f_Reader_peek = some ⟨oc_Reader_peek, od_Reader_peek, .func (PySem.W.fnOf "peek" "Reader.peek" (defArgs s_Reader_peek) (defBody s_Reader_peek) (defScope s_Reader_peek) .none kV_Reader_peek dc_Reader_peek pm_Reader_peek an_Reader_peek cd_Reader_peek ct_Reader_peek), sl_Reader_peek⟩)
    (c_Reader_peek : PySem.W.codeIn K cd_Reader_peek "Reader.peek" = true)
    (k_Reader_peek : PySem.W.keepIn K (.ref f_Reader_peek) = true)
    (a_Reader_take : PySem.W.findIn K (.ref C_Reader) "take" = some (some (.ref f_Reader_take)))
    (i_Reader_take : PySem.W.isFn K (.ref f_Reader_take) = true)
    (l_Reader_take : K.lookup f_Reader_take = some ⟨oc_Reader_take, od_Reader_take, .func (PySem.W.fnOf "take" "Reader.take" (defArgs s_Reader_take) (defBody s_Reader_take) (defScope s_Reader_take) .none kV_Reader_take dc_Reader_take pm_Reader_take an_Reader_take cd_Reader_take ct_Reader_take), sl_Reader_take⟩)
    (c_Reader_take : PySem.W.codeIn K cd_Reader_take "Reader.take" = true)
    (k_Reader_take : PySem.W.keepIn K (.ref f_Reader_take) = true)
    (a_Reader_next_is : PySem.W.findIn K (.ref C_Reader) "next_is" = some (some (.ref f_Reader_next_is)))
    (i_Reader_next_is : PySem.W.isFn K (.ref f_Reader_next_is) = true)
    (l_Reader_next_is : K.lookup f_Reader_next_is = some ⟨oc_Reader_next_is, od_Reader_next_is, .func (PySem.W.fnOf "next_is" "Reader.next_is" (defArgs s_Reader_next_is) (defBody s_Reader_next_is) (defScope s_Reader_next_is) .none kV_Reader_next_is dc_Reader_next_is pm_Reader_next_is an_Reader_next_is cd_Reader_next_is ct_Reader_next_is), sl_Reader_next_is⟩)
    (c_Reader_next_is : PySem.W.codeIn K cd_Reader_next_is "Reader.next_is" = true)
    (k_Reader_next_is : PySem.W.keepIn K (.ref f_Reader_next_is) = true)
    (a_Reader_fail : PySem.W.findIn K (.ref C_Reader) "fail" = some (some (.ref f_Reader_fail)))
    (i_Reader_fail : PySem.W.isFn K (.ref f_Reader_fail) = true)
    (l_Reader_fail : K.lookup f_Reader_fail = some ⟨oc_Reader_fail, od_Reader_fail, .func (PySem.W.fnOf "fail" "Reader.fail" (defArgs s_Reader_fail) (defBody s_Reader_fail) (defScope s_Reader_fail) .none kV_Reader_fail dc_Reader_fail pm_Reader_fail an_Reader_fail cd_Reader_fail ct_Reader_fail), sl_Reader_fail⟩)
    (c_Reader_fail : PySem.W.codeIn K cd_Reader_fail "Reader.fail" = true)
    (k_Reader_fail : PySem.W.keepIn K (.ref f_Reader_fail) = true)
    (a_Reader_ask_end : PySem.W.findIn K (.ref C_Reader) "ask_end" = some (some (.ref f_Reader_ask_end)))
    (i_Reader_ask_end : PySem.W.isFn K (.ref f_Reader_ask_end) = true)
    (l_Reader_ask_end : K.lookup f_Reader_ask_end = some ⟨oc_Reader_ask_end, od_Reader_ask_end, .func (PySem.W.fnOf "ask_end" "Reader.ask_end" (defArgs s_Reader_ask_end) (defBody s_Reader_ask_end) (defScope s_Reader_ask_end) .none kV_Reader_ask_end dc_Reader_ask_end pm_Reader_ask_end an_Reader_ask_end cd_Reader_ask_end ct_Reader_ask_end), sl_Reader_ask_end⟩)
    (c_Reader_ask_end : PySem.W.codeIn K cd_Reader_ask_end "Reader.ask_end" = true)
    (k_Reader_ask_end : PySem.W.keepIn K (.ref f_Reader_ask_end) = true)
    (a_write_plain : PySem.W.nsIn K mainGlobals "write_plain" = some (some (.ref f_write_plain)))
    (l_write_plain : K.lookup f_write_plain = some ⟨oc_write_plain, od_write_plain, .func (PySem.W.fnOf "write_plain" "write_plain" (defArgs s_write_plain) (defBody s_write_plain) (defScope s_write_plain) .none kV_write_plain dc_write_plain pm_write_plain an_write_plain cd_write_plain ct_write_plain), sl_write_plain⟩)
    (c_write_plain : PySem.W.codeIn K cd_write_plain "write_plain" = true)
    (k_write_plain : PySem.W.keepIn K (.ref f_write_plain) = true)
    (a_read_single : PySem.W.nsIn K mainGlobals "read_single" = some (some (.ref f_read_single)))
    (l_read_single : K.lookup f_read_single = some ⟨oc_read_single, od_read_single, .func (PySem.W.fnOf "read_single" "read_single" (defArgs s_read_single) (defBody s_read_single) (defScope s_read_single) .none kV_read_single dc_read_single pm_read_single an_read_single cd_read_single ct_read_single), sl_read_single⟩)
    (c_read_single : PySem.W.codeIn K cd_read_single "read_single" = true)
    (k_read_single : PySem.W.keepIn K (.ref f_read_single) = true)
    (a_read_value : PySem.W.nsIn K mainGlobals "read_value" = some (some (.ref f_read_value)))
    (l_read_value : K.lookup f_read_value = some ⟨oc_read_value, od_read_value, .func (PySem.W.fnOf "read_value" "read_value" (defArgs s_read_value) (defBody s_read_value) (defScope s_read_value) .none kV_read_value dc_read_value pm_read_value an_read_value cd_read_value ct_read_value), sl_read_value⟩)
    (c_read_value : PySem.W.codeIn K cd_read_value "read_value" = true)
    (k_read_value : PySem.W.keepIn K (.ref f_read_value) = true)
    (a_read_plain : PySem.W.nsIn K mainGlobals "read_plain" = some (some (.ref f_read_plain)))
    (l_read_plain : K.lookup f_read_plain = some ⟨oc_read_plain, od_read_plain, .func (PySem.W.fnOf "read_plain" "read_plain" (defArgs s_read_plain) (defBody s_read_plain) (defScope s_read_plain) .none kV_read_plain dc_read_plain pm_read_plain an_read_plain cd_read_plain ct_read_plain), sl_read_plain⟩)
    (c_read_plain : PySem.W.codeIn K cd_read_plain "read_plain" = true)
    (k_read_plain : PySem.W.keepIn K (.ref f_read_plain) = true)
    (a_law_begin : PySem.W.nsIn K mainGlobals "_law_begin" = some (some (.ref f_law_begin)))
    (l_law_begin : K.lookup f_law_begin = some ⟨oc_law_begin, od_law_begin, .func (PySem.W.fnOf "_law_begin" "_law_begin" (defArgs s_law_begin) (defBody s_law_begin) (defScope s_law_begin) .none kV_law_begin dc_law_begin pm_law_begin an_law_begin cd_law_begin ct_law_begin), sl_law_begin⟩)
    (c_law_begin : PySem.W.codeIn K cd_law_begin "_law_begin" = true)
    (k_law_begin : PySem.W.keepIn K (.ref f_law_begin) = true)
    (a_law_draw : PySem.W.nsIn K mainGlobals "_law_draw" = some (some (.ref f_law_draw)))
    (l_law_draw : K.lookup f_law_draw = some ⟨oc_law_draw, od_law_draw, .func (PySem.W.fnOf "_law_draw" "_law_draw" (defArgs s_law_draw) (defBody s_law_draw) (defScope s_law_draw) .none kV_law_draw dc_law_draw pm_law_draw an_law_draw cd_law_draw ct_law_draw), sl_law_draw⟩)
    (c_law_draw : PySem.W.codeIn K cd_law_draw "_law_draw" = true)
    (k_law_draw : PySem.W.keepIn K (.ref f_law_draw) = true)
    (a_law_piece : PySem.W.nsIn K mainGlobals "_law_piece" = some (some (.ref f_law_piece)))
    (l_law_piece : K.lookup f_law_piece = some ⟨oc_law_piece, od_law_piece, .func (PySem.W.fnOf "_law_piece" "_law_piece" (defArgs s_law_piece) (defBody s_law_piece) (defScope s_law_piece) .none kV_law_piece dc_law_piece pm_law_piece an_law_piece cd_law_piece ct_law_piece), sl_law_piece⟩)
    (c_law_piece : PySem.W.codeIn K cd_law_piece "_law_piece" = true)
    (k_law_piece : PySem.W.keepIn K (.ref f_law_piece) = true)
    (a_law_worth : PySem.W.nsIn K mainGlobals "_law_worth" = some (some (.ref f_law_worth)))
    (l_law_worth : K.lookup f_law_worth = some ⟨oc_law_worth, od_law_worth, .func (PySem.W.fnOf "_law_worth" "_law_worth" (defArgs s_law_worth) (defBody s_law_worth) (defScope s_law_worth) .none kV_law_worth dc_law_worth pm_law_worth an_law_worth cd_law_worth ct_law_worth), sl_law_worth⟩)
    (c_law_worth : PySem.W.codeIn K cd_law_worth "_law_worth" = true)
    (k_law_worth : PySem.W.keepIn K (.ref f_law_worth) = true)
    (a_law_due : PySem.W.nsIn K mainGlobals "_law_due" = some (some (.ref f_law_due)))
    (l_law_due : K.lookup f_law_due = some ⟨oc_law_due, od_law_due, .func (PySem.W.fnOf "_law_due" "_law_due" (defArgs s_law_due) (defBody s_law_due) (defScope s_law_due) .none kV_law_due dc_law_due pm_law_due an_law_due cd_law_due ct_law_due), sl_law_due⟩)
    (c_law_due : PySem.W.codeIn K cd_law_due "_law_due" = true)
    (k_law_due : PySem.W.keepIn K (.ref f_law_due) = true)
    (a_law_told : PySem.W.nsIn K mainGlobals "_law_told" = some (some (.ref f_law_told)))
    (l_law_told : K.lookup f_law_told = some ⟨oc_law_told, od_law_told, .func (PySem.W.fnOf "_law_told" "_law_told" (defArgs s_law_told) (defBody s_law_told) (defScope s_law_told) .none kV_law_told dc_law_told pm_law_told an_law_told cd_law_told ct_law_told), sl_law_told⟩)
    (c_law_told : PySem.W.codeIn K cd_law_told "_law_told" = true)
    (k_law_told : PySem.W.keepIn K (.ref f_law_told) = true)
    (a_law_value_of : PySem.W.nsIn K mainGlobals "_law_value_of" = some (some (.ref f_law_value_of)))
    (l_law_value_of : K.lookup f_law_value_of = some ⟨oc_law_value_of, od_law_value_of, .func (PySem.W.fnOf "_law_value_of" "_law_value_of" (defArgs s_law_value_of) (defBody s_law_value_of) (defScope s_law_value_of) .none kV_law_value_of dc_law_value_of pm_law_value_of an_law_value_of cd_law_value_of ct_law_value_of), sl_law_value_of⟩)
    (c_law_value_of : PySem.W.codeIn K cd_law_value_of "_law_value_of" = true)
    (k_law_value_of : PySem.W.keepIn K (.ref f_law_value_of) = true)
    (a_law_deep : PySem.W.nsIn K mainGlobals "_law_deep" = some (some (.ref f_law_deep)))
    (l_law_deep : K.lookup f_law_deep = some ⟨oc_law_deep, od_law_deep, .func (PySem.W.fnOf "_law_deep" "_law_deep" (defArgs s_law_deep) (defBody s_law_deep) (defScope s_law_deep) .none kV_law_deep dc_law_deep pm_law_deep an_law_deep cd_law_deep ct_law_deep), sl_law_deep⟩)
    (c_law_deep : PySem.W.codeIn K cd_law_deep "_law_deep" = true)
    (k_law_deep : PySem.W.keepIn K (.ref f_law_deep) = true)
    (a_law_plain_text : PySem.W.nsIn K mainGlobals "_law_plain_text" = some (some (.ref f_law_plain_text)))
    (l_law_plain_text : K.lookup f_law_plain_text = some ⟨oc_law_plain_text, od_law_plain_text, .func (PySem.W.fnOf "_law_plain_text" "_law_plain_text" (defArgs s_law_plain_text) (defBody s_law_plain_text) (defScope s_law_plain_text) .none kV_law_plain_text dc_law_plain_text pm_law_plain_text an_law_plain_text cd_law_plain_text ct_law_plain_text), sl_law_plain_text⟩)
    (c_law_plain_text : PySem.W.codeIn K cd_law_plain_text "_law_plain_text" = true)
    (k_law_plain_text : PySem.W.keepIn K (.ref f_law_plain_text) = true) :
    Txt K mg C_BadText C_TooMany C_Reader :=
  { b_enumerate := PySem.W.mg_none_of X G ab_enumerate,
    b_int := PySem.W.mg_none_of X G ab_int,
    b_isinstance := PySem.W.mg_none_of X G ab_isinstance,
    b_len := PySem.W.mg_none_of X G ab_len,
    b_max := PySem.W.mg_none_of X G ab_max,
    b_range := PySem.W.mg_none_of X G ab_range,
    b_repr := PySem.W.mg_none_of X G ab_repr,
    b_str := PySem.W.mg_none_of X G ab_str,
    b_tuple := PySem.W.mg_none_of X G ab_tuple,
    c_LETTERS := ⟨_, PySem.W.mg_of X G ac_LETTERS⟩,
    c_DIGITS := ⟨_, PySem.W.mg_of X G ac_DIGITS⟩,
    c_SIGNS := ⟨_, PySem.W.mg_of X G ac_SIGNS⟩,
    c_MOST_DIGITS := ⟨_, PySem.W.mg_of X G ac_MOST_DIGITS⟩,
    c_MOST_LETTERS := ⟨_, PySem.W.mg_of X G ac_MOST_LETTERS⟩,
    c_MOST_DEEP := ⟨_, PySem.W.mg_of X G ac_MOST_DEEP⟩,
    g_BadText := PySem.W.mg_of X G ag_BadText,
    x_BadText := ⟨⟨_, _, _, _, _, _, _, _, _, _, _, _, _, _, _, xl_BadText, xr_BadText⟩, sa_BadText, eC_BadText, tC_BadText, kC_BadText⟩,
    xf_BadText := ⟨ga_BadText, gg_BadText, eC_BadText, hC_BadText⟩,
    xm_BadText := ⟨eC_BadText, iC_BadText, tC_BadText⟩,
    n_BadText_line := an_BadText_line,
    n_BadText_column := an_BadText_column,
    g_TooMany := PySem.W.mg_of X G ag_TooMany,
    x_TooMany := ⟨⟨_, _, _, _, _, _, _, _, _, _, _, _, _, _, _, xl_TooMany, xr_TooMany⟩, sa_TooMany, eC_TooMany, tC_TooMany, kC_TooMany⟩,
    xf_TooMany := ⟨ga_TooMany, gg_TooMany, eC_TooMany, hC_TooMany⟩,
    xm_TooMany := ⟨eC_TooMany, iC_TooMany, tC_TooMany⟩,
    n_TooMany_limit := an_TooMany_limit,
    g_Reader := PySem.W.mg_of X G ag_Reader,
    k_Reader := ⟨pg_Reader, hd_Reader, po_Reader, sa_Reader⟩,
    mk_Reader := ⟨mi_Reader, ki_Reader⟩,
    n_Reader_tokens := an_Reader_tokens,
    n_Reader_number := an_Reader_number,
    n_Reader_place := an_Reader_place,
    n_Reader_nodes := an_Reader_nodes,
    n_Reader_nested := an_Reader_nested,
    s_BadText_BadText := as_BadText_BadText,
    s_BadText_TooMany := as_BadText_TooMany,
    s_TooMany_BadText := as_TooMany_BadText,
    s_TooMany_TooMany := as_TooMany_TooMany,
    d_BadText___init__ := ⟨_, _, a_BadText___init__, t_BadText___init__, fun_mk (st := s_BadText___init__) l_BadText___init__ c_BadText___init__ k_BadText___init__, (fun_mk (st := s_BadText___init__) l_BadText___init__ c_BadText___init__ k_BadText___init__).binds (ps := ["self", "line", "column"]) fun _ _ _ _ _ _ us hl => match us, hl with | [_, _, _], _ => rfl⟩,
    d_TooMany___init__ := ⟨_, _, a_TooMany___init__, t_TooMany___init__, fun_mk (st := s_TooMany___init__) l_TooMany___init__ c_TooMany___init__ k_TooMany___init__, (fun_mk (st := s_TooMany___init__) l_TooMany___init__ c_TooMany___init__ k_TooMany___init__).binds (ps := ["self", "limit"]) fun _ _ _ _ _ _ us hl => match us, hl with | [_, _], _ => rfl⟩,
    d_run_end := ⟨_, _, PySem.W.mg_of X G a_run_end, fun_mk (st := s_run_end) l_run_end c_run_end k_run_end, (fun_mk (st := s_run_end) l_run_end c_run_end k_run_end).binds (ps := ["text", "place", "allowed"]) fun _ _ _ _ _ _ us hl => match us, hl with | [_, _, _], _ => rfl⟩,
    d_all_tokens := ⟨_, _, PySem.W.mg_of X G a_all_tokens, fun_mk (st := s_all_tokens) l_all_tokens c_all_tokens k_all_tokens, (fun_mk (st := s_all_tokens) l_all_tokens c_all_tokens k_all_tokens).binds (ps := ["text"]) fun _ _ _ _ _ _ us hl => match us, hl with | [_], _ => rfl⟩,
    d_Reader___init__ := ⟨_, _, ⟨a_Reader___init__, i_Reader___init__, k_Reader___init__⟩, fun_mk (st := s_Reader___init__) l_Reader___init__ c_Reader___init__ k_Reader___init__, (fun_mk (st := s_Reader___init__) l_Reader___init__ c_Reader___init__ k_Reader___init__).binds (ps := ["self", "tokens", "line"]) fun _ _ _ _ _ _ us hl => match us, hl with | [_, _, _], _ => rfl⟩,
    d_Reader_peek := ⟨_, _, ⟨a_Reader_peek, i_Reader_peek, k_Reader_peek⟩, fun_mk (st := s_Reader_peek) l_Reader_peek c_Reader_peek k_Reader_peek, (fun_mk (st := s_Reader_peek) l_Reader_peek c_Reader_peek k_Reader_peek).binds (ps := ["self"]) fun _ _ _ _ _ _ us hl => match us, hl with | [_], _ => rfl⟩,
    d_Reader_take := ⟨_, _, ⟨a_Reader_take, i_Reader_take, k_Reader_take⟩, fun_mk (st := s_Reader_take) l_Reader_take c_Reader_take k_Reader_take, (fun_mk (st := s_Reader_take) l_Reader_take c_Reader_take k_Reader_take).binds (ps := ["self"]) fun _ _ _ _ _ _ us hl => match us, hl with | [_], _ => rfl⟩,
    d_Reader_next_is := ⟨_, _, ⟨a_Reader_next_is, i_Reader_next_is, k_Reader_next_is⟩, fun_mk (st := s_Reader_next_is) l_Reader_next_is c_Reader_next_is k_Reader_next_is, (fun_mk (st := s_Reader_next_is) l_Reader_next_is c_Reader_next_is k_Reader_next_is).binds (ps := ["self", "kind", "text"]) fun _ _ _ _ _ _ us hl => match us, hl with | [_, _, _], _ => rfl⟩,
    d_Reader_fail := ⟨_, _, ⟨a_Reader_fail, i_Reader_fail, k_Reader_fail⟩, fun_mk (st := s_Reader_fail) l_Reader_fail c_Reader_fail k_Reader_fail, (fun_mk (st := s_Reader_fail) l_Reader_fail c_Reader_fail k_Reader_fail).binds (ps := ["self"]) fun _ _ _ _ _ _ us hl => match us, hl with | [_], _ => rfl⟩,
    d_Reader_ask_end := ⟨_, _, ⟨a_Reader_ask_end, i_Reader_ask_end, k_Reader_ask_end⟩, fun_mk (st := s_Reader_ask_end) l_Reader_ask_end c_Reader_ask_end k_Reader_ask_end, (fun_mk (st := s_Reader_ask_end) l_Reader_ask_end c_Reader_ask_end k_Reader_ask_end).binds (ps := ["self"]) fun _ _ _ _ _ _ us hl => match us, hl with | [_], _ => rfl⟩,
    d_write_plain := ⟨_, _, PySem.W.mg_of X G a_write_plain, fun_mk (st := s_write_plain) l_write_plain c_write_plain k_write_plain, (fun_mk (st := s_write_plain) l_write_plain c_write_plain k_write_plain).binds (ps := ["plain"]) fun _ _ _ _ _ _ us hl => match us, hl with | [_], _ => rfl⟩,
    d_read_single := ⟨_, _, PySem.W.mg_of X G a_read_single, fun_mk (st := s_read_single) l_read_single c_read_single k_read_single, (fun_mk (st := s_read_single) l_read_single c_read_single k_read_single).binds (ps := ["reader"]) fun _ _ _ _ _ _ us hl => match us, hl with | [_], _ => rfl⟩,
    d_read_value := ⟨_, _, PySem.W.mg_of X G a_read_value, fun_mk (st := s_read_value) l_read_value c_read_value k_read_value, (fun_mk (st := s_read_value) l_read_value c_read_value k_read_value).binds (ps := ["reader"]) fun _ _ _ _ _ _ us hl => match us, hl with | [_], _ => rfl⟩,
    d_read_plain := ⟨_, _, PySem.W.mg_of X G a_read_plain, fun_mk (st := s_read_plain) l_read_plain c_read_plain k_read_plain, (fun_mk (st := s_read_plain) l_read_plain c_read_plain k_read_plain).binds (ps := ["text"]) fun _ _ _ _ _ _ us hl => match us, hl with | [_], _ => rfl⟩,
    d_law_begin := ⟨_, _, PySem.W.mg_of X G a_law_begin, fun_mk (st := s_law_begin) l_law_begin c_law_begin k_law_begin, (fun_mk (st := s_law_begin) l_law_begin c_law_begin k_law_begin).binds (ps := ["script"]) fun _ _ _ _ _ _ us hl => match us, hl with | [_], _ => rfl⟩,
    d_law_draw := ⟨_, _, PySem.W.mg_of X G a_law_draw, fun_mk (st := s_law_draw) l_law_draw c_law_draw k_law_draw, (fun_mk (st := s_law_draw) l_law_draw c_law_draw k_law_draw).binds (ps := ["d", "many"]) fun _ _ _ _ _ _ us hl => match us, hl with | [_, _], _ => rfl⟩,
    d_law_piece := ⟨_, _, PySem.W.mg_of X G a_law_piece, fun_mk (st := s_law_piece) l_law_piece c_law_piece k_law_piece, (fun_mk (st := s_law_piece) l_law_piece c_law_piece k_law_piece).binds (ps := ["d"]) fun _ _ _ _ _ _ us hl => match us, hl with | [_], _ => rfl⟩,
    d_law_worth := ⟨_, _, PySem.W.mg_of X G a_law_worth, fun_mk (st := s_law_worth) l_law_worth c_law_worth k_law_worth, (fun_mk (st := s_law_worth) l_law_worth c_law_worth k_law_worth).binds (ps := ["piece"]) fun _ _ _ _ _ _ us hl => match us, hl with | [_], _ => rfl⟩,
    d_law_due := ⟨_, _, PySem.W.mg_of X G a_law_due, fun_mk (st := s_law_due) l_law_due c_law_due k_law_due, (fun_mk (st := s_law_due) l_law_due c_law_due k_law_due).binds (ps := ["pieces", "columns", "behind"]) fun _ _ _ _ _ _ us hl => match us, hl with | [_, _, _], _ => rfl⟩,
    d_law_told := ⟨_, _, PySem.W.mg_of X G a_law_told, fun_mk (st := s_law_told) l_law_told c_law_told k_law_told, (fun_mk (st := s_law_told) l_law_told c_law_told k_law_told).binds (ps := ["text"]) fun _ _ _ _ _ _ us hl => match us, hl with | [_], _ => rfl⟩,
    d_law_value_of := ⟨_, _, PySem.W.mg_of X G a_law_value_of, fun_mk (st := s_law_value_of) l_law_value_of c_law_value_of k_law_value_of, (fun_mk (st := s_law_value_of) l_law_value_of c_law_value_of k_law_value_of).binds (ps := ["d", "depth"]) fun _ _ _ _ _ _ us hl => match us, hl with | [_, _], _ => rfl⟩,
    d_law_deep := ⟨_, _, PySem.W.mg_of X G a_law_deep, fun_mk (st := s_law_deep) l_law_deep c_law_deep k_law_deep, (fun_mk (st := s_law_deep) l_law_deep c_law_deep k_law_deep).binds (ps := ["d", "many"]) fun _ _ _ _ _ _ us hl => match us, hl with | [_, _], _ => rfl⟩,
    d_law_plain_text := ⟨_, _, PySem.W.mg_of X G a_law_plain_text, fun_mk (st := s_law_plain_text) l_law_plain_text c_law_plain_text k_law_plain_text, (fun_mk (st := s_law_plain_text) l_law_plain_text c_law_plain_text k_law_plain_text).binds (ps := ["thing"]) fun _ _ _ _ _ _ us hl => match us, hl with | [_], _ => rfl⟩ }
end PV
namespace PV
open PySem PySem.Spec PyProof.Rows L2

/-! ### heaps: what stays -/
/-- all that was tracked, but what stands in M, is as it was; tuples anyhow -/
structure Kp (M : List Addr) (H H' : Hp) : Prop where
  keep : ∀ a o, H a = some o → ¬ a ∈ M → H' a = some o
  tups : ∀ a xs, H a = some (.tup xs) → H' a = some (.tup xs)
theorem Kp.refl (M : List Addr) (H : Hp) : Kp M H H := ⟨fun _ _ e _ => e, fun _ _ e => e⟩
theorem Kp.trans {M : List Addr} {H H1 H2 : Hp} (a : Kp M H H1) (b : Kp M H1 H2) : Kp M H H2 := ⟨fun x o e n => b.keep x o (a.keep x o e n) n, fun x xs e => b.tups x xs (a.tups x xs e)⟩
theorem Kp.more {M M' : List Addr} {H H1 : Hp} (a : Kp M H H1) (h : ∀ x ∈ M, x ∈ M') : Kp M' H H1 := ⟨fun x o e n => a.keep x o e fun q => n (h x q), a.tups⟩
theorem Kp.none {M : List Addr} {H H1 : Hp} (a : Kp [] H H1) : Kp M H H1 := a.more fun _ q => nomatch q
theorem Kp.new {M : List Addr} {H : Hp} {p : Addr} {o : HO} (h : H p = Option.none) : Kp M H (upd H p o) :=
  ⟨fun x u e _ => by rw [upd_ne (ne_of_none e h)]; exact e, fun x u e => by rw [upd_ne (ne_of_none e h)]; exact e⟩
theorem Kp.mut {M : List Addr} {H : Hp} {p : Addr} {o u : HO} (hp : H p = some u) (hm : p ∈ M) (ht : ∀ xs, u ≠ .tup xs) : Kp M H (upd H p o) :=
  ⟨fun x v e n => by rw [upd_ne (fun q => n (by rw [q]; exact hm))]; exact e, fun x xs e => by
    rw [upd_ne]
    · exact e
    · intro q
      rw [q, hp] at e
      exact ht xs (Option.some.inj e)⟩
theorem Kp.same {H H1 : Hp} (a : Kp [] H H1) : Same H H1 := fun x o e => a.keep x o e fun q => nomatch q
/-- an address that is new behind is not among the old ones -/
theorem Kp.fresh {M : List Addr} {H H' : Hp} {p : Addr} (k : Kp M H H') (h : H' p = Option.none) (n : ¬ p ∈ M) : H p = Option.none := by
  cases q : H p with
  | none => rfl
  | some o => rw [k.keep p o q n] at h; cases h
/-- what was made within and changed again -/
theorem Kp.own {M : List Addr} {H H' : Hp} {p : Addr} {o : HO} (k : Kp M H H') (h : H p = Option.none) : Kp M H (upd H' p o) :=
  ⟨fun x u e n => by rw [upd_ne (ne_of_none e h)]; exact k.keep x u e n, fun x u e => by rw [upd_ne (ne_of_none e h)]; exact k.tups x u e⟩

/-! ### data of ints, texts and tuples -/
mutual
inductive Da (H : Hp) : V → PyData → Prop
  | int (i : Int) : Da H (.int i) (.int i)
  | str (x : Str) : Da H (.str x) (.str x)
  | tup {a : Addr} {xs : List V} {ds : List PyData} : H a = some (.tup xs) → DaAll H xs ds → Da H (.ref a) (.tuple ds)
inductive DaAll (H : Hp) : List V → List PyData → Prop
  | nil : DaAll H [] []
  | cons {v : V} {vs : List V} {d : PyData} {ds : List PyData} : Da H v d → DaAll H vs ds → DaAll H (v :: vs) (d :: ds)
end
mutual
theorem Da.mono {H H' : Hp} (k : ∀ a xs, H a = some (.tup xs) → H' a = some (.tup xs)) : ∀ {d : PyData} {v : V}, Da H v d → Da H' v d
  | _, _, .int i => .int i
  | _, _, .str x => .str x
  | _, _, .tup h a => .tup (k _ _ h) (DaAll.mono k a)
theorem DaAll.mono {H H' : Hp} (k : ∀ a xs, H a = some (.tup xs) → H' a = some (.tup xs)) : ∀ {ds : List PyData} {vs : List V}, DaAll H vs ds → DaAll H' vs ds
  | _, _, .nil => .nil
  | _, _, .cons h a => .cons (Da.mono k h) (DaAll.mono k a)
end
mutual
theorem Da.dp {H : Hp} (K : PySem.W.Frag) : ∀ {d : PyData} {v : V}, Da H v d → Dp K H v d
  | _, _, .int i => .int i
  | _, _, .str x => .str x
  | _, _, .tup h a => .tup (SqT.of h) (DaAll.dp K a)
theorem DaAll.dp {H : Hp} (K : PySem.W.Frag) : ∀ {ds : List PyData} {vs : List V}, DaAll H vs ds → DpAll K H vs ds
  | _, _, .nil => .nil
  | _, _, .cons h a => .cons (Da.dp K h) (DaAll.dp K a)
end
theorem Kp.da {M : List Addr} {H H' : Hp} (k : Kp M H H') {d : PyData} {v : V} (h : Da H v d) : Da H' v d := h.mono k.tups
theorem Kp.daAll {M : List Addr} {H H' : Hp} (k : Kp M H H') {ds : List PyData} {vs : List V} (h : DaAll H vs ds) : DaAll H' vs ds := h.mono k.tups
theorem DaAll.length {H : Hp} : ∀ {ds : List PyData} {vs : List V}, DaAll H vs ds → vs.length = ds.length
  | _, _, .nil => rfl
  | _, _, .cons _ a => by rw [List.length_cons, List.length_cons, a.length]
theorem DaAll.get {H : Hp} : ∀ {ds : List PyData} {vs : List V} {i : Nat} {d : PyData}, DaAll H vs ds → ds[i]? = some d → ∃ v, vs[i]? = some v ∧ Da H v d
  | _, _, 0, _, .cons h _, e => ⟨_, rfl, Option.some.inj e ▸ h⟩
  | _, _, i + 1, _, .cons _ a, e => DaAll.get (i := i) a (by simpa using e)
theorem DaAll.snoc {H : Hp} {d : PyData} {v : V} (h : Da H v d) : ∀ {ds : List PyData} {vs : List V}, DaAll H vs ds → DaAll H (vs ++ [v]) (ds ++ [d])
  | _, _, .nil => .cons h .nil
  | _, _, .cons g a => .cons g (DaAll.snoc h a)

/-! ### run_end, all_tokens -/
def inS (al : Str) : Nat → Bool := fun c => decide (c ∈ al.cps.toList)
def spRunEnd : Sp := fun vs H Q _ => ∃ (z al : Str) (p : Nat), vs = [.str z, .int p, .str al] ∧ p ≤ z.length ∧ z.length ≤ 100000 ∧ Q (.int ((p + run (inS al) (z.cps.toList.drop p) : Nat) : Int)) H
section
variable {P : Program} {w : World} {K : PySem.W.Frag} {mg : Str → Option Value} {base : Heap} {CB CT CR : Addr}
theorem small {n : Nat} (h : n ≤ 1000000) : n ≤ sizeLine := Nat.le_trans h (by decide)
theorem ok_run_end {f : Addr} {fd : FuncData} (T : Txt K mg CB CT CR) (F : Fun K "run_end" "run_end" s_run_end f fd) : FnOk P w K mg base CX0 1 f fd ["text", "place", "allowed"] spRunEnd := by
  refine F.ok sc_run_end (fun vs H Q E h => ?_) (fun cdv A outer s H vs Q E hr h => ?_)
  · obtain ⟨z, al, p, rfl, _⟩ := h
    rfl
  · obtain ⟨z, al, p, rfl, hp, hz, k⟩ := h
    refine ⟨_, (pss_cons (ps_while PassesOwn.never (PW.pt (pw_and (pt_cmpR op_lt (pv 1) (pe_callB call_len_str (by rfl) T.b_len (by decide +kernel) (pa_cons (pv 0) pa_nil)) (nomark _)) (pw_and1 (pt_cmpR op_inS (pe_ix ix_str (pv 0) (pv 1) (fun _ _ => rfl)) (pv 2) rfl))))
      (pss_one (ps_aug (i := 1) sc_run_end.nd rfl (Or.inl rfl) pe_int ip_add)))
    (pss_one (ps_ret (pv 1)))), ?_⟩
    have len : (z.length : Nat) = z.cps.toList.length := TL.len_tl z
    refine ⟨fun m σ H' => ∃ q : Nat, m = z.length - q ∧ q ≤ z.length ∧ σ = [some (.str z), some (.int q), some (.str al)] ∧ H' = H ∧ q + run (inS al) (z.cps.toList.drop q) = p + run (inS al) (z.cps.toList.drop p), ⟨_, p, rfl, hp, rfl, rfl, rfl⟩, ?_⟩
    rintro m σ H' ⟨q, rfl, hq, rfl, rfl, hrun⟩
    refine ⟨_, rfl, _, rfl, _, rfl, small (by omega), _, _, rfl, rfl, _, rfl, ite2 (fun c => ?_) (fun c => ?_)⟩
    · have c' : q < z.length := by simpa using c
      have hc : q < z.cps.toList.length := by omega
      obtain ⟨y, hy⟩ : ∃ y, z.cps.toList[q]? = some y := ⟨_, List.getElem?_eq_getElem hc⟩
      have hd : z.cps.toList.drop q = y :: z.cps.toList.drop (q + 1) := by
        rw [List.drop_eq_getElem_cons hc]
        rw [List.getElem?_eq_getElem hc] at hy
        rw [Option.some.inj hy]
      refine ⟨_, rfl, _, rfl, _, _, y, rfl, rfl, small (by omega), atI_nat hy, _, rfl, y, al, rfl, rfl, _, rfl, ite2 (fun c2 => ?_) (fun c2 => ?_)⟩
      · have c3 : inS al y = true := c2
        refine ⟨_, fun σ' H' x => x, _, rfl, _, _, rfl, rfl, z.length - (q + 1), by omega, q + 1, rfl, c', rfl, rfl, ?_⟩
        rw [← hrun, hd, run_cons_t c3]
        omega
      · have c3 : inS al y = false := by simpa [inS] using c2
        refine ⟨_, rfl, ?_⟩
        rw [← hrun, hd, run_cons_f c3] at k
        exact k
    · have c' : q = z.length := by
        have : ¬ q < z.length := by simpa using c
        omega
      refine ⟨_, rfl, ?_⟩
      rw [← hrun, List.drop_of_length_le (by omega), run_nil] at k
      exact k
end
end PV
namespace PV
open PySem PySem.Spec PyProof.Rows L2

/-! ### all_tokens -/
def tokAll (z : Str) : List Tk := tok z.cps.toList 0 ++ [⟨kEnd, Str.ofString "", z.length + 1⟩]
def spTokens : Sp := fun vs H Q _ => ∃ z : Str, vs = [.str z] ∧ z.length ≤ 100000 ∧
  ∀ H' a, Kp [] H H' → H a = none → Da H' (.ref a) (.tuple ((tokAll z).map Tk.d)) → Q (.ref a) H'
theorem str_inj {a b : Nat} (h : V.str ⟨#[a]⟩ = V.str (S [b])) : a = b := by
  have e := congrArg (fun v => match v with | V.str z => z.cps.toList | _ => []) h
  simpa [S] using e
/-- the next token and where it ends -/
theorem cut_at {z : Str} {q n : Nat} (h : q + n ≤ z.length) : cutS z (some (q : Int)) (some ((q + n : Nat) : Int)) = S ((z.cps.toList.drop q).take n) := by
  unfold cutS S
  rw [HT.sIx_nat, HT.sIx_nat, show min q z.length = q from by omega, show min (q + n) z.length = q + n from by omega]
  congr 3
  omega
section
variable {P : Program} {w : World} {K : PySem.W.Frag} {mg : Str → Option Value} {base : Heap} {CB CT CR : Addr}
theorem ok_all_tokens {f : Addr} {fd : FuncData} (T : Txt K mg CB CT CR) (h_run_end : Has P w K mg base CX0 1 "run_end" ["text", "place", "allowed"] spRunEnd) (F : Fun K "all_tokens" "all_tokens" s_all_tokens f fd) :
    FnOk P w K mg base CX0 2 f fd ["text"] spTokens := by
  refine F.ok sc_all_tokens (fun vs H Q E h => ?_) (fun cdv A outer s H vs Q E hr h => ?_)
  · obtain ⟨z, rfl, _⟩ := h
    rfl
  · obtain ⟨z, rfl, hz, k⟩ := h
    refine ⟨_, (pss_cons (ps_set (i := 1) sc_all_tokens.nd rfl (Or.inl rfl) (pe_lst pa_nil))
    (pss_cons (ps_set (i := 2) sc_all_tokens.nd rfl (Or.inl rfl) pe_int)
    (pss_cons (ps_while PassesOwn.never (pt_cmpR op_lt (pv 2) (pe_callB call_len_str (by rfl) T.b_len (by decide +kernel) (pa_cons (pv 0) pa_nil)) (nomark _))
      (pss_cons (ps_set (i := 3) sc_all_tokens.nd rfl (Or.inl rfl) (pe_ix ix_str (pv 0) (pv 2) (fun _ _ => rfl)))
      (pss_cons (ps_set (i := 4) sc_all_tokens.nd rfl (Or.inl rfl) (pe_op op_add (pv 2) pe_int))
      (pss_cons (ps_if (pt_cmpR op_eq (pv 3) pe_str (nomark _))
        (pss_cons (ps_set (i := 2) sc_all_tokens.nd rfl (Or.inl rfl) (pv 4))
        (pss_one ps_continue))
        pss_nil)
      (C8.pss_cut (ps_if (pt_cmpR op_inS (pv 3) (pe_gs T.c_LETTERS rfl) rfl)
        (pss_cons (ps_set (i := 4) sc_all_tokens.nd rfl (Or.inl rfl) (pe_c0 h_run_end (hr.mono (by decide)) rfl (pa_cons (pv 0) (pa_cons (pv 2) (pa_cons (pe_gs T.c_LETTERS rfl) pa_nil)))))
        (pss_one (ps_set (i := 5) sc_all_tokens.nd rfl (Or.inl rfl) pe_str)))
        (pss_one (ps_if (pt_cmpR op_inS (pv 3) (pe_gs T.c_DIGITS rfl) rfl)
          (pss_cons (ps_set (i := 4) sc_all_tokens.nd rfl (Or.inl rfl) (pe_c0 h_run_end (hr.mono (by decide)) rfl (pa_cons (pv 0) (pa_cons (pv 2) (pa_cons (pe_gs T.c_DIGITS rfl) pa_nil)))))
          (pss_one (ps_set (i := 5) sc_all_tokens.nd rfl (Or.inl rfl) pe_str)))
          (pss_one (ps_if (pt_cmpR op_inS (pv 3) (pe_gs T.c_SIGNS rfl) rfl)
            (pss_one (ps_set (i := 5) sc_all_tokens.nd rfl (Or.inl rfl) pe_str))
            (pss_one (ps_set (i := 5) sc_all_tokens.nd rfl (Or.inl rfl) pe_str)))))))
      (pss_cons (ps_expr (pe_bm PySem.F.plainAttrs_list PySem.F.slot_list_append PySem.F.type_list_append mt_append (pv 1) (pa_cons (pe_tup (pa_cons (pv 5) (pa_cons (pe_slice sl_str (pv 0) (po_some (pv 2)) (po_some (pv 4))) (pa_cons (pe_op op_add (pv 2) pe_int) pa_nil)))) pa_nil)))
      (pss_one (ps_set (i := 2) sc_all_tokens.nd rfl (Or.inl rfl) (pv 4)))))))))
    (pss_cons (ps_expr (pe_bm PySem.F.plainAttrs_list PySem.F.slot_list_append PySem.F.type_list_append mt_append (pv 1) (pa_cons (pe_tup (pa_cons pe_str (pa_cons pe_str (pa_cons (pe_op op_add (pe_callB call_len_str (by rfl) T.b_len (by decide +kernel) (pa_cons (pv 0) pa_nil)) pe_int) pa_nil)))) pa_nil)))
    (pss_one (ps_ret (pe_callTy call_tuple_of (by rfl) T.b_tuple (by decide +kernel) (pa_cons (pv 1) pa_nil)))))))), ?_⟩
    have len : (z.length : Nat) = z.cps.toList.length := TL.len_tl z
    refine ⟨(by show 0 ≤ sizeLine; exact Nat.zero_le _), fun l hl => ?_⟩
    refine ⟨fun m σ H' => ∃ (q : Nat) (v3 v4 v5 : Option V) (vs : List V) (ds : List Tk), m = z.length - q ∧ q ≤ z.length ∧ σ = [some (.str z), some (.ref l), some (.int q), v3, v4, v5] ∧ Kp [] H H' ∧ H' l = some (.lst vs) ∧ DaAll H' vs (ds.map Tk.d) ∧ ds.length ≤ q ∧
      ds ++ tok (z.cps.toList.drop q) q = tok z.cps.toList 0, ⟨_, 0, none, none, none, [], [], rfl, Nat.zero_le _, rfl, Kp.new hl, upd_same, .nil, Nat.zero_le _, rfl⟩, ?_⟩
    rintro m σ H' ⟨q, v3, v4, v5, vs, ds, rfl, hq, rfl, kp, hL, hD, hn, htok⟩
    refine ⟨_, rfl, _, rfl, _, rfl, small (by omega), _, _, rfl, rfl, _, rfl, ite2 (fun c => ?_) (fun c => ?_)⟩
    · have c' : q < z.length := by simpa using c
      have hc : q < z.cps.toList.length := by omega
      obtain ⟨y, hy⟩ : ∃ y, z.cps.toList[q]? = some y := ⟨_, List.getElem?_eq_getElem hc⟩
      have hd : z.cps.toList.drop q = y :: z.cps.toList.drop (q + 1) := by
        rw [List.drop_eq_getElem_cons hc]
        rw [List.getElem?_eq_getElem hc] at hy
        rw [Option.some.inj hy]
      rw [hd] at htok
      refine ⟨_, fun σ' H' x => x, ?_⟩
      -- sign = text[place]; behind = place + 1; if sign == ' '
      refine ⟨_, rfl, _, rfl, _, _, y, rfl, rfl, small (by omega), atI_nat hy, _, rfl, _, _, rfl, rfl, _, rfl, rfl, _, rfl, ite2 (fun c1 => ?_) (fun c1 => ?_)⟩
      · have e1 : y = 32 := str_inj (of_decide_eq_true c1)
        subst e1
        refine ⟨_, rfl, _, by omega, q + 1, _, _, _, vs, ds, rfl, c', rfl, kp, hL, hD, by omega, ?_⟩
        rw [← htok, tok_blank]
      · have e1 : ¬ y = 32 := fun e => by subst e; exact absurd c1 (by decide +kernel)
        -- the kind and the end of the token
        refine ⟨fun σ' H1 => ∃ (kd : Str) (n : Nat) (v3 : Option V), σ' = [some (.str z), some (.ref l), some (.int q), v3, some (.int ((q + (n + 1) : Nat) : Int)), some (.str kd)] ∧ H1 = H' ∧ q + (n + 1) ≤ z.length ∧
          tok (y :: z.cps.toList.drop (q + 1)) q = ⟨kd, S ((z.cps.toList.drop q).take (n + 1)), q + 1⟩ :: tok (z.cps.toList.drop (q + (n + 1))) (q + (n + 1)), ?_, ?_⟩
        · have hdr : ∀ n, z.cps.toList.drop (q + (n + 1)) = (z.cps.toList.drop (q + 1)).drop n := fun n => by
            rw [List.drop_drop]
            congr 1
            omega
          have hlen : (z.cps.toList.drop (q + 1)).length = z.length - (q + 1) := by rw [List.length_drop, ← len]
          refine ⟨_, rfl, y, _, rfl, rfl, _, rfl, ite2 (fun c2 => ?_) (fun c2 => ?_)⟩
          · have c3 : isL y = true := c2
            have hr := run_le isL (z.cps.toList.drop (q + 1))
            refine ⟨_, rfl, _, rfl, z, _, q, rfl, hq, hz, kWord, run isL (z.cps.toList.drop (q + 1)), some (.str ⟨#[y]⟩), ?_, rfl, by omega, ?_⟩
            · rw [hd]
              rw [show run (inS (Str.ofString "abcdefghijklmnopqrstuvwxyz")) (y :: z.cps.toList.drop (q + 1)) = _ from run_cons_t c2]
              rfl
            · rw [tok_let c3, hdr (run isL (z.cps.toList.drop (q + 1))), hd, show q + (run isL (z.cps.toList.drop (q + 1)) + 1) = q + 1 + run isL (z.cps.toList.drop (q + 1)) from by omega]
          · have n2 : isL y = false := Bool.eq_false_iff.mpr c2
            refine ⟨_, rfl, y, _, rfl, rfl, _, rfl, ite2 (fun c3 => ?_) (fun c3 => ?_)⟩
            · have c4 : isD y = true := c3
              have hr := run_le isD (z.cps.toList.drop (q + 1))
              refine ⟨_, rfl, _, rfl, z, _, q, rfl, hq, hz, kNum, run isD (z.cps.toList.drop (q + 1)), some (.str ⟨#[y]⟩), ?_, rfl, by omega, ?_⟩
              · rw [hd]
                rw [show run (inS (Str.ofString "0123456789")) (y :: z.cps.toList.drop (q + 1)) = _ from run_cons_t c3]
                rfl
              · rw [tok_dig c4, hdr (run isD (z.cps.toList.drop (q + 1))), hd, show q + (run isD (z.cps.toList.drop (q + 1)) + 1) = q + 1 + run isD (z.cps.toList.drop (q + 1)) from by omega]
            · have n3 : isD y = false := Bool.eq_false_iff.mpr c3
              have one : (z.cps.toList.drop q).take (0 + 1) = [y] := by rw [hd]; rfl
              refine ⟨_, rfl, y, _, rfl, rfl, _, rfl, ite2 (fun c4 => ?_) (fun c4 => ?_)⟩
              · have c5 : isS y = true := c4
                refine ⟨kSign, 0, _, rfl, rfl, by omega, ?_⟩
                rw [tok_sig c5, one]
              · have n4 : isS y = false := Bool.eq_false_iff.mpr c4
                refine ⟨kOther, 0, _, rfl, rfl, by omega, ?_⟩
                rw [tok_oth e1 n2 n3 n4, one]
        · rintro σ' H1 ⟨kd, n, v3, rfl, rfl, hle, htk⟩
          refine ⟨_, rfl, .inl ⟨rfl, _, SqL.of hL⟩, _, rfl, _, rfl, _, rfl, _, rfl, _, rfl, _, rfl, z, rfl, small (by omega), _, rfl, _, _, rfl, rfl, (by show 3 ≤ sizeLine; decide), fun p hp => ?_⟩
          have npl : l ≠ p := ne_of_none hL hp
          have hv := hD.length
          rw [List.length_map] at hv
          refine ⟨l, vs, .ref p, rfl, rfl, by rw [upd_ne npl]; exact hL, Nat.lt_of_le_of_lt (show vs.length ≤ 100000 by omega) (by decide), ?_⟩
          have kn : Kp ([] : List Addr) H1 (upd H1 p (.tup [.str kd, .str (cutS z (some (q : Int)) (some ((q + (n + 1) : Nat) : Int))), .int ((q : Int) + 1)])) := Kp.new hp
          refine ⟨_, rfl, z.length - (q + (n + 1)), by omega, q + (n + 1), _, _, _, vs ++ [.ref p], ds ++ [⟨kd, S ((z.cps.toList.drop q).take (n + 1)), q + 1⟩], rfl, hle, rfl, (kp.trans kn).own hl, upd_same, ?_, by simp; omega, ?_⟩
          · rw [List.map_append]
            have step : ∀ a xs, H1 a = some (.tup xs) → upd (upd H1 p (.tup [.str kd, .str (cutS z (some (q : Int)) (some ((q + (n + 1) : Nat) : Int))), .int ((q : Int) + 1)])) l (.lst (vs ++ [.ref p])) a = some (.tup xs) := fun a xs e => by
              rw [upd_ne, upd_ne (ne_of_none e hp)]
              · exact e
              · intro q2
                rw [q2, hL] at e
                cases e
            refine DaAll.snoc ?_ (hD.mono step)
            refine .tup (xs := [.str kd, .str (cutS z (some (q : Int)) (some ((q + (n + 1) : Nat) : Int))), .int ((q : Int) + 1)]) (by rw [upd_ne npl.symm]; exact upd_same) ?_
            rw [cut_at hle]
            exact .cons (.str _) (.cons (.str _) (.cons (.int _) .nil))
          · rw [← htok, htk, List.append_assoc]
            rfl
    · have c' : q = z.length := by
        have : ¬ q < z.length := by simpa using c
        omega
      have e0 : z.cps.toList.drop q = [] := List.drop_of_length_le (by omega)
      rw [e0, tok_nil, List.append_nil] at htok
      have hv := hD.length
      rw [List.length_map] at hv
      refine ⟨_, rfl, .inl ⟨rfl, _, SqL.of hL⟩, _, rfl, _, rfl, small (by omega), _, _, rfl, rfl, (by show 3 ≤ sizeLine; decide), fun p hp => ?_⟩
      have npl : l ≠ p := ne_of_none hL hp
      refine ⟨l, vs, .ref p, rfl, rfl, by rw [upd_ne npl]; exact hL, Nat.lt_of_le_of_lt (show vs.length ≤ 100000 by omega) (by decide), ?_⟩
      refine ⟨_, rfl, l, _, rfl, .inl ⟨SqL.of upd_same, fun a ha => ?_⟩⟩
      have hla : l ≠ a := ne_of_none upd_same ha
      have k1 := ((kp.trans (Kp.new (o := .tup [.str (Str.ofString "end"), .str (Str.ofString ""), .int ((z.length : Int) + 1)]) hp)).own (o := .lst (vs ++ [.ref p])) hl).trans (Kp.new (o := .tup (vs ++ [.ref p])) ha)
      refine k _ a k1 (kp.fresh ?_ (fun q => nomatch q)) ?_
      · rw [upd_ne hla.symm] at ha
        by_cases hap : a = p
        · subst hap
          rw [upd_same] at ha
          cases ha
        · rw [upd_ne hap] at ha
          exact ha
      · have step : ∀ b xs, H' b = some (.tup xs) → upd (upd (upd H' p (.tup [.str (Str.ofString "end"), .str (Str.ofString ""), .int ((z.length : Int) + 1)])) l (.lst (vs ++ [.ref p]))) a (.tup (vs ++ [.ref p])) b = some (.tup xs) := fun b xs e => by
          have n1 : b ≠ p := ne_of_none e hp
          have n2 : b ≠ l := fun q2 => by rw [q2, hL] at e; cases e
          have e2 : upd (upd H' p (.tup [.str (Str.ofString "end"), .str (Str.ofString ""), .int ((z.length : Int) + 1)])) l (.lst (vs ++ [.ref p])) b = some (.tup xs) := by rw [upd_ne n2, upd_ne n1]; exact e
          rw [upd_ne (ne_of_none e2 ha)]
          exact e2
        refine .tup upd_same ?_
        unfold tokAll
        rw [List.map_append, ← htok]
        refine DaAll.snoc ?_ (hD.mono step)
        have e3 : upd (upd H' p (.tup [.str (Str.ofString "end"), .str (Str.ofString ""), .int ((z.length : Int) + 1)])) l (.lst (vs ++ [.ref p])) p = some (.tup [.str (Str.ofString "end"), .str (Str.ofString ""), .int ((z.length : Int) + 1)]) := by
          rw [upd_ne npl.symm]; exact upd_same
        exact .tup (xs := [.str (Str.ofString "end"), .str (Str.ofString ""), .int ((z.length : Int) + 1)]) (by rw [upd_ne (ne_of_none e3 ha)]; exact e3) (.cons (.str _) (.cons (.str _) (.cons (.int _) .nil)))
end
end PV
namespace PV
open PySem PySem.Spec PyProof.Rows L2

/-! ### the own errors -/
/-- an __init__ that stores its two parameters under f1, f2; its one under f1 -/
def spX2 (C : Addr) (f1 f2 : Str) : Sp := fun vs H Q _ => ∃ (a : Addr) (y1 y2 : V), vs = [.ref a, y1, y2] ∧ H a = some (exo a C none) ∧
  ∀ d, H d = none → d ≠ a → Q .non (upd (upd (upd H d (exd d [(f1, y1)])) a (exo a C (some d))) d (exd d [(f2, y2), (f1, y1)]))
def spX1 (C : Addr) (f1 : Str) : Sp := fun vs H Q _ => ∃ (a : Addr) (y1 : V), vs = [.ref a, y1] ∧ H a = some (exo a C none) ∧
  ∀ d, H d = none → d ≠ a → Q .non (upd (upd H d (exd d [(f1, y1)])) a (exo a C (some d)))
/-- the class C of errors stands in the module, its __init__ keeps sp -/
def HasX (P : Program) (w : World) (K : PySem.W.Frag) (mg : Str → Option Value) (base : Heap) (k : Nat) (C : Addr) (ps : List Str) (sp : Sp) : Prop :=
  OexC K C ∧ ∃ f fd, PySem.W.findIn K (.ref C) "__init__" = some (some (.ref f)) ∧ PySem.W.typeIn K (.ref f) = some (.type "function") ∧ Binds K fd ps [] ∧ FnOk P w K mg base CX0 k f fd ps sp
section
variable {X : Cx} {k : Nat} {C : Addr} {ps : List Str} {sp : Sp} {x : Str} {p pos : Pos} {e : Expr} {es : List Expr} {t : TA}
theorem pmk_o (h : HasX X.prog X.w X.K X.mg X.base k C ps sp) (hm : X.mg x = some (.ref C)) (hr : Room (k + 1) X.A) (hg : Gl X x) (ha : PA X (e :: es) t) (hdb : (x == ("__debug__" : Str)) = false := by decide)
    (he : starEach (e :: es) X.env = (false, eval e X.env) :: starEach es X.env := by rfl) (hpl : (backTo pos (starEach es X.env)).any (·.1) = false := by rfl) : PMk X (.Call (.Name x p) (e :: es) [] pos) (tMkO C sp [] t) := by
  obtain ⟨T, f, fd, a, b, c, d⟩ := h
  exact pmk_oex T a b d hr c .nil pass0 hg hm ha hdb he hpl
end
theorem x2_of {C a : Addr} {f1 f2 : Str} {y1 y2 : V} {H1 : Hp} {Q : XK} {E : XK} (ha : H1 a = none) (q : ∀ d, H1 d = none → Q (.ref C) (some d) (upd H1 d (.xd [(f2, y2), (f1, y1)]))) :
    spX2 C f1 f2 (.ref a :: ([y1, y2] ++ [])) (upd H1 a (exo a C none)) (fun v H2 => v = .non ∧ ∃ (d : Addr) (fs : List (Str × V)), H2 a = some (exo a C (some d)) ∧ H2 d = some (exd d fs) ∧ H1 d = none ∧ Q (.ref C) (some d) (upd (del H2 a) d (.xd fs))) E := by
  refine ⟨a, y1, y2, rfl, upd_same, fun d hd hn => ?_⟩
  have hd1 : H1 d = none := by rw [upd_ne hn] at hd; exact hd
  refine ⟨rfl, d, _, by rw [upd_ne hn.symm]; exact upd_same, upd_same, hd1, ?_⟩
  have e : upd (del (upd (upd (upd (upd H1 a (exo a C none)) d (exd d [(f1, y1)])) a (exo a C (some d))) d (exd d [(f2, y2), (f1, y1)])) a) d (.xd [(f2, y2), (f1, y1)]) = upd H1 d (.xd [(f2, y2), (f1, y1)]) := by
    funext b
    by_cases hb : b = d
    · subst hb; rw [upd_same, upd_same]
    · rw [upd_ne hb, upd_ne hb]
      by_cases hba : b = a
      · subst hba; rw [del_same, ha]
      · rw [del_ne hba, upd_ne hb, upd_ne hba, upd_ne hb, upd_ne hba]
  rw [e]
  exact q d hd1
theorem x1_of {C a : Addr} {f1 : Str} {y1 : V} {H1 : Hp} {Q : XK} {E : XK} (ha : H1 a = none) (q : ∀ d, H1 d = none → Q (.ref C) (some d) (upd H1 d (.xd [(f1, y1)]))) :
    spX1 C f1 (.ref a :: ([y1] ++ [])) (upd H1 a (exo a C none)) (fun v H2 => v = .non ∧ ∃ (d : Addr) (fs : List (Str × V)), H2 a = some (exo a C (some d)) ∧ H2 d = some (exd d fs) ∧ H1 d = none ∧ Q (.ref C) (some d) (upd (del H2 a) d (.xd fs))) E := by
  refine ⟨a, y1, rfl, upd_same, fun d hd hn => ?_⟩
  have hd1 : H1 d = none := by rw [upd_ne hn] at hd; exact hd
  refine ⟨rfl, d, _, upd_same, by rw [upd_ne hn]; exact upd_same, hd1, ?_⟩
  have e : upd (del (upd (upd (upd H1 a (exo a C none)) d (exd d [(f1, y1)])) a (exo a C (some d))) a) d (.xd [(f1, y1)]) = upd H1 d (.xd [(f1, y1)]) := by
    funext b
    by_cases hb : b = d
    · subst hb; rw [upd_same, upd_same]
    · rw [upd_ne hb, upd_ne hb]
      by_cases hba : b = a
      · subst hba; rw [del_same, ha]
      · rw [del_ne hba, upd_ne hba, upd_ne hb, upd_ne hba]
  rw [e]
  exact q d hd1
/-- a class of the program made by its __init__ -/
def HasI (P : Program) (w : World) (K : PySem.W.Frag) (mg : Str → Option Value) (base : Heap) (k : Nat) (C : Addr) (ps : List Str) (sp : Sp) : Prop :=
  ∃ f fd, Mk K C f ∧ Binds K fd ps [] ∧ FnOk P w K mg base CX0 k f fd ps sp
theorem pe_mk0 {X : Cx} {k : Nat} {C : Addr} {ps : List Str} {sp : Sp} {x : Str} {p pos : Pos} {e : Expr} {es : List Expr} {t : TA} (h : HasI X.prog X.w X.K X.mg X.base k C ps sp) (hm : X.mg x = some (.ref C)) (hr : Room (k + 1) X.A) (hg : Gl X x) (ha : PA X (e :: es) t)
    (hdb : (x == ("__debug__" : Str)) = false := by decide) (he : starEach (e :: es) X.env = (false, eval e X.env) :: starEach es X.env := by rfl) (hpl : (backTo pos (starEach es X.env)).any (·.1) = false := by rfl) :
    PE X (.Call (.Name x p) (e :: es) [] pos) (tMake C sp [] E0 t) := by
  obtain ⟨f, fd, M, b, F⟩ := h
  exact pe_make M F hr hg hm b .nil pass0 ha hdb he hpl
section
variable {P : Program} {w : World} {K : PySem.W.Frag} {mg : Str → Option Value} {base : Heap} {CB CT CR : Addr}
theorem has_BadText (T : Txt K mg CB CT CR) : HasX P w K mg base 1 CB ["self", "line", "column"] (spX2 CB "line" "column") := by
  obtain ⟨f, fd, a, b, F, c⟩ := T.d_BadText___init__
  refine ⟨T.x_BadText, f, fd, a, b, c, F.ok sc_BadText___init__ (fun vs H Q E h => ?_) (fun cdv A outer s H vs Q E hr h => ?_)⟩
  · obtain ⟨a, y1, y2, rfl, _⟩ := h
    rfl
  · obtain ⟨a, y1, y2, rfl, ha, k⟩ := h
    refine ⟨_, (pss_cons (ps_ost (pv 0) (pv 1))
    (pss_one (ps_ost (pv 0) (pv 2)))), ?_⟩
    refine ⟨_, rfl, _, rfl, a, CB, rfl, T.x_BadText, T.n_BadText_line, .inl ⟨ha, fun d hd hn => ?_⟩⟩
    exact ⟨_, rfl, _, rfl, a, CB, rfl, T.x_BadText, T.n_BadText_column, .inr ⟨d, _, upd_same, by rw [upd_ne hn]; exact upd_same, (by show 1 ≤ 900; decide), k d hd hn⟩⟩
theorem has_TooMany (T : Txt K mg CB CT CR) : HasX P w K mg base 1 CT ["self", "limit"] (spX1 CT "limit") := by
  obtain ⟨f, fd, a, b, F, c⟩ := T.d_TooMany___init__
  refine ⟨T.x_TooMany, f, fd, a, b, c, F.ok sc_TooMany___init__ (fun vs H Q E h => ?_) (fun cdv A outer s H vs Q E hr h => ?_)⟩
  · obtain ⟨a, y1, rfl, _⟩ := h
    rfl
  · obtain ⟨a, y1, rfl, ha, k⟩ := h
    refine ⟨_, (pss_one (ps_ost (pv 0) (pv 1))), ?_⟩
    exact ⟨_, rfl, _, rfl, a, CT, rfl, T.x_TooMany, T.n_TooMany_limit, .inl ⟨ha, fun d hd hn => k d hd hn⟩⟩
end

/-! ### the reader -/
def rf (t : Addr) (p : Nat) : List (Str × V) := [("tokens", .ref t), ("number", .int 1), ("place", .int p), ("nodes", .int 0), ("nested", .int 0)]
theorem rf_tokens (t : Addr) (p : Nat) : (rf t p).lookup ("tokens" : Str) = some (.ref t) := by
  unfold rf; rw [lookup_put, if_pos rfl]
theorem rf_number (t : Addr) (p : Nat) : (rf t p).lookup ("number" : Str) = some (.int 1) := by
  unfold rf; rw [lookup_put, if_neg (by decide +kernel), lookup_put, if_pos rfl]
theorem rf_place (t : Addr) (p : Nat) : (rf t p).lookup ("place" : Str) = some (.int p) := by
  unfold rf; rw [lookup_put, if_neg (by decide +kernel), lookup_put, if_neg (by decide +kernel), lookup_put, if_pos rfl]
theorem rf_none (t : Addr) (p : Nat) {m : Str} (h1 : ¬ m = "tokens") (h2 : ¬ m = "number") (h3 : ¬ m = "place") (h4 : ¬ m = "nodes") (h5 : ¬ m = "nested") : (rf t p).lookup m = none := by
  unfold rf; rw [lookup_put, if_neg h1, lookup_put, if_neg h2, lookup_put, if_neg h3, lookup_put, if_neg h4, lookup_put, if_neg h5]; rfl
theorem rf_put (t : Addr) (p q : Nat) : putF "place" (.int q) (rf t p) = rf t q := by
  unfold rf
  show (if ("tokens" : Str) = "place" then _ else (("tokens" : Str), V.ref t) :: (if ("number" : Str) = "place" then _ else (("number" : Str), V.int 1) :: (if ("place" : Str) = "place" then (("place" : Str), V.int q) :: [("nodes", .int 0), ("nested", .int 0)] else _))) = _
  rw [if_neg (by decide +kernel), if_neg (by decide +kernel), if_pos rfl]
theorem len_putF (f : Str) (v : V) : ∀ fs : List (Str × V), (putF f v fs).length ≤ fs.length + 1
  | [] => Nat.le_refl _
  | (g, x) :: r => by
    show (if g = f then (g, v) :: r else (g, x) :: putF f v r).length ≤ _
    have := len_putF f v r
    split <;> simp only [List.length_cons] <;> omega
theorem putF_new {f : Str} {v : V} : ∀ {fs : List (Str × V)}, (∀ p ∈ fs, ¬ p.1 = f) → putF f v fs = fs ++ [(f, v)]
  | [], _ => rfl
  | (g, x) :: r, h => by
    show (if g = f then _ else (g, x) :: putF f v r) = _
    rw [if_neg (h (g, x) (List.mem_cons_self ..)), putF_new fun p hp => h p (List.mem_cons_of_mem _ hp)]
    rfl
theorem rf_new (t : Addr) : putF "nested" (.int 0) (putF "nodes" (.int 0) (putF "place" (.int 0) (putF "number" (.int 1) (putF "tokens" (.ref t) [])))) = rf t 0 := by
  rw [putF_new (fs := []) (by simp), putF_new (f := "number") (by simp; decide +kernel), putF_new (f := "place") (by simp; decide +kernel), putF_new (f := "nodes") (by simp; decide +kernel), putF_new (f := "nested") (by simp; decide +kernel)]
  rfl
/-- a reader of the tokens ts, at place p, stands at r -/
def RdAt (CR : Addr) (H : Hp) (r : Addr) (ts : List Tk) (p : Nat) : Prop := ∃ dx t, H r = some (.ins CR dx (rf t p)) ∧ Da H (.ref t) (.tuple (ts.map Tk.d))
theorem tk_of {H : Hp} {v : V} {tk : Tk} (h : Da H v tk.d) : ∃ a, v = .ref a ∧ H a = some (.tup [.str tk.kind, .str tk.text, .int tk.col]) := by
  unfold Tk.d at h
  cases h with
  | tup e a =>
    cases a with
    | cons h1 a =>
      cases h1
      cases a with
      | cons h2 a =>
        cases h2
        cases a with
        | cons h3 a =>
          cases h3
          cases a
          exact ⟨_, rfl, e⟩
theorem tok_at {H : Hp} {t : Addr} {ts : List Tk} {p : Nat} {tk : Tk} (h : Da H (.ref t) (.tuple (ts.map Tk.d))) (e : ts[p]? = some tk) :
    ∃ xs a, H t = some (.tup xs) ∧ xs[p]? = some (.ref a) ∧ H a = some (.tup [.str tk.kind, .str tk.text, .int tk.col]) := by
  cases h with
  | tup e1 a1 =>
    obtain ⟨v, hv, hd⟩ := a1.get (i := p) (d := tk.d) (by rw [List.getElem?_map, e]; rfl)
    obtain ⟨a, rfl, ha⟩ := tk_of hd
    exact ⟨_, a, e1, hv, ha⟩
theorem str_eq (a b : Str) : decide (V.str a = V.str b) = decide (a = b) := by
  by_cases h : a = b
  · subst h; simp
  · have : ¬ V.str a = V.str b := fun e => h (V.str.inj e)
    rw [decide_eq_false h, decide_eq_false this]
def spRInit (CR : Addr) : Sp := fun vs H Q _ => ∃ (r t dx : Addr) (xs : List V), vs = [.ref r, .ref t, .int 1] ∧ H r = some (.ins CR dx []) ∧ H t = some (.tup xs) ∧ Q .non (upd H r (.ins CR dx (rf t 0)))
def spPeek (CR : Addr) : Sp := fun vs H Q _ => ∃ (r : Addr) (ts : List Tk) (p : Nat) (tk : Tk), vs = [.ref r] ∧ RdAt CR H r ts p ∧ ts[p]? = some tk ∧
  ∀ a, H a = some (.tup [.str tk.kind, .str tk.text, .int tk.col]) → Q (.ref a) H
def spTake (CR : Addr) : Sp := fun vs H Q _ => ∃ (r : Addr) (ts : List Tk) (p : Nat) (tk : Tk), vs = [.ref r] ∧ RdAt CR H r ts p ∧ ts[p]? = some tk ∧ ¬ tk.kind = kEnd ∧
  ∀ a H', RdAt CR H' r ts (p + 1) → (∀ b, b ≠ r → H' b = H b) → Q (.ref a) H'
def spNext (CR : Addr) : Sp := fun vs H Q _ => ∃ (r : Addr) (ts : List Tk) (p : Nat) (tk : Tk) (k z : Str), vs = [.ref r, .str k, .str z] ∧ RdAt CR H r ts p ∧ ts[p]? = some tk ∧ Q (.bl (decide (tk.kind = k ∧ tk.text = z))) H
/-- BadText at this column -/
def bad (CB : Addr) (H : Hp) (col : Int) (E : XK) : Prop := ∀ d, H d = none → E (.ref CB) (some d) (upd H d (.xd [("column", .int col), ("line", .int 1)]))
def spFail (CB CR : Addr) : Sp := fun vs H _ E => ∃ (r : Addr) (ts : List Tk) (p : Nat) (tk : Tk), vs = [.ref r] ∧ RdAt CR H r ts p ∧ ts[p]? = some tk ∧ bad CB H tk.col E
def spAskEnd (CB CR : Addr) : Sp := fun vs H Q E => ∃ (r : Addr) (ts : List Tk) (p : Nat) (tk : Tk), vs = [.ref r] ∧ RdAt CR H r ts p ∧ ts[p]? = some tk ∧ (tk.kind = kEnd → Q .non H) ∧ (¬ tk.kind = kEnd → bad CB H tk.col E)
section
variable {P : Program} {w : World} {K : PySem.W.Frag} {mg : Str → Option Value} {base : Heap} {CB CT CR : Addr}
theorem has_Reader (T : Txt K mg CB CT CR) : HasI P w K mg base 1 CR ["self", "tokens", "line"] (spRInit CR) := by
  obtain ⟨f, fd, M, F, b⟩ := T.d_Reader___init__
  refine ⟨f, fd, ⟨T.mk_Reader.1, M.at_, M.fn, T.mk_Reader.2⟩, b, F.ok sc_Reader___init__ (fun vs H Q E h => ?_) (fun cdv A outer s H vs Q E hr h => ?_)⟩
  · obtain ⟨r, t, dx, xs, rfl, _⟩ := h
    rfl
  · obtain ⟨r, t, dx, xs, rfl, hr1, ht, k⟩ := h
    refine ⟨_, (pss_cons (ps_fld (pv 0) (pe_callTy call_tuple_of (by rfl) T.b_tuple (by decide +kernel) (pa_cons (pv 1) pa_nil)) rfl)
    (pss_cons (ps_fld (pv 0) (pv 2) rfl)
    (pss_cons (ps_fld (pv 0) pe_int rfl)
    (pss_cons (ps_fld (pv 0) pe_int rfl)
    (pss_one (ps_fld (pv 0) pe_int rfl)))))), ?_⟩
    refine ⟨_, rfl, t, xs, rfl, .inr ⟨SqT.of ht, ?_⟩⟩
    refine ⟨_, rfl, r, CR, dx, _, rfl, hr1, T.k_Reader, T.n_Reader_tokens, (by show 0 < 1000; decide), ?_⟩
    refine ⟨_, rfl, _, rfl, r, CR, dx, _, rfl, upd_same, T.k_Reader, T.n_Reader_number, (by show 1 < 1000; decide), ?_⟩
    have l1 := len_putF "tokens" (.ref t) []
    have l2 := len_putF "number" (.int 1) (putF "tokens" (.ref t) [])
    have l3 := len_putF "place" (.int 0) (putF "number" (.int 1) (putF "tokens" (.ref t) []))
    have l4 := len_putF "nodes" (.int 0) (putF "place" (.int 0) (putF "number" (.int 1) (putF "tokens" (.ref t) [])))
    rw [List.length_nil] at l1
    refine ⟨_, rfl, r, CR, dx, _, rfl, upd_same, T.k_Reader, T.n_Reader_place, (by omega), ?_⟩
    refine ⟨_, rfl, r, CR, dx, _, rfl, upd_same, T.k_Reader, T.n_Reader_nodes, (by omega), ?_⟩
    refine ⟨_, rfl, r, CR, dx, _, rfl, upd_same, T.k_Reader, T.n_Reader_nested, (by omega), ?_⟩
    rw [rf_new, upd_upd, upd_upd, upd_upd, upd_upd]
    exact k
theorem ok_peek (T : Txt K mg CB CT CR) : HasM P w K mg base CX0 1 CR "peek" ["self"] (spPeek CR) := by
  refine hasM_of T.k_Reader T.d_Reader_peek fun f fd F => F.ok sc_Reader_peek (fun vs H Q E h => ?_) (fun cdv A outer s H vs Q E hr h => ?_)
  · obtain ⟨r, ts, p, tk, rfl, _⟩ := h
    rfl
  · obtain ⟨r, ts, p, tk, rfl, ⟨dx, t, h1, h2⟩, hp, k⟩ := h
    refine ⟨_, (pss_one (ps_ret (pe_ix ix_tup (pe_fld (pv 0) rfl) (pe_fld (pv 0) rfl) (fun _ _ => rfl)))), ?_⟩
    obtain ⟨xs, a, ht, hx, ha⟩ := tok_at h2 hp
    refine ⟨_, rfl, r, CR, dx, _, _, rfl, h1, T.k_Reader, T.n_Reader_tokens, rf_tokens _ _, _, rfl, r, CR, dx, _, _, rfl, h1, T.k_Reader, T.n_Reader_place, rf_place _ _, ?_⟩
    exact ⟨t, xs, p, _, rfl, rfl, SqT.of ht, atI_nat hx, k a ha⟩
theorem ok_take (T : Txt K mg CB CT CR) : HasM P w K mg base CX0 1 CR "take" ["self"] (spTake CR) := by
  refine hasM_of T.k_Reader T.d_Reader_take fun f fd F => F.ok sc_Reader_take (fun vs H Q E h => ?_) (fun cdv A outer s H vs Q E hr h => ?_)
  · obtain ⟨r, ts, p, tk, rfl, _⟩ := h
    rfl
  · obtain ⟨r, ts, p, tk, rfl, ⟨dx, t, h1, h2⟩, hp, hk, k⟩ := h
    refine ⟨_, (pss_cons (ps_set (i := 1) sc_Reader_take.nd rfl (Or.inl rfl) (pe_ix ix_tup (pe_fld (pv 0) rfl) (pe_fld (pv 0) rfl) (fun _ _ => rfl)))
    (C8.pss_cut (ps_if (pt_cmpR op_ne (pe_ix ix_tup (pv 1) pe_int (fun _ _ => rfl)) pe_str (nomark _))
      (pss_one (ps_fldaug (pv 0) pe_int in_add))
      pss_nil)
    (pss_one (ps_ret (pv 1))))), ?_⟩
    obtain ⟨xs, a, ht, hx, ha⟩ := tok_at h2 hp
    have nrt : r ≠ t := ne_of h1 ht (fun q => nomatch q)
    refine ⟨_, rfl, r, CR, dx, _, _, rfl, h1, T.k_Reader, T.n_Reader_tokens, rf_tokens _ _, _, rfl, r, CR, dx, _, _, rfl, h1, T.k_Reader, T.n_Reader_place, rf_place _ _, ?_⟩
    refine ⟨t, xs, p, _, rfl, rfl, SqT.of ht, atI_nat hx, ?_⟩
    refine ⟨fun σ' H' => σ' = [some (.ref r), some (.ref a)] ∧ RdAt CR H' r ts (p + 1) ∧ ∀ b, b ≠ r → H' b = H b, ?_, fun σ' H' ⟨e, R, fr⟩ => by subst e; exact ⟨_, rfl, k a H' R fr⟩⟩
    refine ⟨_, rfl, a, _, _, _, rfl, rfl, SqT.of ha, rfl, rfl, _, rfl, ?_⟩
    refine ite2 (fun _ => ?_) (fun c => ?_)
    · refine ⟨_, rfl, r, CR, dx, _, _, rfl, h1, T.k_Reader, T.n_Reader_place, rf_place _ _, _, _, rfl, rfl, dx, _, h1, (by show 5 < 1000; decide), rfl, ?_⟩
      have e : putF "place" (V.int ((p : Int) + 1)) (rf t p) = rf t (p + 1) := rf_put t p (p + 1)
      refine ⟨⟨dx, t, by rw [← e]; exact upd_same, h2.mono fun b ys eb => ?_⟩, fun b hb => upd_ne hb⟩
      rw [upd_ne (ne_of eb h1 (fun q => nomatch q))]
      exact eb
    · refine (hk ?_).elim
      rw [str_eq] at c
      have c2 : tk.kind = Str.ofString "end" := by simpa using c
      exact c2
theorem ok_next (T : Txt K mg CB CT CR) : HasM P w K mg base CX0 1 CR "next_is" ["self", "kind", "text"] (spNext CR) := by
  refine hasM_of T.k_Reader T.d_Reader_next_is fun f fd F => F.ok sc_Reader_next_is (fun vs H Q E h => ?_) (fun cdv A outer s H vs Q E hr h => ?_)
  · obtain ⟨r, ts, p, tk, k0, z0, rfl, _⟩ := h
    rfl
  · obtain ⟨r, ts, p, tk, k0, z0, rfl, ⟨dx, t, h1, h2⟩, hp, k⟩ := h
    refine ⟨_, (pss_cons (ps_set (i := 3) sc_Reader_next_is.nd rfl (Or.inl rfl) (pe_ix ix_tup (pe_fld (pv 0) rfl) (pe_fld (pv 0) rfl) (fun _ _ => rfl)))
    (pss_one (ps_ret (pe_and (pe_cmpR op_eq (pe_ix ix_tup (pv 3) pe_int (fun _ _ => rfl)) (pv 1) (nomark _)) (pe_one (pe_cmpR op_eq (pe_ix ix_tup (pv 3) pe_int (fun _ _ => rfl)) (pv 2) (nomark _))))))), ?_⟩
    obtain ⟨xs, a, ht, hx, ha⟩ := tok_at h2 hp
    refine ⟨_, rfl, r, CR, dx, _, _, rfl, h1, T.k_Reader, T.n_Reader_tokens, rf_tokens _ _, _, rfl, r, CR, dx, _, _, rfl, h1, T.k_Reader, T.n_Reader_place, rf_place _ _, ?_⟩
    refine ⟨t, xs, p, _, rfl, rfl, SqT.of ht, atI_nat hx, ?_⟩
    refine ⟨_, rfl, a, _, _, _, rfl, rfl, SqT.of ha, rfl, _, rfl, rfl, _, rfl, ite2 (fun c => ?_) (fun c => ?_)⟩
    · rw [str_eq] at c
      refine ⟨_, rfl, a, _, _, _, rfl, rfl, SqT.of ha, rfl, _, rfl, rfl, ?_⟩
      have e : decide (V.str tk.text = V.str z0) = decide (tk.kind = k0 ∧ tk.text = z0) := by
        rw [str_eq]
        exact decide_eq_decide.mpr ⟨fun q => ⟨of_decide_eq_true c, q⟩, fun q => q.2⟩
      show Q (.bl (decide (V.str tk.text = V.str z0))) H
      rw [e]
      exact k
    · rw [str_eq] at c
      have e : false = decide (tk.kind = k0 ∧ tk.text = z0) := (decide_eq_false fun q => c (decide_eq_true q.1)).symm
      rw [← e] at k
      exact k
theorem ok_fail (T : Txt K mg CB CT CR) : HasM P w K mg base (L2.CX P w) 3 CR "fail" ["self"] (spFail CB CR) := by
  have h_BadText : HasX P w K mg base 1 CB ["self", "line", "column"] (spX2 CB "line" "column") := has_BadText T
  refine hasM_of T.k_Reader T.d_Reader_fail fun f fd F => F.okX sc_Reader_fail (fun vs H Q E h => ?_) (fun cdv A outer s H vs Q E hr h => ?_)
  · obtain ⟨r, ts, p, tk, rfl, _⟩ := h
    rfl
  · obtain ⟨r, ts, p, tk, rfl, ⟨dx, t, h1, h2⟩, hp, k⟩ := h
    refine ⟨_, (pss_one (ps_raise rfl (takes_of rfl rfl rfl rfl) (pmk_o h_BadText T.g_BadText (hr.mono (by decide)) rfl (pa_cons (pe_fld (pv 0) rfl) (pa_cons (pe_ix ix_tup (pe_ix ix_tup (pe_fld (pv 0) rfl) (pe_fld (pv 0) rfl) (fun _ _ => rfl)) pe_int (fun _ _ => rfl)) pa_nil))))), ?_⟩
    obtain ⟨xs, a, ht, hx, ha⟩ := tok_at h2 hp
    refine ⟨_, rfl, r, CR, dx, _, _, rfl, h1, T.k_Reader, T.n_Reader_number, rf_number _ _, ?_⟩
    refine ⟨_, rfl, r, CR, dx, _, _, rfl, h1, T.k_Reader, T.n_Reader_tokens, rf_tokens _ _, _, rfl, r, CR, dx, _, _, rfl, h1, T.k_Reader, T.n_Reader_place, rf_place _ _, ?_⟩
    refine ⟨t, xs, p, _, rfl, rfl, SqT.of ht, atI_nat hx, ?_⟩
    refine ⟨a, _, _, _, rfl, rfl, SqT.of ha, rfl, (by show 2 ≤ 1000; decide), fun e he => ?_⟩
    exact x2_of he fun d hd => k d hd
theorem ok_ask_end (T : Txt K mg CB CT CR) : HasM P w K mg base (L2.CX P w) 4 CR "ask_end" ["self"] (spAskEnd CB CR) := by
  have h_Reader_peek : HasM P w K mg base CX0 1 CR "peek" ["self"] (spPeek CR) := ok_peek T
  have h_Reader_fail : HasM P w K mg base (L2.CX P w) 3 CR "fail" ["self"] (spFail CB CR) := ok_fail T
  refine hasM_of T.k_Reader T.d_Reader_ask_end fun f fd F => F.okX sc_Reader_ask_end (fun vs H Q E h => ?_) (fun cdv A outer s H vs Q E hr h => ?_)
  · obtain ⟨r, ts, p, tk, rfl, _⟩ := h
    rfl
  · obtain ⟨r, ts, p, tk, rfl, R, hp, k1, k2⟩ := h
    refine ⟨_, (pss_one (ps_if (pt_cmpR op_ne (pe_ix ix_tup (pe_m0 h_Reader_peek (hr.mono (by decide)) (pv 0)) pe_int (fun _ _ => rfl)) pe_str (nomark _))
      (pss_one (ps_expr (pe_m0x h_Reader_fail (takes_of rfl rfl rfl rfl) (hr.mono (by decide)) (pv 0))))
      pss_nil)), ?_⟩
    obtain ⟨dx, t, h1, h2⟩ := id R
    have nm : ∀ m : Str, ¬ m = "tokens" → ¬ m = "number" → ¬ m = "place" → ¬ m = "nodes" → ¬ m = "nested" → (rf t p).lookup m = none := fun m a b c d e => rf_none t p a b c d e
    refine ⟨_, rfl, r, dx, _, rfl, h1, nm _ (by decide +kernel) (by decide +kernel) (by decide +kernel) (by decide +kernel) (by decide +kernel), r, ts, p, tk, rfl, R, hp, fun a ha => ?_⟩
    refine ⟨a, _, _, _, rfl, rfl, SqT.of ha, rfl, rfl, _, rfl, ?_⟩
    rw [str_eq]
    by_cases c : tk.kind = kEnd
    · rw [decide_eq_true (show tk.kind = Str.ofString "end" from c)]
      exact iteF (k1 c)
    · rw [decide_eq_false (show ¬ tk.kind = Str.ofString "end" from c)]
      refine iteT ?_
      refine ⟨_, rfl, r, dx, _, rfl, h1, nm _ (by decide +kernel) (by decide +kernel) (by decide +kernel) (by decide +kernel) (by decide +kernel), r, ts, p, tk, rfl, R, hp, k2 c⟩
end
end PV
namespace PV
open PySem PySem.Spec PyProof.Rows L2

/-! ### read_single -/
def TkOk (t : Tk) : Prop := t.text.length ≤ 100000 ∧ (t.kind = kNum → ∀ d, asNum t.text = some d → t.text.length ≤ 640 ∧ ∃ n, intText? t.text = some n)
def spSingle (CB CR : Addr) : Sp := fun vs H Q E => ∃ (r : Addr) (ts : List Tk) (p : Nat) (tk : Tk), vs = [.ref r] ∧ RdAt CR H r ts p ∧ ts[p]? = some tk ∧ TkOk tk ∧
  (∀ d v H', single tk = some d → Da H' v d → RdAt CR H' r ts (p + 1) → (∀ b, b ≠ r → H' b = H b) → Q v H') ∧ (single tk = none → bad CB H tk.col E)
theorem head_zero {z : Str} (h : 1 < z.length) : ∃ y, atI z.cps.toList 0 = some y ∧ (decide (V.str ⟨#[y]⟩ = V.str (Str.ofString "0")) = true ↔ z.cps.toList.head? = some 48) := by
  have hl := TL.len_tl z
  cases e : z.cps.toList with
  | nil =>
    have : z.length = 0 := by rw [hl]; show z.cps.toList.length = 0; rw [e]; rfl
    omega
  | cons y w =>
    refine ⟨y, atI_nat (xs := y :: w) (j := 0) rfl, ?_⟩
    have e0 : Str.ofString "0" = S [48] := by decide +kernel
    rw [e0, decide_eq_true_eq]
    constructor
    · intro q
      rw [str_inj q]
      rfl
    · intro q
      have : y = 48 := Option.some.inj q
      rw [this]
      rfl
section
variable {P : Program} {w : World} {K : PySem.W.Frag} {mg : Str → Option Value} {base : Heap} {CB CT CR : Addr}
theorem ok_single (T : Txt K mg CB CT CR) : Has P w K mg base (L2.CX P w) 4 "read_single" ["reader"] (spSingle CB CR) := by
  have h_Reader_peek : HasM P w K mg base CX0 1 CR "peek" ["self"] (spPeek CR) := ok_peek T
  have h_Reader_take : HasM P w K mg base CX0 1 CR "take" ["self"] (spTake CR) := ok_take T
  have h_Reader_fail : HasM P w K mg base (L2.CX P w) 3 CR "fail" ["self"] (spFail CB CR) := ok_fail T
  refine has_of T.d_read_single fun f fd F => F.okX sc_read_single (fun vs H Q E h => ?_) (fun cdv A outer s H vs Q E hr h => ?_)
  · obtain ⟨r, ts, p, tk, rfl, _⟩ := h
    rfl
  · obtain ⟨r, ts, p, tk, rfl, R, hp, hok, k1, k2⟩ := h
    refine ⟨_, (pss_cons (ps_asg (pe_m0 h_Reader_peek (hr.mono (by decide)) (pv 0)) (pg_tup (by rfl) (pgs_cons (pg_name (i := 1) sc_read_single.nd rfl (Or.inl rfl)) (pgs_cons (pg_name (i := 2) sc_read_single.nd rfl (Or.inl rfl)) (pgs_cons (pg_name (i := 3) sc_read_single.nd rfl (Or.inl rfl)) pgs_nil)))))
    (pss_cons (ps_if (pt_cmpR op_eq (pv 1) pe_str (nomark _))
      (pss_cons (ps_if (PW.pt (pw_or (pt_cmpR op_gt (pe_callB call_len_str (by rfl) T.b_len (by decide +kernel) (pa_cons (pv 2) pa_nil)) (pe_gi T.c_MOST_DIGITS rfl) (nomark _)) (pw_or1 (PW.pt (pw_and (pt_cmpR op_gt (pe_callB call_len_str (by rfl) T.b_len (by decide +kernel) (pa_cons (pv 2) pa_nil)) pe_int (nomark _)) (pw_and1 (pt_cmpR op_eq (pe_ix ix_str (pv 2) pe_int (fun _ _ => rfl)) pe_str (nomark _))))))))
        (pss_one (ps_expr (pe_m0x h_Reader_fail (takes_of rfl rfl rfl rfl) (hr.mono (by decide)) (pv 0))))
        pss_nil)
      (pss_cons (ps_expr (pe_m0 h_Reader_take (hr.mono (by decide)) (pv 0)))
      (pss_one (ps_ret (pe_callTy call_int_str (by rfl) T.b_int (by decide +kernel) (pa_cons (pv 2) pa_nil))))))
      pss_nil)
    (pss_cons (ps_if (PW.pt (pw_or (pt_cmpR op_ne (pv 1) pe_str (nomark _)) (pw_or1 (pt_cmpR op_gt (pe_callB call_len_str (by rfl) T.b_len (by decide +kernel) (pa_cons (pv 2) pa_nil)) (pe_gi T.c_MOST_LETTERS rfl) (nomark _)))))
      (pss_one (ps_expr (pe_m0x h_Reader_fail (takes_of rfl rfl rfl rfl) (hr.mono (by decide)) (pv 0))))
      pss_nil)
    (pss_cons (ps_expr (pe_m0 h_Reader_take (hr.mono (by decide)) (pv 0)))
    (pss_one (ps_ret (pv 2))))))), ?_⟩
    obtain ⟨dx, t, h1, h2⟩ := id R
    have nm : ∀ m : Str, ¬ m = "tokens" → ¬ m = "number" → ¬ m = "place" → ¬ m = "nodes" → ¬ m = "nested" → (rf t p).lookup m = none := fun m a b c d e => rf_none t p a b c d e
    have np := nm "peek" (by decide +kernel) (by decide +kernel) (by decide +kernel) (by decide +kernel) (by decide +kernel)
    have nt := nm "take" (by decide +kernel) (by decide +kernel) (by decide +kernel) (by decide +kernel) (by decide +kernel)
    have nf := nm "fail" (by decide +kernel) (by decide +kernel) (by decide +kernel) (by decide +kernel) (by decide +kernel)
    have hz := hok.1
    refine ⟨_, rfl, r, dx, _, rfl, h1, np, r, ts, p, tk, rfl, R, hp, fun a ha => ?_⟩
    refine ⟨a, _, rfl, SqT.of ha, rfl, _, _, rfl, _, _, rfl, _, _, rfl, rfl, ?_⟩
    refine ⟨_, rfl, rfl, _, rfl, ite2 (fun c => ?_) (fun c => ?_)⟩
    · rw [str_eq] at c
      have kn : tk.kind = kNum := of_decide_eq_true c
      have sg : single tk = asNum tk.text := by unfold single singleK; rw [if_pos kn]
      have ne : ¬ tk.kind = kEnd := fun q => absurd (q.symm.trans kn) (by decide +kernel)
      -- len(text) > 9
      refine ⟨_, rfl, _, rfl, small (by omega), _, _, rfl, rfl, _, rfl, ite2 (fun c1 => ?_) (fun c1 => ?_)⟩
      · refine iteT ⟨_, rfl, r, dx, _, rfl, h1, nf, r, ts, p, tk, rfl, R, hp, k2 ?_⟩
        rw [sg]; unfold asNum
        rw [if_pos (.inl (by have := of_decide_eq_true c1; omega))]
      · have l9 : ¬ 9 < tk.text.length := fun q => c1 (decide_eq_true (by omega))
        have good : ¬ (1 < tk.text.length ∧ tk.text.cps.toList.head? = some 48) → (tSeq (tDrop (tMeth CR "take" (spTake CR) [] E0 (tVar 0) tNil)) (tRet (tCB (fun xs H Q => ∃ a n, xs = [.str a] ∧ PySem.intText? a = some n ∧ a.length ≤ 640 ∧ Q (.int n) H) (tCons (tVar 2) tNil))))
            { nx := fun _ H' => Q .non H', rt := Q } [some (.ref r), some (.str tk.kind), some (.str tk.text), some (.int tk.col)] H := fun c2 => by
          have ea : asNum tk.text = some (.int ((intText? tk.text).getD 0)) := by
            unfold asNum
            rw [if_neg (fun q => q.elim l9 c2)]
          obtain ⟨h640, n, hn⟩ := hok.2 kn _ ea
          refine ⟨_, rfl, r, dx, _, rfl, h1, nt, r, ts, p, tk, rfl, R, hp, ne, fun a' H' R' fr => ?_⟩
          refine ⟨_, rfl, tk.text, n, rfl, hn, h640, k1 (.int n) _ H' ?_ (.int n) R' fr⟩
          rw [sg, ea, hn]
          rfl
        by_cases c2 : 1 < tk.text.length
        · obtain ⟨y, hy, hiff⟩ := head_zero c2
          refine ⟨_, rfl, _, rfl, small (by omega), _, _, rfl, rfl, _, rfl, ?_⟩
          rw [decide_eq_true (show (1 : Int) < (tk.text.length : Int) by omega)]
          refine iteT ⟨_, rfl, _, _, y, rfl, rfl, small (by omega), hy, rfl, _, rfl, ite2 (fun c3 => ?_) (fun c3 => ?_)⟩
          · refine ⟨_, rfl, r, dx, _, rfl, h1, nf, r, ts, p, tk, rfl, R, hp, k2 ?_⟩
            rw [sg]; unfold asNum
            rw [if_pos (.inr ⟨c2, hiff.mp c3⟩)]
          · exact good fun q => c3 (hiff.mpr q.2)
        · refine ⟨_, rfl, _, rfl, small (by omega), _, _, rfl, rfl, _, rfl, ?_⟩
          rw [decide_eq_false (show ¬ (1 : Int) < (tk.text.length : Int) by omega)]
          exact iteF (iteF (good fun q => c2 q.1))
    · rw [str_eq] at c
      have kn : ¬ tk.kind = kNum := fun q => c (decide_eq_true q)
      refine ⟨_, rfl, rfl, _, rfl, ?_⟩
      rw [str_eq]
      by_cases kw : tk.kind = kWord
      · rw [decide_eq_true (show tk.kind = Str.ofString "word" from kw)]
        refine iteF ⟨_, rfl, _, rfl, small (by omega), _, _, rfl, rfl, _, rfl, ite2 (fun c1 => ?_) (fun c1 => ?_)⟩
        · refine ⟨_, rfl, r, dx, _, rfl, h1, nf, r, ts, p, tk, rfl, R, hp, k2 ?_⟩
          unfold single singleK
          rw [if_neg kn, if_pos (.inr (by have := of_decide_eq_true c1; omega))]
        · have l8 : ¬ 8 < tk.text.length := fun q => c1 (decide_eq_true (by omega))
          have ne : ¬ tk.kind = kEnd := fun q => absurd (q.symm.trans kw) (by decide +kernel)
          refine ⟨_, rfl, r, dx, _, rfl, h1, nt, r, ts, p, tk, rfl, R, hp, ne, fun a' H' R' fr => ?_⟩
          refine ⟨_, rfl, k1 (.str tk.text) _ H' ?_ (.str _) R' fr⟩
          unfold single singleK
          rw [if_neg kn, if_neg (fun q => q.elim (fun q => q kw) l8)]
      · rw [decide_eq_false (show ¬ tk.kind = Str.ofString "word" from kw)]
        refine iteT (iteT ⟨_, rfl, r, dx, _, rfl, h1, nf, r, ts, p, tk, rfl, R, hp, k2 ?_⟩)
        unfold single singleK
        rw [if_neg kn, if_pos (.inl kw)]
end
end PV
set_option maxHeartbeats 4000000
namespace PV
open PySem PySem.Spec PyProof.Rows L2

/-! ### a stack of lists -/
/-- the lists at as (the top first) hold st; no two alike -/
inductive Stk (H : Hp) (n : Nat) : List Addr → List (List PyData) → Prop
  | nil : Stk H n [] []
  | cons {a : Addr} {as : List Addr} {vs : List V} {ds : List PyData} {st : List (List PyData)} : H a = some (.lst vs) → DaAll H vs ds → ¬ a ∈ as → vs.length ≤ n → Stk H n as st → Stk H n (a :: as) (ds :: st)
theorem Stk.mono {H H' : Hp} {n m : Nat} {as : List Addr} {st : List (List PyData)} (s : Stk H n as st) (hm : n ≤ m) : (∀ a ∈ as, H' a = H a) → (∀ a xs, H a = some (.tup xs) → H' a = some (.tup xs)) → Stk H' m as st := by
  induction s with
  | nil => exact fun _ _ => .nil
  | cons h d n z _ ih => exact fun k t => .cons ((k _ (List.mem_cons_self ..)).trans h) (d.mono t) n (Nat.le_trans z hm) (ih (fun a ha => k a (List.mem_cons_of_mem _ ha)) t)
theorem Stk.length {H : Hp} {n : Nat} {as : List Addr} {st : List (List PyData)} (s : Stk H n as st) : as.length = st.length := by
  induction s with
  | nil => rfl
  | cons _ _ _ _ _ ih => rw [List.length_cons, List.length_cons, ih]
theorem Stk.there {H : Hp} {n : Nat} {as : List Addr} {st : List (List PyData)} (s : Stk H n as st) : ∀ a ∈ as, ∃ vs, H a = some (.lst vs) := by
  induction s with
  | nil => exact fun _ h => nomatch h
  | cons h _ _ _ _ ih =>
    intro b hb
    rcases List.mem_cons.mp hb with e | hb
    · exact ⟨_, by rw [e]; exact h⟩
    · exact ih b hb
/-- Python's own list of the stack: the top last -/
def rev (as : List Addr) : List V := (as.reverse).map V.ref
theorem rev_cons (a : Addr) (as : List Addr) : rev (a :: as) = rev as ++ [.ref a] := by simp [rev]
theorem rev_len (as : List Addr) : (rev as).length = as.length := by simp [rev]
theorem rev_last (a : Addr) (as : List Addr) : (rev (a :: as))[(rev (a :: as)).length - 1]? = some (.ref a) := by
  rw [rev_cons, List.length_append]
  simp
theorem rev_atLast (a : Addr) (as : List Addr) : atI (rev (a :: as)) (-1) = some (.ref a) := by
  have e := rev_last a as
  have hl : (rev (a :: as)).length = as.length + 1 := by rw [rev_len]; rfl
  unfold atI
  have : ixN (rev (a :: as)).length (-1) = some ((rev (a :: as)).length - 1) := by
    rw [hl]
    unfold ixN
    simp
    omega
  rw [this]
  exact e
theorem rev_drop (a : Addr) (as : List Addr) : (rev (a :: as)).dropLast = rev as := by rw [rev_cons, List.dropLast_concat]

def many (CT : Addr) (H : Hp) (E : XK) : Prop := ∀ d, H d = none → E (.ref CT) (some d) (upd H d (.xd [("limit", .int 12)]))
/-- how a row of tokens ends -/
def Ended (ts : List Tk) : Prop := ∃ pre z c, ts = pre ++ [⟨kEnd, z, c⟩]
theorem Ended.next {ts : List Tk} {p : Nat} {tk : Tk} (e : Ended ts) (h : ts[p]? = some tk) (n : ¬ tk.kind = kEnd) : ∃ tk', ts[p + 1]? = some tk' := by
  obtain ⟨pre, z, c, rfl⟩ := e
  have hp : p < (pre ++ [(⟨kEnd, z, c⟩ : Tk)]).length := (List.getElem?_eq_some_iff.mp h).1
  rw [List.length_append] at hp
  have hp' : p < pre.length + 1 := hp
  by_cases q : p = pre.length
  · subst q
    rw [List.getElem?_append_right (Nat.le_refl _), Nat.sub_self] at h
    have : (⟨kEnd, z, c⟩ : Tk) = tk := Option.some.inj h
    rw [← this] at n
    exact (n rfl).elim
  · exact ⟨_, List.getElem?_eq_getElem (by rw [List.length_append]; show p + 1 < pre.length + 1; omega)⟩
def spValue (CB CT CR : Addr) : Sp := fun vs H Q E => ∃ (r : Addr) (ts : List Tk) (p : Nat), vs = [.ref r] ∧ RdAt CR H r ts p ∧ (∀ tk ∈ ts, TkOk tk) ∧ Ended ts ∧ p < ts.length ∧ ts.length ≤ 90000 ∧
  (∀ d p', rd (ts.drop p) [] = .val d (ts.drop p') → p' < ts.length → ∀ v H', Da H' v d → RdAt CR H' r ts p' → Kp [r] H H' → Q v H') ∧
  (∀ c, rd (ts.drop p) [] = .bad c → ∀ H', Kp [r] H H' → bad CB H' c E) ∧ (rd (ts.drop p) [] = .many → ∀ H', Kp [r] H H' → many CT H' E)
theorem drop_at {ts : List Tk} {q : Nat} {tk : Tk} (h : ts[q]? = some tk) : ts.drop q = tk :: ts.drop (q + 1) := by
  obtain ⟨hl, e⟩ := List.getElem?_eq_some_iff.mp h
  rw [List.drop_eq_getElem_cons hl, e]
theorem sign_ne {tk : Tk} (h : tk.kind = kSign) : ¬ tk.kind = kEnd := fun q => absurd (h.symm.trans q) (by decide +kernel)
theorem single_ne {tk : Tk} {d : PyData} (h : single tk = some d) : ¬ tk.kind = kEnd := fun q => by
  have : single tk = none := by
    unfold single singleK
    rw [q, if_neg kEN, if_pos (.inl kEW)]
  rw [this] at h
  cases h
/-- a frame: all but r stands, so what stood stands -/
theorem kp_r {H H1 H2 : Hp} {r : Addr} {CR : Addr} {ts : List Tk} {p : Nat} (k : Kp [r] H H1) (R : RdAt CR H1 r ts p) (fr : ∀ b, b ≠ r → H2 b = H1 b) : Kp [r] H H2 :=
  ⟨fun a o e n => by
    have ha : a ≠ r := fun q => n (by rw [q]; exact List.mem_singleton.mpr rfl)
    rw [fr a ha]; exact k.keep a o e n, fun a xs e => by
    have e1 := k.tups a xs e
    have ha : a ≠ r := fun q => by
      obtain ⟨dx, t, h, _⟩ := R
      rw [q, h] at e1
      cases e1
    rw [fr a ha]; exact e1⟩
theorem tup_r {H1 H2 : Hp} {r : Addr} {CR : Addr} {ts : List Tk} {p : Nat} (R : RdAt CR H1 r ts p) (fr : ∀ b, b ≠ r → H2 b = H1 b) : ∀ a xs, H1 a = some (.tup xs) → H2 a = some (.tup xs) := fun a xs e => by
  have ha : a ≠ r := fun q => by
    obtain ⟨dx, t, h, _⟩ := R
    rw [q, h] at e
    cases e
  rw [fr a ha]; exact e
theorem RdAt.upd {CR : Addr} {H : Hp} {r : Addr} {ts : List Tk} {p : Nat} {a : Addr} {o : HO} (R : RdAt CR H r ts p) (ha : a ≠ r) (t : ∀ b xs, H b = some (.tup xs) → L2.upd H a o b = some (.tup xs)) : RdAt CR (L2.upd H a o) r ts p := by
  obtain ⟨dx, t0, h1, h2⟩ := R
  exact ⟨dx, t0, by rw [upd_ne ha.symm]; exact h1, h2.mono t⟩
/-- behind the choice: a value d has come, st' is left of the stack -/
def MidV (CR r l : Addr) (H : Hp) (ts : List Tk) (q : Nat) (tk : Tk) (st : List (List PyData)) : L2.St → Hp → Prop := fun σ' H1 => ∃ (d : PyData) (v : V) (as' : List Addr) (st' : List (List PyData)), σ' = [some (.ref r), some (.ref l), some v] ∧ stepT tk st = putN d st' ∧ RdAt CR H1 r ts (q + 1) ∧ H1 l = some (.lst (rev as')) ∧ Stk H1 q as' st' ∧
        (∀ a ∈ as', H a = none) ∧ ¬ l ∈ as' ∧ Kp [r] H H1 ∧ st'.length ≤ 12 ∧ Da H1 v d ∧ ¬ tk.kind = kEnd
section
variable {P : Program} {w : World} {K : PySem.W.Frag} {mg : Str → Option Value} {base : Heap} {CB CT CR : Addr}
theorem ok_value (T : Txt K mg CB CT CR) : Has P w K mg base (L2.CX P w) 5 "read_value" ["reader"] (spValue CB CT CR) := by
  have h_Reader_take : HasM P w K mg base CX0 1 CR "take" ["self"] (spTake CR) := ok_take T
  have h_Reader_next_is : HasM P w K mg base CX0 1 CR "next_is" ["self", "kind", "text"] (spNext CR) := ok_next T
  have h_read_single : Has P w K mg base (L2.CX P w) 4 "read_single" ["reader"] (spSingle CB CR) := ok_single T
  have h_TooMany : HasX P w K mg base 1 CT ["self", "limit"] (spX1 CT "limit") := has_TooMany T
  refine has_of T.d_read_value fun f fd F => F.okX sc_read_value (fun vs H Q E h => ?_) (fun cdv A outer s H vs Q E hr h => ?_)
  · obtain ⟨r, ts, p, rfl, _⟩ := h
    rfl
  · obtain ⟨r, ts, p, rfl, R, hok, hend, hp, hts, kV, kB, kM⟩ := h
    refine ⟨_, (pss_cons (ps_set (i := 1) sc_read_value.nd rfl (Or.inl rfl) (pe_lst pa_nil))
    (pss_one (ps_while (passes_of rfl) (pt_val pe_bl)
      (pss_cons (ps_if (pt_val (pe_m h_Reader_next_is (hr.mono (by decide)) (pv 0) (pa_cons pe_str (pa_cons pe_str pa_nil))))
        (pss_cons (ps_if (pt_cmpR op_ge (pe_callB call_len_seq (by rfl) T.b_len (by decide +kernel) (pa_cons (pv 1) pa_nil)) (pe_gi T.c_MOST_DEEP rfl) (nomark _))
          (pss_one (ps_raise rfl (takes_of rfl rfl rfl rfl) (pmk_o h_TooMany T.g_TooMany (hr.mono (by decide)) rfl (pa_cons (pe_gi T.c_MOST_DEEP rfl) pa_nil))))
          pss_nil)
        (pss_cons (ps_expr (pe_m0 h_Reader_take (hr.mono (by decide)) (pv 0)))
        (pss_cons (ps_expr (pe_bm PySem.F.plainAttrs_list PySem.F.slot_list_append PySem.F.type_list_append mt_append (pv 1) (pa_cons (pe_lst pa_nil) pa_nil)))
        (pss_one ps_continue))))
        pss_nil)
      (C8.pss_cut (ps_if (PW.pt (pw_and (pt_truth (pv 1) (by intro _; rfl)) (pw_and1 (pt_val (pe_m h_Reader_next_is (hr.mono (by decide)) (pv 0) (pa_cons pe_str (pa_cons pe_str pa_nil)))))))
        (pss_cons (ps_expr (pe_m0 h_Reader_take (hr.mono (by decide)) (pv 0)))
        (pss_one (ps_set (i := 2) sc_read_value.nd rfl (Or.inl rfl) (pe_callTy call_tuple_of (by rfl) T.b_tuple (by decide +kernel) (pa_cons (pe_bm0 PySem.F.plainAttrs_list PySem.F.slot_list_pop PySem.F.type_list_pop mt_pop (pv 1)) pa_nil)))))
        (pss_one (ps_set (i := 2) sc_read_value.nd rfl (Or.inl rfl) (pe_cx h_read_single (takes_of rfl rfl rfl rfl) (hr.mono (by decide)) rfl (pa_cons (pv 0) pa_nil)))))
      (pss_cons (ps_if (pt_not (pt_truth (pv 1) (by intro _; rfl)))
        (pss_one (ps_ret (pv 2)))
        pss_nil)
      (pss_one (ps_expr (pe_bm PySem.F.plainAttrs_list PySem.F.slot_list_append PySem.F.type_list_append mt_append (pe_ix ix_list (pv 1) (pe_un un_neg pe_int) (fun _ _ => rfl)) (pa_cons (pv 2) pa_nil)))))))))), ?_⟩
    have nm : ∀ (t : Addr) (p : Nat) (m : Str), ¬ m = "tokens" → ¬ m = "number" → ¬ m = "place" → ¬ m = "nodes" → ¬ m = "nested" → (rf t p).lookup m = none := fun t p m a b c d e => rf_none t p a b c d e
    have nt := fun t p => nm t p "take" (by decide +kernel) (by decide +kernel) (by decide +kernel) (by decide +kernel) (by decide +kernel)
    have nn := fun t p => nm t p "next_is" (by decide +kernel) (by decide +kernel) (by decide +kernel) (by decide +kernel) (by decide +kernel)
    refine ⟨(by show 0 ≤ sizeLine; exact Nat.zero_le _), fun l hl => ?_⟩
    have nlr : ¬ l = r := fun q => by
      obtain ⟨dx, t, h1, _⟩ := R
      rw [q, h1] at hl
      cases hl
    refine ⟨fun m σ H' => ∃ (q : Nat) (v2 : Option V) (as : List Addr) (st : List (List PyData)), m = ts.length - q ∧ q < ts.length ∧ σ = [some (.ref r), some (.ref l), v2] ∧ RdAt CR H' r ts q ∧ H' l = some (.lst (rev as)) ∧ Stk H' q as st ∧
      (∀ a ∈ as, H a = none) ∧ ¬ l ∈ as ∧ Kp [r] H H' ∧ st.length ≤ 12 ∧ rd (ts.drop q) st = rd (ts.drop p) [], ⟨_, p, none, [], [], rfl, hp, rfl, ?_, upd_same, .nil, fun _ h => (nomatch h), fun h => (nomatch h), Kp.new hl, Nat.zero_le _, rfl⟩, ?_⟩
    · exact R.upd nlr (Kp.new (M := []) hl).tups
    rintro m σ H' ⟨q, v2, as, st, rfl, hq, rfl, Rq, hL, hS, hF, hla, kp, h12, hrd⟩
    obtain ⟨tk, htk⟩ : ∃ tk, ts[q]? = some tk := ⟨_, List.getElem?_eq_getElem hq⟩
    have hd := drop_at htk
    obtain ⟨dx, t, h1, h2⟩ := id Rq
    have hs := hS.length
    refine ⟨true, rfl, ?_⟩
    refine iteT ⟨_, fun σ' H' x => x, ?_⟩
    refine ⟨_, rfl, r, dx, _, rfl, h1, nn _ _, r, ts, q, tk, _, _, rfl, Rq, htk, _, rfl, ?_⟩
    by_cases c1 : tk.kind = kSign ∧ tk.text = sOpen
    · rw [decide_eq_true (show tk.kind = Str.ofString "sign" ∧ tk.text = Str.ofString "(" from c1)]
      refine iteT ?_
      have step : stepT tk st = if 12 ≤ st.length then .many else .more ([] :: st) := by unfold stepT; rw [if_pos c1]
      refine ⟨_, rfl, l, _, rfl, .inl (SqL.of hL), _, _, rfl, rfl, _, rfl, ite2 (fun c2 => ?_) (fun c2 => ?_)⟩
      · -- raise TooMany
        have c3 : 12 ≤ st.length := by have := of_decide_eq_true c2; rw [rev_len] at this; omega
        refine ⟨(by show 1 ≤ 1000; decide), fun e he => ?_⟩
        refine x1_of he fun d hd' => kM ?_ H' kp d hd'
        rw [← hrd, hd, rd, step, if_pos c3]
      · have c3 : ¬ 12 ≤ st.length := fun x => c2 (decide_eq_true (by rw [rev_len]; omega))
        refine ⟨_, rfl, r, dx, _, rfl, h1, nt _ _, r, ts, q, tk, rfl, Rq, htk, sign_ne c1.1, fun a' H1 R1 fr => ?_⟩
        have hL1 : H1 l = some (.lst (rev as)) := (fr l nlr).trans hL
        obtain ⟨tk', htk'⟩ := hend.next htk (sign_ne c1.1)
        refine ⟨_, rfl, .inl ⟨rfl, _, SqL.of hL1⟩, (by show 0 ≤ sizeLine; exact Nat.zero_le _), fun n hn => ?_⟩
        have nln : l ≠ n := ne_of_none hL1 hn
        have nnr : n ≠ r := fun e => by
          obtain ⟨dx1, t1, g1, _⟩ := R1
          rw [e, g1] at hn
          cases hn
        have kp1 := kp_r kp Rq fr
        have hnH : H n = none := kp1.fresh hn (fun e => nnr (List.mem_singleton.mp e))
        have hlH : H l = none := hl
        refine ⟨l, _, _, rfl, rfl, by rw [upd_ne nln]; exact hL1, Nat.lt_of_le_of_lt (show (rev as).length ≤ 12 by rw [rev_len]; omega) (by decide), ?_⟩
        have tups1 : ∀ b xs, H1 b = some (.tup xs) → upd (upd H1 n (.lst [])) l (.lst (rev as ++ [.ref n])) b = some (.tup xs) := fun b xs e => by
          rw [upd_ne (fun x => by rw [x, hL1] at e; cases e), upd_ne (ne_of_none e hn)]; exact e
        refine ⟨ts.length - (q + 1), by omega, q + 1, _, n :: as, [] :: st, rfl, (List.getElem?_eq_some_iff.mp htk').1, rfl, ?_, by rw [rev_cons]; exact upd_same, ?_, ?_, ?_, ?_, ?_, ?_⟩
        · obtain ⟨dx1, t1, g1, g2⟩ := R1
          exact ⟨dx1, t1, by rw [upd_ne (fun x => nlr x.symm), upd_ne nnr.symm]; exact g1, g2.mono tups1⟩
        · have nas : ¬ n ∈ as := fun x => by
            obtain ⟨vs, e⟩ := hS.there n x
            rw [← fr n nnr, hn] at e
            cases e
          refine .cons (vs := []) (by rw [upd_ne nln.symm]; exact upd_same) .nil nas (Nat.zero_le _) (hS.mono (Nat.le_succ _) (fun a ha => ?_) fun b xs e => tups1 b xs (tup_r Rq fr b xs e))
          have a1 : a ≠ l := fun x => hla (x ▸ ha)
          have a2 : a ≠ n := fun x => nas (x ▸ ha)
          have a3 : a ≠ r := fun x => by
            obtain ⟨vs, e⟩ := hS.there a ha
            rw [x, h1] at e
            cases e
          rw [upd_ne a1, upd_ne a2, fr a a3]
        · intro a ha
          rcases List.mem_cons.mp ha with e | ha
          · rw [e]; exact hnH
          · exact hF a ha
        · intro x
          rcases List.mem_cons.mp x with e | x
          · exact nln e
          · exact hla x
        · exact (kp1.own hnH).own hlH
        · simp only [List.length_cons]; omega
        · rw [← hrd, hd, rd, step, if_neg c3]
    · rw [decide_eq_false (show ¬ (tk.kind = Str.ofString "sign" ∧ tk.text = Str.ofString "(") from c1)]
      refine iteF ?_
      have hmem : tk ∈ ts := List.mem_of_getElem? htk
      have notOpen : ¬ (tk.kind = kSign ∧ tk.text = sOpen) := c1
      refine ⟨MidV CR r l H ts q tk st, ?_, ?_⟩
      · -- a number or a name
        have other : (∀ d, single tk = some d → stepT tk st = putN d st) → (single tk = none → stepT tk st = .bad) →
            (tAsg (tCallS (spSingle CB CR) (WE fun cls d _ H => E cls d H) (tCons (tVar 0) tNil)) (gName 2)) { nx := MidV CR r l H ts q tk st, rt := Q } [some (.ref r), some (.ref l), v2] H' := fun g1 g2 => by
          refine ⟨_, rfl, r, ts, q, tk, rfl, Rq, htk, hok tk hmem, fun d v H1 hsd hda R1 fr => ?_, fun hn d hd' => ?_⟩
          · refine ⟨d, v, as, st, rfl, g1 d hsd, R1, (fr l nlr).trans hL, hS.mono (Nat.le_refl _) (fun a ha => fr a fun x => ?_) (tup_r Rq fr), hF, hla, kp_r kp Rq fr, h12, hda, single_ne hsd⟩
            obtain ⟨vs, e⟩ := hS.there a ha
            rw [x, h1] at e
            cases e
          · refine kB tk.col ?_ H' kp d hd'
            rw [← hrd, hd, rd, g2 hn]
        cases hS with
        | nil =>
          refine ⟨_, rfl, false, .inl ⟨_, SqL.of hL, rfl⟩, iteF (iteF (other (fun d e => ?_) fun e => ?_))⟩
          · unfold stepT
            rw [if_neg notOpen]
            simp only [e]
          · unfold stepT
            rw [if_neg notOpen]
            simp only [e]
        | @cons a as0 vs ds st0 ha hda hna hvs hS0 =>
          have ne : (!(rev (a :: as0)).isEmpty) = true := by rw [rev_cons]; simp
          refine ⟨_, rfl, true, .inl ⟨_, SqL.of hL, ne.symm⟩, iteT ⟨_, rfl, r, dx, _, rfl, h1, nn _ _, r, ts, q, tk, _, _, rfl, Rq, htk, _, rfl, ?_⟩⟩
          by_cases c3 : tk.kind = kSign ∧ tk.text = sShut
          · rw [decide_eq_true (show tk.kind = Str.ofString "sign" ∧ tk.text = Str.ofString ")" from c3)]
            refine iteT ⟨_, rfl, r, dx, _, rfl, h1, nt _ _, r, ts, q, tk, rfl, Rq, htk, sign_ne c3.1, fun a' H1 R1 fr => ?_⟩
            have nar : a ≠ r := fun x => by rw [x, h1] at ha; cases ha
            have nal : a ≠ l := fun x => hla (x ▸ List.mem_cons_self ..)
            have hL1 : H1 l = some (.lst (rev (a :: as0))) := (fr l nlr).trans hL
            have ha1 : H1 a = some (.lst vs) := (fr a nar).trans ha
            have kp1 := kp_r kp Rq fr
            refine ⟨_, rfl, .inl ⟨rfl, _, SqL.of hL1⟩, l, _, _, rfl, rfl, hL1, rev_last a as0, ?_⟩
            refine ⟨a, vs, rfl, .inl ⟨SqL.of (by rw [upd_ne nal]; exact ha1), fun p' hp' => ?_⟩⟩
            have tups1 : ∀ b xs, H1 b = some (.tup xs) → upd (upd H1 l (.lst (rev (a :: as0)).dropLast)) p' (.tup vs) b = some (.tup xs) := fun b xs e => by
              have e2 : upd H1 l (.lst (rev (a :: as0)).dropLast) b = some (.tup xs) := by rw [upd_ne (fun x => by rw [x, hL1] at e; cases e)]; exact e
              rw [upd_ne (ne_of_none e2 hp')]; exact e2
            have npl : l ≠ p' := ne_of_none upd_same hp'
            have tupsq := fun b xs e => tups1 b xs (tup_r Rq fr b xs e)
            have npr : r ≠ p' := by
              obtain ⟨dx1, t1, g1, _⟩ := R1
              exact ne_of_none (show upd H1 l (.lst (rev (a :: as0)).dropLast) r = _ by rw [upd_ne (fun x => nlr x.symm)]; exact g1) hp'
            refine ⟨.tuple ds, .ref p', as0, st0, rfl, ?_, ?_, by rw [upd_ne npl, rev_drop]; exact upd_same, ?_, fun b hb => hF b (List.mem_cons_of_mem _ hb), fun x => hla (List.mem_cons_of_mem _ x), ?_, ?_, ?_, sign_ne c3.1⟩
            · unfold stepT
              rw [if_neg notOpen]
              rw [decide_eq_true c3]
            · obtain ⟨dx1, t1, g1, g2⟩ := R1
              exact ⟨dx1, t1, by rw [upd_ne npr, upd_ne (fun x => nlr x.symm)]; exact g1, g2.mono tups1⟩
            · refine hS0.mono (Nat.le_refl _) (fun b hb => ?_) tupsq
              obtain ⟨ws, e⟩ := hS0.there b hb
              have b1 : b ≠ r := fun x => by rw [x, h1] at e; cases e
              have b2 : b ≠ l := fun x => hla (x ▸ List.mem_cons_of_mem _ hb)
              have e1 : H1 b = some (.lst ws) := (fr b b1).trans e
              have b3 : b ≠ p' := ne_of_none (show upd H1 l (.lst (rev (a :: as0)).dropLast) b = _ by rw [upd_ne b2]; exact e1) hp'
              rw [upd_ne b3, upd_ne b2, fr b b1]
            · exact (kp1.own hl).trans (Kp.new hp')
            · simp only [List.length_cons] at h12; omega
            · exact .tup upd_same (hda.mono tupsq)
          · rw [decide_eq_false (show ¬ (tk.kind = Str.ofString "sign" ∧ tk.text = Str.ofString ")") from c3)]
            refine iteF (other (fun d e => ?_) fun e => ?_)
            · unfold stepT
              rw [if_neg notOpen]
              rw [decide_eq_false c3]
              simp only [e]
            · unfold stepT
              rw [if_neg notOpen]
              rw [decide_eq_false c3]
              simp only [e]
      · rintro σ' H1 ⟨d, v, as', st', rfl, step, R1, hL1, hS1, hF1, hla1, kp1, h12', hda, hne⟩
        obtain ⟨tk', htk'⟩ := hend.next htk hne
        have hq1 := (List.getElem?_eq_some_iff.mp htk').1
        cases hS1 with
        | nil =>
          refine ⟨_, rfl, false, .inl ⟨_, SqL.of hL1, rfl⟩, iteT ⟨_, rfl, ?_⟩⟩
          refine kV d (q + 1) ?_ hq1 v H1 hda R1 kp1
          rw [← hrd, hd, rd, step]
          rfl
        | @cons a as0 vs ds st0 ha hda0 hna hvs hS0 =>
          have ne : (!(rev (a :: as0)).isEmpty) = true := by rw [rev_cons]; simp
          refine ⟨_, rfl, true, .inl ⟨_, SqL.of hL1, ne.symm⟩, iteF ?_⟩
          have nal : a ≠ l := fun x => hla1 (x ▸ List.mem_cons_self ..)
          have nar : a ≠ r := fun x => by
            obtain ⟨dx1, t1, g1, _⟩ := R1
            rw [x, g1] at ha
            cases ha
          have tups1 : ∀ b xs, H1 b = some (.tup xs) → upd H1 a (.lst (vs ++ [v])) b = some (.tup xs) := fun b xs e => by
            rw [upd_ne (fun x => by rw [x, ha] at e; cases e)]; exact e
          refine ⟨_, rfl, _, rfl, l, _, _, _, rfl, rfl, SqL.of hL1, rev_atLast a as0, .inl ⟨rfl, _, SqL.of ha⟩, _, rfl, a, vs, v, rfl, rfl, ha, Nat.lt_of_le_of_lt (show vs.length ≤ 90000 by omega) (by decide), ?_⟩
          refine ⟨ts.length - (q + 1), by omega, q + 1, _, a :: as0, (ds ++ [d]) :: st0, rfl, hq1, rfl, R1.upd nar tups1, by rw [upd_ne nal.symm]; exact hL1, ?_, hF1, hla1, kp1.own (hF1 a (List.mem_cons_self ..)), h12', ?_⟩
          · refine .cons upd_same (DaAll.snoc (hda.mono tups1) (hda0.mono tups1)) hna (by simp; omega) (hS0.mono (Nat.le_succ _) (fun b hb => upd_ne fun x => hna (x ▸ hb)) tups1)
          · rw [← hrd, hd]
            show _ = rd (tk :: ts.drop (q + 1)) st
            rw [rd, step]
            rfl
end
end PV
namespace PV
open PySem PySem.Spec PyProof.Rows L2

/-! ### read_plain -/
theorem Kp.drop {H H1 H2 : Hp} {x : Addr} (hx : H x = Option.none) (a : Kp [] H H1) (b : Kp [x] H1 H2) : Kp [] H H2 :=
  ⟨fun y o e _ => b.keep y o (a.keep y o e fun q => nomatch q) fun q => (by
    rw [List.mem_singleton.mp q, hx] at e
    cases e), fun y xs e => b.tups y xs (a.tups y xs e)⟩
theorem ended_all (z : Str) : Ended (tokAll z) := ⟨_, _, _, rfl⟩
theorem all_len (z : Str) : (tokAll z).length ≤ z.length + 1 := by
  unfold tokAll
  rw [List.length_append]
  have := tok_len _ z.cps.toList 0 (Nat.le_refl _)
  have e := TL.len_tl z
  have e2 : z.length = z.cps.toList.length := e
  show (tok z.cps.toList 0).length + 1 ≤ _
  omega
def spPlain (CB CT : Addr) : Sp := fun vs H Q E => ∃ z : Str, vs = [.str z] ∧ z.length ≤ 80000 ∧ (∀ tk ∈ tokAll z, TkOk tk) ∧
  (∀ d, rdAll (tokAll z) = .val d → ∀ v H', Da H' v d → Kp [] H H' → Q v H') ∧ (∀ c, rdAll (tokAll z) = .bad c → ∀ H', Kp [] H H' → bad CB H' c E) ∧ (rdAll (tokAll z) = .many → ∀ H', Kp [] H H' → many CT H' E)
section
variable {P : Program} {w : World} {K : PySem.W.Frag} {mg : Str → Option Value} {base : Heap} {CB CT CR : Addr}
theorem has_run_end (T : Txt K mg CB CT CR) : Has P w K mg base CX0 1 "run_end" ["text", "place", "allowed"] spRunEnd := has_of T.d_run_end fun _ _ F => ok_run_end T F
theorem has_all_tokens (T : Txt K mg CB CT CR) : Has P w K mg base CX0 2 "all_tokens" ["text"] spTokens := has_of T.d_all_tokens fun _ _ F => ok_all_tokens T (has_run_end T) F
theorem ok_plain (T : Txt K mg CB CT CR) : Has P w K mg base (L2.CX P w) 6 "read_plain" ["text"] (spPlain CB CT) := by
  have h_all_tokens : Has P w K mg base CX0 2 "all_tokens" ["text"] spTokens := has_all_tokens T
  have h_Reader : HasI P w K mg base 1 CR ["self", "tokens", "line"] (spRInit CR) := has_Reader T
  have h_read_value : Has P w K mg base (L2.CX P w) 5 "read_value" ["reader"] (spValue CB CT CR) := ok_value T
  have h_Reader_ask_end : HasM P w K mg base (L2.CX P w) 4 CR "ask_end" ["self"] (spAskEnd CB CR) := ok_ask_end T
  refine has_of T.d_read_plain fun f fd F => F.okX sc_read_plain (fun vs H Q E h => ?_) (fun cdv A outer s H vs Q E hr h => ?_)
  · obtain ⟨z, rfl, _⟩ := h
    rfl
  · obtain ⟨z, rfl, hz, hok, kV, kB, kM⟩ := h
    refine ⟨_, (pss_cons (ps_set (i := 1) sc_read_plain.nd rfl (Or.inl rfl) (pe_mk0 h_Reader T.g_Reader (hr.mono (by decide)) rfl (pa_cons (pe_c0 h_all_tokens (hr.mono (by decide)) rfl (pa_cons (pv 0) pa_nil)) (pa_cons pe_int pa_nil))))
    (pss_cons (ps_set (i := 2) sc_read_plain.nd rfl (Or.inl rfl) (pe_cx h_read_value (takes_of rfl rfl rfl rfl) (hr.mono (by decide)) rfl (pa_cons (pv 1) pa_nil)))
    (pss_cons (ps_expr (pe_m0x h_Reader_ask_end (takes_of rfl rfl rfl rfl) (hr.mono (by decide)) (pv 1)))
    (pss_one (ps_ret (pv 2)))))), ?_⟩
    refine ⟨_, rfl, z, rfl, by omega, fun H1 a kp ha hda => ?_⟩
    intro x dx nx ndx nex
    have k1 : Kp [] H (upd (upd H1 dx (.own x)) x (.ins CR dx [])) := (kp.trans (Kp.new ndx)).trans (Kp.new (by rw [upd_ne nex.symm]; exact nx))
    obtain ⟨xs, hxs⟩ : ∃ xs, H1 a = some (.tup xs) := by cases hda with | tup e _ => exact ⟨_, e⟩
    have hxs2 : upd (upd H1 dx (.own x)) x (.ins CR dx []) a = some (.tup xs) := by
      rw [upd_ne (ne_of_none hxs nx), upd_ne (ne_of_none hxs ndx)]; exact hxs
    refine ⟨x, a, dx, xs, rfl, upd_same, hxs2, rfl, ?_⟩
    rw [upd_upd]
    have tups2 : ∀ b ys, H1 b = some (.tup ys) → upd (upd H1 dx (.own x)) x (.ins CR dx (rf a 0)) b = some (.tup ys) := fun b ys e => by
      rw [upd_ne (ne_of_none e nx), upd_ne (ne_of_none e ndx)]; exact e
    have k2 : Kp [] H (upd (upd H1 dx (.own x)) x (.ins CR dx (rf a 0))) := (kp.trans (Kp.new ndx)).trans (Kp.new (by rw [upd_ne nex.symm]; exact nx))
    have hx0 : H x = none := kp.fresh nx fun q => nomatch q
    have R : RdAt CR (upd (upd H1 dx (.own x)) x (.ins CR dx (rf a 0))) x (tokAll z) 0 := ⟨dx, a, upd_same, hda.mono tups2⟩
    have hlen := all_len z
    have hpos : 0 < (tokAll z).length := by
      unfold tokAll
      rw [List.length_append]
      exact Nat.lt_of_lt_of_le Nat.zero_lt_one (Nat.le_add_left _ _)
    have read : ∀ o, rd ((tokAll z).drop 0) [] = o → rd (tokAll z) [] = o := fun _ h => h
    refine ⟨_, rfl, x, tokAll z, 0, rfl, R, hok, ended_all z, hpos, by omega, fun d p' e hp' v H' hd' R' kp' => ?_, fun c e H' kp' => ?_, fun e H' kp' => ?_⟩
    · obtain ⟨dx', t', g1, g2⟩ := id R'
      obtain ⟨tk, htk⟩ : ∃ tk, (tokAll z)[p']? = some tk := ⟨_, List.getElem?_eq_getElem hp'⟩
      have all : rdAll (tokAll z) = if tk.kind = kEnd then .val d else .bad tk.col := by
        unfold rdAll
        rw [read _ e, drop_at htk]
      refine ⟨_, rfl, x, dx', _, rfl, g1, rf_none _ _ (by decide +kernel) (by decide +kernel) (by decide +kernel) (by decide +kernel) (by decide +kernel), x, tokAll z, p', tk, rfl, R', htk, fun he => ?_, fun he => ?_⟩
      · exact ⟨_, rfl, kV d (by rw [all, if_pos he]) v H' hd' (Kp.drop hx0 k2 kp')⟩
      · exact kB tk.col (by rw [all, if_neg he]) H' (Kp.drop hx0 k2 kp')
    · exact kB c (by unfold rdAll; rw [read _ e]) H' (Kp.drop hx0 k2 kp')
    · exact kM (by unfold rdAll; rw [read _ e]) H' (Kp.drop hx0 k2 kp')

/-! ### write_plain and the law's own writer -/
theorem joinL_le : ∀ ps : List (List Nat), (TL.joinL [32] ps).length ≤ (ps.map (fun p => p.length + 1)).sum
  | [] => Nat.le_refl _
  | [p] => by show p.length ≤ (p.length + 1) + 0; omega
  | p :: q :: r => by
    have ih := joinL_le (q :: r)
    show (p ++ ([32] ++ TL.joinL [32] (q :: r))).length ≤ (p.length + 1) + ((q :: r).map (fun p => p.length + 1)).sum
    rw [List.length_append, List.length_append]
    simp only [List.length_cons, List.length_nil]
    omega
theorem sum_le_join : ∀ ps : List (List Nat), (ps.map (fun p => p.length + 1)).sum ≤ (TL.joinL [32] ps).length + 1
  | [] => Nat.zero_le _
  | [p] => by show (p.length + 1) + 0 ≤ p.length + 1; omega
  | p :: q :: r => by
    have ih := sum_le_join (q :: r)
    show (p.length + 1) + ((q :: r).map (fun p => p.length + 1)).sum ≤ (p ++ ([32] ++ TL.joinL [32] (q :: r))).length + 1
    rw [List.length_append, List.length_append]
    simp only [List.length_cons, List.length_nil]
    omega
theorem txt_sum (ds : List PyData) : ((txtAll ds).map (fun p => p.length + 1)).sum + 1 ≤ (txt (.tuple ds)).length := by
  rw [TL.len_tl, txt_tuple]
  have := sum_le_join ((txtAll ds).map TL.tl)
  rw [List.map_map] at this
  have e : ((txtAll ds).map ((fun p => p.length + 1) ∘ TL.tl)) = (txtAll ds).map (fun p => p.length + 1) := List.map_congr_left fun p _ => by show (TL.tl p).length + 1 = p.length + 1; rw [TL.len_tl]
  rw [e] at this
  simp only [List.length_cons, List.length_append, List.length_nil]
  omega
theorem txtAll_map (ds : List PyData) : txtAll ds = ds.map txt := by
  induction ds with
  | nil => rfl
  | cons d ds ih => rw [txtAll, ih]; rfl
theorem plainAll_at {n : Nat} : ∀ {ds : List PyData} {i : Nat} {d : PyData}, PlainAll n ds → ds[i]? = some d → Plain n d
  | d :: ds, 0, e, h, q => by unfold PlainAll at h; cases q; exact h.1
  | d :: ds, i + 1, e, h, q => by unfold PlainAll at h; exact plainAll_at h.2 (by simpa using q)
theorem sum_mem {l : List Nat} {n : Nat} (h : n ∈ l) : n ≤ l.sum := by
  induction l with
  | nil => cases h
  | cons a l ih =>
    rw [List.sum_cons]
    rcases List.mem_cons.mp h with e | h
    · omega
    · have := ih h; omega
def spWrite (n : Nat) : Sp := fun vs H Q _ => ∃ (v : V) (d : PyData), vs = [v] ∧ Da H v d ∧ Plain n d ∧ (txt d).length ≤ 100000 ∧ ∀ H', Kp [] H H' → Q (.str (txt d)) H'
def spW : Nat → Sp
  | 0 => fun _ _ _ _ => False
  | n + 1 => spWrite n
theorem has_false {x : Str} {st : Stmt} {ps : List Str} (h : Fn K mg x st ps) : Has P w K mg base CX0 1 x ps (fun _ _ _ _ => False) :=
  has_of h fun _ _ _ => ⟨fun _ _ _ _ h => h.elim, fun _ _ _ _ _ _ _ _ _ _ _ _ _ h => h.elim⟩
theorem tyes_of {σ : L2.St} {H : Hp} {R S : Hp → Prop} (h : R H) : tYes σ H (fun b H3 => if b = true then R H3 else S H3) := by
  show if true = true then R H else S H
  rw [if_pos rfl]
  exact h
theorem num_log {i : Int} (h : NumOk i) : i.natAbs.log2 < 1920 := h.log
theorem len_le_sum (ps : List Str) : ps.length ≤ (ps.map (fun p => p.length + 1)).sum := by
  induction ps with
  | nil => exact Nat.le_refl _
  | cons p ps ih => rw [List.map_cons, List.sum_cons, List.length_cons]; omega
theorem sum_succ (ps : List Str) : (ps.map (·.length)).sum + ps.length * 1 = (ps.map (fun p => p.length + 1)).sum := by
  induction ps with
  | nil => rfl
  | cons p ps ih => rw [List.map_cons, List.map_cons, List.sum_cons, List.sum_cons, List.length_cons]; omega
theorem ok_write_plain (T : Txt K mg CB CT CR) : ∀ n : Nat, Has P w K mg base CX0 (n + 1) "write_plain" ["plain"] (spW n)
  | 0 => has_false T.d_write_plain
  | n + 1 => by
    have h_write_plain : Has P w K mg base CX0 (n + 1) "write_plain" ["plain"] (spW n) := ok_write_plain T n
    refine has_of T.d_write_plain fun f fd F => F.ok sc_write_plain (fun vs H Q E h => ?_) (fun cdv A outer s H vs Q E hr h => ?_)
    · obtain ⟨v, d, rfl, _⟩ := h
      rfl
    · obtain ⟨v, d, rfl, hda, hp, hz, k⟩ := h
      refine ⟨_, (pss_cons (ps_if (pt_val (pe_callB call_isi (by rfl) T.b_isinstance (by decide +kernel) (pa_cons (pv 0) (pa_cons (pe_bltn (v := .ty "tuple") (by rfl) T.b_tuple (by decide +kernel) rfl) pa_nil))))
      (pss_one (ps_ret (pe_op op_add_str (pe_op op_add_str pe_str (pe_join pe_str (pe_lc (own := [("part", 1)]) (g := (gName 1)) rfl sc_write_plain.nd (pi_tup (pv 0)) (blkOk_by (own := [("part", 1)]) (N := n_write_plain) (sc := defScope s_write_plain) (by decide +kernel)) (fun _ _ _ _ _ => pg_name (i := 1) sc_write_plain.nd rfl (Or.inl rfl)) (fun _ _ _ _ _ => pts_nil) (fun _ _ _ _ _ => (pe_c0 h_write_plain hr rfl (pa_cons (pv 1) pa_nil)))))) pe_str)))
      pss_nil)
    (pss_one (ps_ret (pe_callTy call_strD (by rfl) T.b_str (by decide +kernel) (pa_cons (pv 0) pa_nil))))), ?_⟩
      cases hda with
      | int i =>
        have hi : NumOk i := by unfold Plain at hp; exact hp
        refine ⟨_, rfl, _, _, _, _, false, rfl, .ty _, .base (.int i), kit_ty (by decide +kernel), false, rfl, iteF ?_⟩
        refine ⟨_, rfl, .inl ⟨i, rfl, num_log hi, ?_⟩⟩
        exact k H (Kp.refl _ _)
      | str z =>
        refine ⟨_, rfl, _, _, _, _, false, rfl, .ty _, .base (.str z), kit_ty (by decide +kernel), false, rfl, iteF ?_⟩
        exact ⟨_, rfl, .inr ⟨z, rfl, k H (Kp.refl _ _)⟩⟩
      | @tup a xs ds ha hall =>
        cases n with
        | zero => unfold Plain at hp; exact hp.elim
        | succ n =>
        have hp' : PlainAll n ds := by unfold Plain at hp; exact hp
        refine ⟨_, rfl, _, _, _, _, true, rfl, .ty _, .base (.tup ha), kit_ty (by decide +kernel), true, rfl, iteT ?_⟩
        have hsum := txt_sum ds
        have lx := hall.length
        refine ⟨⟨_, rfl⟩, _, rfl, a, rfl, ⟨_, SqT.of ha⟩, fun D hD => ?_⟩
        refine lc_tup (K := K) (a := a) (xs := xs) (fun i H' => H' D = some (.lst (((txtAll ds).take i).map V.str)) ∧ Kp [] H H') ⟨upd_same, Kp.new hD⟩ (fun i H' _ q => SqT.of (q.2.tups a xs ha)) ?_ ?_
        · rintro i x H' hx ⟨hD', kp⟩
          obtain ⟨d, hd⟩ : ∃ d, ds[i]? = some d := ⟨_, List.getElem?_eq_getElem (by have := (List.getElem?_eq_some_iff.mp hx).1; omega)⟩
          obtain ⟨x', hx', hdx⟩ := hall.get hd
          obtain rfl : x' = x := Option.some.inj (hx'.symm.trans hx)
          have hm : txt d ∈ txtAll ds := by rw [txtAll_map]; exact List.mem_map_of_mem (List.mem_of_getElem? hd)
          have h1 : (txt d).length + 1 ≤ ((txtAll ds).map (fun p => p.length + 1)).sum := sum_mem (List.mem_map_of_mem (f := fun p => p.length + 1) hm)
          refine ⟨rfl, tyes_of ?_⟩
          refine ⟨_, rfl, x', d, rfl, kp.da hdx, plainAll_at hp' hd, by omega, fun H2 kp2 => ?_⟩
          have hD2 := kp2.keep D _ hD' fun q => nomatch q
          have hi := (List.getElem?_eq_some_iff.mp hd).1
          have hlt : (((txtAll ds).take i).map V.str).length ≤ 100000 := by
            rw [List.length_map, List.length_take, txtAll_map, List.length_map]
            have h2 : (ds.map txt).length ≤ ((txtAll ds).map (fun p => p.length + 1)).sum := by
              rw [← txtAll_map]
              exact len_le_sum _
            rw [List.length_map] at h2
            omega
          refine ⟨_, hD2, Nat.lt_of_le_of_lt hlt (by decide), ?_, (kp.trans kp2).own hD⟩
          have et : (txtAll ds).take (i + 1) = (txtAll ds).take i ++ [txt d] := by
            rw [List.take_succ_eq_append_getElem (by rw [txtAll_map, List.length_map]; exact hi)]
            congr 2
            have e2 : (txtAll ds)[i]? = some (txt d) := by rw [txtAll_map, List.getElem?_map, hd]; rfl
            rw [List.getElem?_eq_getElem (by rw [txtAll_map, List.length_map]; exact hi)] at e2
            exact Option.some.inj e2
          rw [et, List.map_append]
          exact upd_same
        · rintro H' ⟨hD', kp⟩
          have e : (txtAll ds).take xs.length = txtAll ds := List.take_of_length_le (by rw [txtAll_map, List.length_map]; omega)
          rw [e] at hD'
          have hj : ((txtAll ds).map (·.length)).sum + (txtAll ds).length * (Str.ofString " ").length ≤ 100000 := by
            have e1 : (Str.ofString " ").length = 1 := by decide +kernel
            have := sum_succ (txtAll ds)
            rw [e1]
            omega
          refine ⟨_, D, txtAll ds, rfl, rfl, .inl (SqL.of hD'), by omega, ?_⟩
          have ejoin : Txt.join (Str.ofString " ") (txtAll ds) = Str.join (Str.ofString " ") (txtAll ds) := TL.join_eq _ _
          have el : (Str.ofString "(" ++ Str.join (Str.ofString " ") (txtAll ds) ++ Str.ofString ")").length ≤ 100000 := by
            have e3 : txt (.tuple ds) = Str.ofString "(" ++ Str.join (Str.ofString " ") (txtAll ds) ++ Str.ofString ")" := by rw [txt]
            rw [← e3]; exact hz
          have el2 : (Str.ofString "(" ++ Str.join (Str.ofString " ") (txtAll ds)).length + (Str.ofString ")").length ≤ 100000 := by
            rw [TL.len_tl, TL.tl_append, List.length_append] at el
            rw [TL.len_tl (Str.ofString "(" ++ _), TL.len_tl (Str.ofString ")")]
            exact el
          have el3 : (Str.ofString "(").length + (Str.join (Str.ofString " ") (txtAll ds)).length ≤ 100000 := by
            rw [TL.len_tl (Str.ofString "(" ++ _), TL.tl_append, List.length_append, ← TL.len_tl, ← TL.len_tl] at el2
            omega
          refine ⟨_, _, rfl, rfl, by rw [ejoin]; exact small (by omega), ?_⟩
          refine ⟨_, _, rfl, rfl, by rw [ejoin]; exact small (by omega), ?_⟩
          rw [ejoin]
          have := k H' kp
          rw [txt] at this
          exact this
theorem ok_law_plain_text (T : Txt K mg CB CT CR) : ∀ n : Nat, Has P w K mg base CX0 (n + 1) "_law_plain_text" ["thing"] (spW n)
  | 0 => has_false T.d_law_plain_text
  | n + 1 => by
    have h__law_plain_text : Has P w K mg base CX0 (n + 1) "_law_plain_text" ["thing"] (spW n) := ok_law_plain_text T n
    refine has_of T.d_law_plain_text fun f fd F => F.ok sc_law_plain_text (fun vs H Q E h => ?_) (fun cdv A outer s H vs Q E hr h => ?_)
    · obtain ⟨v, d, rfl, _⟩ := h
      rfl
    · obtain ⟨v, d, rfl, hda, hp, hz, k⟩ := h
      refine ⟨_, (pss_cons (ps_if (pt_val (pe_callB call_isi (by rfl) T.b_isinstance (by decide +kernel) (pa_cons (pv 0) (pa_cons (pe_bltn (v := .ty "tuple") (by rfl) T.b_tuple (by decide +kernel) rfl) pa_nil))))
      (pss_one (ps_ret (pe_op op_add_str (pe_op op_add_str pe_str (pe_join pe_str (pe_lc (own := [("part", 1)]) (g := (gName 1)) rfl sc_law_plain_text.nd (pi_tup (pv 0)) (blkOk_by (own := [("part", 1)]) (N := n_law_plain_text) (sc := defScope s_law_plain_text) (by decide +kernel)) (fun _ _ _ _ _ => pg_name (i := 1) sc_law_plain_text.nd rfl (Or.inl rfl)) (fun _ _ _ _ _ => pts_nil) (fun _ _ _ _ _ => (pe_c0 h__law_plain_text hr rfl (pa_cons (pv 1) pa_nil)))))) pe_str)))
      pss_nil)
    (pss_one (ps_ret (pe_callTy call_strD (by rfl) T.b_str (by decide +kernel) (pa_cons (pv 0) pa_nil))))), ?_⟩
      cases hda with
      | int i =>
        have hi : NumOk i := by unfold Plain at hp; exact hp
        refine ⟨_, rfl, _, _, _, _, false, rfl, .ty _, .base (.int i), kit_ty (by decide +kernel), false, rfl, iteF ?_⟩
        refine ⟨_, rfl, .inl ⟨i, rfl, num_log hi, ?_⟩⟩
        exact k H (Kp.refl _ _)
      | str z =>
        refine ⟨_, rfl, _, _, _, _, false, rfl, .ty _, .base (.str z), kit_ty (by decide +kernel), false, rfl, iteF ?_⟩
        exact ⟨_, rfl, .inr ⟨z, rfl, k H (Kp.refl _ _)⟩⟩
      | @tup a xs ds ha hall =>
        cases n with
        | zero => unfold Plain at hp; exact hp.elim
        | succ n =>
        have hp' : PlainAll n ds := by unfold Plain at hp; exact hp
        refine ⟨_, rfl, _, _, _, _, true, rfl, .ty _, .base (.tup ha), kit_ty (by decide +kernel), true, rfl, iteT ?_⟩
        have hsum := txt_sum ds
        have lx := hall.length
        refine ⟨⟨_, rfl⟩, _, rfl, a, rfl, ⟨_, SqT.of ha⟩, fun D hD => ?_⟩
        refine lc_tup (K := K) (a := a) (xs := xs) (fun i H' => H' D = some (.lst (((txtAll ds).take i).map V.str)) ∧ Kp [] H H') ⟨upd_same, Kp.new hD⟩ (fun i H' _ q => SqT.of (q.2.tups a xs ha)) ?_ ?_
        · rintro i x H' hx ⟨hD', kp⟩
          obtain ⟨d, hd⟩ : ∃ d, ds[i]? = some d := ⟨_, List.getElem?_eq_getElem (by have := (List.getElem?_eq_some_iff.mp hx).1; omega)⟩
          obtain ⟨x', hx', hdx⟩ := hall.get hd
          obtain rfl : x' = x := Option.some.inj (hx'.symm.trans hx)
          have hm : txt d ∈ txtAll ds := by rw [txtAll_map]; exact List.mem_map_of_mem (List.mem_of_getElem? hd)
          have h1 : (txt d).length + 1 ≤ ((txtAll ds).map (fun p => p.length + 1)).sum := sum_mem (List.mem_map_of_mem (f := fun p => p.length + 1) hm)
          refine ⟨rfl, tyes_of ?_⟩
          refine ⟨_, rfl, x', d, rfl, kp.da hdx, plainAll_at hp' hd, by omega, fun H2 kp2 => ?_⟩
          have hD2 := kp2.keep D _ hD' fun q => nomatch q
          have hi := (List.getElem?_eq_some_iff.mp hd).1
          have hlt : (((txtAll ds).take i).map V.str).length ≤ 100000 := by
            rw [List.length_map, List.length_take, txtAll_map, List.length_map]
            have h2 : (ds.map txt).length ≤ ((txtAll ds).map (fun p => p.length + 1)).sum := by
              rw [← txtAll_map]
              exact len_le_sum _
            rw [List.length_map] at h2
            omega
          refine ⟨_, hD2, Nat.lt_of_le_of_lt hlt (by decide), ?_, (kp.trans kp2).own hD⟩
          have et : (txtAll ds).take (i + 1) = (txtAll ds).take i ++ [txt d] := by
            rw [List.take_succ_eq_append_getElem (by rw [txtAll_map, List.length_map]; exact hi)]
            congr 2
            have e2 : (txtAll ds)[i]? = some (txt d) := by rw [txtAll_map, List.getElem?_map, hd]; rfl
            rw [List.getElem?_eq_getElem (by rw [txtAll_map, List.length_map]; exact hi)] at e2
            exact Option.some.inj e2
          rw [et, List.map_append]
          exact upd_same
        · rintro H' ⟨hD', kp⟩
          have e : (txtAll ds).take xs.length = txtAll ds := List.take_of_length_le (by rw [txtAll_map, List.length_map]; omega)
          rw [e] at hD'
          have hj : ((txtAll ds).map (·.length)).sum + (txtAll ds).length * (Str.ofString " ").length ≤ 100000 := by
            have e1 : (Str.ofString " ").length = 1 := by decide +kernel
            have := sum_succ (txtAll ds)
            rw [e1]
            omega
          refine ⟨_, D, txtAll ds, rfl, rfl, .inl (SqL.of hD'), by omega, ?_⟩
          have ejoin : Txt.join (Str.ofString " ") (txtAll ds) = Str.join (Str.ofString " ") (txtAll ds) := TL.join_eq _ _
          have el : (Str.ofString "(" ++ Str.join (Str.ofString " ") (txtAll ds) ++ Str.ofString ")").length ≤ 100000 := by
            have e3 : txt (.tuple ds) = Str.ofString "(" ++ Str.join (Str.ofString " ") (txtAll ds) ++ Str.ofString ")" := by rw [txt]
            rw [← e3]; exact hz
          have el2 : (Str.ofString "(" ++ Str.join (Str.ofString " ") (txtAll ds)).length + (Str.ofString ")").length ≤ 100000 := by
            rw [TL.len_tl, TL.tl_append, List.length_append] at el
            rw [TL.len_tl (Str.ofString "(" ++ _), TL.len_tl (Str.ofString ")")]
            exact el
          have el3 : (Str.ofString "(").length + (Str.join (Str.ofString " ") (txtAll ds)).length ≤ 100000 := by
            rw [TL.len_tl (Str.ofString "(" ++ _), TL.tl_append, List.length_append, ← TL.len_tl, ← TL.len_tl] at el2
            omega
          refine ⟨_, _, rfl, rfl, by rw [ejoin]; exact small (by omega), ?_⟩
          refine ⟨_, _, rfl, rfl, by rw [ejoin]; exact small (by omega), ?_⟩
          rw [ejoin]
          have := k H' kp
          rw [txt] at this
          exact this
end
end PV
namespace PV
open PySem PySem.Spec PyProof.Rows L2

/-! ### the law's draws -/
/-- the law's draws stand at d, its great numbers at g -/
def DrAt (H : Hp) (d g : Addr) : Prop := ¬ d = g ∧ ∃ (s c : Int) (ns : List Int), H d = some (.lst [.ref g, .int s, .int c]) ∧ H g = some (.lst (ns.map V.int)) ∧ 0 ≤ s ∧ s < 2147483647
theorem DrAt.keep {H H' : Hp} {d g : Addr} (h : DrAt H d g) (k : Kp [] H H') : DrAt H' d g := by
  obtain ⟨n, s, c, ns, h1, h2, h3⟩ := h
  exact ⟨n, s, c, ns, k.keep _ _ h1 (fun q => nomatch q), k.keep _ _ h2 (fun q => nomatch q), h3⟩
theorem ix_zero {n : Nat} (h : 0 < n) : ixN n 0 = some 0 := by
  unfold ixN
  simp
  omega
theorem fmod_in {i m : Int} (h : 0 < m) : 0 ≤ i.fmod m ∧ i.fmod m < m := by
  rw [Int.fmod_eq_emod_of_nonneg _ (Int.le_of_lt h)]
  exact ⟨Int.emod_nonneg _ (Int.ne_of_gt h), Int.emod_lt_of_pos _ h⟩
def spDraw : Sp := fun vs H Q _ => ∃ (d g : Addr) (m : Int), vs = [.ref d, .int m] ∧ DrAt H d g ∧ 0 < m ∧ m < 1000000 ∧
  ∀ x H', 0 ≤ x → x < m → DrAt H' d g → Kp [d, g] H H' → Q (.int x) H'
theorem Kp.trans2 {M : List Addr} {H H1 H2 : Hp} (a : Kp M H H1) (b : Kp M H1 H2) : Kp M H H2 := a.trans b
section
variable {P : Program} {w : World} {K : PySem.W.Frag} {mg : Str → Option Value} {base : Heap} {CB CT CR : Addr}
theorem ok_draw (T : Txt K mg CB CT CR) : Has P w K mg base CX0 1 "_law_draw" ["d", "many"] spDraw := by
  refine has_of T.d_law_draw fun f fd F => F.ok sc_law_draw (fun vs H Q E h => ?_) (fun cdv A outer s H vs Q E hr h => ?_)
  · obtain ⟨d, g, m, rfl, _⟩ := h
    rfl
  · obtain ⟨d, g, m, rfl, ⟨ndg, s0, c0, ns, hd, hg, hs0, hs1⟩, hm0, hm1, k⟩ := h
    refine ⟨_, (pss_cons (ps_set (i := 2) sc_law_draw.nd rfl (Or.inl rfl) (pe_ix ix_list (pv 0) pe_int (fun _ _ => rfl)))
    (pss_cons (ps_if (pt_truth (pv 2) (by intro _; rfl))
      (pss_cons (ps_set (i := 3) sc_law_draw.nd rfl (Or.inl rfl) (pe_op op_modN (pe_callTy call_int1 (by rfl) T.b_int (by decide +kernel) (pa_cons (pe_ix ix_list (pv 2) pe_int (fun _ _ => rfl)) pa_nil)) (pv 1)))
      (pss_cons (ps_asg (pe_op op_fdivN (pe_ix ix_list (pv 2) pe_int (fun _ _ => rfl)) (pe_callB (call_max2 rfl) (by rfl) T.b_max (by decide +kernel) (pa_cons pe_int (pa_cons (pv 1) pa_nil)))) (pg_sub (pv 2) pe_int set_list))
      (C8.pss_cut (ps_if (pt_cmpR op_eq (pe_ix ix_list (pv 2) pe_int (fun _ _ => rfl)) pe_int (nomark _))
        (pss_one (ps_expr (pe_bm PySem.F.plainAttrs_list PySem.F.slot_list_pop PySem.F.type_list_pop mt_popAt (pv 2) (pa_cons pe_int pa_nil))))
        pss_nil)
      (pss_one (ps_ret (pv 3))))))
      pss_nil)
    (pss_cons (ps_asg (pe_op op_add (pe_ix ix_list (pv 0) pe_int (fun _ _ => rfl)) pe_int) (pg_sub (pv 0) pe_int set_list))
    (pss_cons (ps_asg (pe_op op_modN (pe_op op_add (pe_op op_add (pe_op op_mul (pe_ix ix_list (pv 0) pe_int (fun _ _ => rfl)) pe_int) (pe_op op_mul (pe_ix ix_list (pv 0) pe_int (fun _ _ => rfl)) pe_int)) pe_int) pe_int) (pg_sub (pv 0) pe_int set_list))
    (pss_one (ps_ret (pe_op op_modN (pe_op op_fdivN (pe_ix ix_list (pv 0) pe_int (fun _ _ => rfl)) pe_int) (pv 1)))))))), ?_⟩
    refine ⟨_, rfl, d, _, _, _, rfl, rfl, SqL.of hd, atI_nat (j := 0) rfl, ?_⟩
    cases ns with
    | nil =>
      refine ⟨_, rfl, false, .inl ⟨_, SqL.of hg, rfl⟩, iteF ?_⟩
      -- d[2] = d[2] + 1
      refine ⟨_, rfl, d, _, _, _, rfl, rfl, SqL.of hd, atI_nat (j := 2) rfl, _, _, rfl, rfl, _, rfl, d, _, _, 2, rfl, rfl, hd, rfl, ?_⟩
      -- d[1] = (d[1] * 69621 + d[2] * 7919 + 5) % 2147483647
      refine ⟨_, rfl, d, _, _, _, rfl, rfl, SqL.of upd_same, atI_nat (j := 1) rfl, _, _, rfl, rfl, .inl ⟨by omega, by omega⟩, ?_⟩
      refine ⟨_, rfl, d, _, _, _, rfl, rfl, SqL.of upd_same, atI_nat (j := 2) rfl, _, _, rfl, rfl, .inr ⟨by decide, by decide⟩, ?_⟩
      refine ⟨_, _, rfl, rfl, _, _, rfl, rfl, _, _, rfl, rfl, (by show (2147483647 : Int) ≠ 0; decide), _, rfl, d, _, _, 1, rfl, rfl, upd_same, rfl, ?_⟩
      -- return d[1] // 31 % many
      refine ⟨_, rfl, d, _, _, _, rfl, rfl, SqL.of upd_same, atI_nat (j := 1) rfl, _, _, rfl, rfl, ⟨by decide, by decide⟩, _, rfl, _, _, rfl, rfl, (by omega), ?_⟩
      obtain ⟨f1, f2⟩ := fmod_in (i := s0 * 69621 + (c0 + 1) * 7919 + 5) (m := 2147483647) (by decide)
      obtain ⟨x1, x2⟩ := fmod_in (i := ((s0 * 69621 + (c0 + 1) * 7919 + 5).fmod 2147483647).fdiv 31) (m := m) hm0
      refine k _ _ x1 x2 ⟨ndg, _, _, [], upd_same, ?_, f1, f2⟩ ?_
      · rw [upd_ne (fun q => ndg q.symm), upd_ne (fun q => ndg q.symm)]; exact hg
      · rw [upd_upd]
        exact Kp.mut hd (List.mem_cons_self ..) (fun xs q => nomatch q)
    | cons n r =>
      refine ⟨_, rfl, true, .inl ⟨_, SqL.of hg, rfl⟩, iteT ?_⟩
      refine ⟨_, rfl, g, _, _, _, rfl, rfl, SqL.of hg, atI_nat (j := 0) rfl, .inl ⟨n, rfl, _, rfl, _, _, rfl, rfl, (by omega), ?_⟩⟩
      obtain ⟨x1, x2⟩ := fmod_in (i := n) (m := m) hm0
      refine ⟨_, rfl, g, _, _, _, rfl, rfl, SqL.of hg, atI_nat (j := 0) rfl, _, rfl, _, _, rfl, _, _, rfl, rfl, ?_, _, rfl, g, _, _, 0, rfl, rfl, hg, ix_zero (by simp), ?_⟩
      · show (if m > 2 then m else 2) ≠ 0 ∧ (if m > 2 then m else 2).natAbs < 1073741824
        split <;> omega
      have hd2 : ∀ o, upd H g o d = some (.lst [.ref g, .int s0, .int c0]) := fun o => by rw [upd_ne ndg]; exact hd
      have kg : ∀ o, Kp [d, g] H (upd H g o) := fun o => Kp.mut hg (List.mem_cons_of_mem _ (List.mem_cons_self ..)) (fun xs q => nomatch q)
      -- if great[0] == 0: great.pop(0)
      refine ⟨fun σ' H' => σ' = [some (.ref d), some (.int m), some (.ref g), some (.int (n.fmod m))] ∧ DrAt H' d g ∧ Kp [d, g] H H', ?_, ?_⟩
      · refine ⟨_, rfl, g, _, _, _, rfl, rfl, SqL.of upd_same, atI_nat (j := 0) rfl, rfl, _, rfl, ite2 (fun _ => ?_) (fun _ => ?_)⟩
        · refine ⟨_, rfl, .inl ⟨rfl, _, SqL.of upd_same⟩, g, _, _, 0, _, rfl, rfl, upd_same, by decide, by decide, ?_, rfl, ?_⟩
          · unfold seqIndex?
            simp
          · rw [upd_upd]
            exact ⟨rfl, ⟨ndg, s0, c0, r, hd2 _, upd_same, hs0, hs1⟩, kg _⟩
        · exact ⟨rfl, ⟨ndg, s0, c0, (n.fdiv (if m > 2 then m else 2)) :: r, hd2 _, upd_same, hs0, hs1⟩, kg _⟩
      · rintro σ' H' ⟨rfl, h1, h2⟩
        exact ⟨_, rfl, k _ H' x1 x2 h1 h2⟩
/-- the slice of the script -/
theorem cut_ints (ns : List Int) (lo hi : Option Int) : ∃ ms : List Int, cutV (ns.map V.int) lo hi = ms.map V.int ∧ ms.length ≤ ns.length := by
  refine ⟨(ns.drop (HT.sIx (ns.map V.int).length 0 lo)).take (HT.sIx (ns.map V.int).length (ns.map V.int).length hi - HT.sIx (ns.map V.int).length 0 lo), ?_, ?_⟩
  · unfold cutV
    rw [List.map_take, List.map_drop]
  · rw [List.length_take, List.length_drop]
    omega
def spBegin (K : PySem.W.Frag) : Sp := fun vs H Q _ => ∃ (a : Addr) (ns : List Int), vs = [.ref a] ∧ SqL K H a (ns.map V.int) ∧ ns.length ≤ 63 ∧
  ∀ H' d g, DrAt H' d g → H d = none → H g = none → Kp [] H H' → Q (.ref d) H'
theorem Kp.seq {H H' : Hp} {K : PySem.W.Frag} {a : Addr} {xs : List V} (k : Kp [] H H') (h : SqL K H a xs) : SqL K H' a xs := k.same.seq h
theorem ok_begin (T : Txt K mg CB CT CR) : Has P w K mg base CX0 1 "_law_begin" ["script"] (spBegin K) := by
  refine has_of T.d_law_begin fun f fd F => F.ok sc_law_begin (fun vs H Q E h => ?_) (fun cdv A outer s H vs Q E hr h => ?_)
  · obtain ⟨a, ns, rfl, _⟩ := h
    rfl
  · obtain ⟨a, ns, rfl, hS, hlen, k⟩ := h
    refine ⟨_, (pss_cons (ps_setLc (i := 1) (own := [("cell", 2)]) (g := (gName 2)) rfl sc_law_begin.nd rfl rfl (sw_true rfl rfl rfl (by decide +kernel)) (pi_list (pe_slice sl_list (pv 0) po_none (po_some pe_int))) (blkOk_by (own := [("cell", 2)]) (N := n_law_begin) (sc := defScope s_law_begin) (by decide +kernel)) (fun _ _ _ _ _ => pg_name (i := 2) sc_law_begin.nd rfl (Or.inl rfl)) (fun _ _ _ _ _ => (pts_one (pt_cmpR op_ge (pv 2) (pe_op op_pow pe_int pe_int) (nomark _)))) (fun _ _ _ _ _ => (pv 2)))
    (pss_cons (ps_set (i := 3) sc_law_begin.nd rfl (Or.inl rfl) pe_int)
    (pss_cons (ps_for PassesOwn.never rfl (pi_list (pe_slice sl_list (pv 0) po_none (po_some pe_int))) (pg_name (i := 2) sc_law_begin.nd rfl (Or.inl rfl))
      (pss_one (ps_if (pt_cmpR op_lt (pv 2) (pe_op op_pow pe_int pe_int) (nomark _))
        (pss_one (ps_set (i := 3) sc_law_begin.nd rfl (Or.inl rfl) (pe_op op_modN (pe_op op_add (pe_op op_add (pe_op op_mul (pv 3) pe_int) (pe_op op_modN (pe_callTy call_int1 (by rfl) T.b_int (by decide +kernel) (pa_cons (pv 2) pa_nil)) pe_int)) pe_int) pe_int)))
        pss_nil)))
    (pss_one (ps_ret (pe_lst (pa_cons (pv 1) (pa_cons (pv 3) (pa_cons (pe_callB call_len_seq (by rfl) T.b_len (by decide +kernel) (pa_cons (pe_slice sl_list (pv 0) po_none (po_some pe_int)) pa_nil)) pa_nil))))))))), ?_⟩
    obtain ⟨ms, em, hm⟩ := cut_ints ns none (some 63)
    -- great
    refine ⟨_, rfl, _, rfl, a, _, rfl, hS, fun p hp => ?_⟩
    rw [em]
    refine ⟨p, rfl, ⟨_, SqL.of upd_same⟩, fun D hD => ?_⟩
    have hpD : p ≠ D := ne_of_none upd_same hD
    have hD0 : H D = none := (Kp.new (M := []) hp).fresh hD fun q => nomatch q
    refine lc_list (K := K) (a := p) (xs := ms.map V.int) (fun i H' => ∃ gs : List Int, gs.length ≤ i ∧ H' D = some (.lst (gs.map V.int)) ∧ H' p = some (.lst (ms.map V.int)) ∧ Kp [] H H')
      ⟨[], Nat.zero_le _, upd_same, by rw [upd_ne hpD]; exact upd_same, (Kp.new hp).own hD0⟩ (fun i H' _ ⟨_, _, _, q, _⟩ => SqL.of q) ?_ ?_
    · rintro i x H' hx ⟨gs, hgs, h1, h2, kp⟩
      obtain ⟨z, rfl⟩ : ∃ z, x = V.int z := by
        rw [List.getElem?_map] at hx
        cases e : ms[i]? with
        | none => rw [e] at hx; cases hx
        | some z => rw [e] at hx; exact ⟨z, (Option.some.inj hx).symm⟩
      have hi := (List.getElem?_eq_some_iff.mp hx).1
      rw [List.length_map] at hi
      refine ⟨rfl, _, rfl, _, _, rfl, rfl, ⟨by decide, by decide, by decide⟩, _, _, rfl, rfl, _, rfl, ite2 (fun _ => ?_) (fun _ => ?_)⟩
      · refine ⟨_, rfl, gs.map V.int, h1, ?_, gs ++ [z], by simp; omega, ?_, ?_, kp.own hD0⟩
        · rw [List.length_map]
          exact Nat.lt_of_le_of_lt (show gs.length ≤ 63 by omega) (by decide)
        · rw [List.map_append]; exact upd_same
        · rw [upd_ne hpD]; exact h2
      · exact ⟨gs, by omega, h1, h2, kp⟩
    rintro H1 ⟨gs, hgs, h1, h2, kp⟩
    -- seed = 12345; for cell in script[:63]
    refine ⟨_, rfl, _, rfl, a, _, rfl, kp.seq hS, fun p2 hp2 => ?_⟩
    rw [em]
    refine ⟨p2, rfl, ⟨_, SqL.of upd_same⟩, ?_⟩
    refine for_list (K := K) (a := p2) (xs := ms.map V.int) (fun i σ H' => ∃ (v2 : Option V) (s0 : Int), σ = [some (.ref a), some (.ref D), v2, some (.int s0)] ∧ 0 ≤ s0 ∧ s0 < 2147483647 ∧ H' = upd H1 p2 (.lst (ms.map V.int)))
      ⟨_, _, rfl, by decide, by decide, rfl⟩ (fun i σ H' _ ⟨_, _, _, _, _, e⟩ => by rw [e]; exact SqL.of upd_same) ?_ ?_
    · rintro i x σ H' hx ⟨v2, s0, rfl, h3, h4, rfl⟩
      obtain ⟨z, rfl⟩ : ∃ z, x = V.int z := by
        rw [List.getElem?_map] at hx
        cases e : ms[i]? with
        | none => rw [e] at hx; cases hx
        | some z => rw [e] at hx; exact ⟨z, (Option.some.inj hx).symm⟩
      refine ⟨_, rfl, _, _, rfl, rfl, ⟨by decide, by decide, by decide⟩, _, _, rfl, rfl, _, rfl, ite2 (fun _ => ?_) (fun _ => ?_)⟩
      · refine ⟨_, rfl, _, _, rfl, rfl, .inl ⟨by omega, by omega⟩, _, rfl, .inl ⟨z, rfl, _, _, rfl, rfl, (by show (1000003 : Int) ≠ 0; decide), _, _, rfl, rfl, _, _, rfl, rfl, _, _, rfl, rfl, (by show (2147483647 : Int) ≠ 0; decide), ?_⟩⟩
        obtain ⟨f1, f2⟩ := fmod_in (i := s0 * 48271 + z.fmod 1000003 + 11) (m := 2147483647) (by decide)
        exact ⟨_, _, rfl, f1, f2, rfl⟩
      · exact ⟨_, _, rfl, h3, h4, rfl⟩
    rintro σ H' ⟨v2, s0, rfl, h3, h4, rfl⟩
    have k2 : Kp [] H (upd H1 p2 (.lst (ms.map V.int))) := kp.trans (Kp.new hp2)
    have nDp2 : D ≠ p2 := ne_of_none h1 hp2
    -- return [great, seed, len(script[:63])]
    refine ⟨_, rfl, _, rfl, _, rfl, _, rfl, a, _, rfl, k2.seq hS, fun p3 hp3 => ⟨p3, _, rfl, .inl (SqL.of upd_same), ?_⟩⟩
    refine ⟨(by show 3 ≤ sizeLine; decide), fun d hd => ?_⟩
    have hD3 : upd (upd H1 p2 (.lst (ms.map V.int))) p3 (.lst (cutV (ns.map V.int) none (some 63))) D = some (.lst (gs.map V.int)) := by
      have e : upd H1 p2 (.lst (ms.map V.int)) D = some (.lst (gs.map V.int)) := by rw [upd_ne nDp2]; exact h1
      rw [upd_ne (ne_of_none e hp3)]; exact e
    have nDd : D ≠ d := ne_of_none hD3 hd
    have k3 := k2.trans (Kp.new (o := .lst (cutV (ns.map V.int) none (some 63))) hp3)
    exact k _ d D ⟨nDd.symm, s0, _, gs, upd_same, by rw [upd_ne nDd]; exact hD3, h3, h4⟩ (k3.fresh hd fun q => nomatch q) hD0 (k3.trans (Kp.new hd))
end
end PV
namespace PV
open PySem PySem.Spec PyProof.Rows L2

/-! ### the pieces -/
def P1 : List Str := ["0", "7", "12", "345678901", "1234567890", "007", "10"]
def P2 : List Str := ["a", "promise", "abcdefgh", "abcdefghi", "since", "zz"]
def P3 : List Str := ["+", "#", "b", "3"]
def P0 : List Str := ["(", ")", "5"]
def PIECES : List Str := P0 ++ P1 ++ P2 ++ P3
theorem pieces_ok : ∀ p ∈ PIECES, pokB p = true := by decide +kernel
theorem pieces_len : ∀ p ∈ PIECES, p.length ≤ 10 := by decide +kernel
theorem pok_piece {p : Str} (h : p ∈ PIECES) : POk p := pok_of (pieces_ok p h)
theorem at_strs {L : List Str} {x : Int} (h0 : 0 ≤ x) (h1 : x < L.length) : ∃ p ∈ L, atI (L.map V.str) x = some (.str p) := by
  obtain ⟨n, rfl⟩ : ∃ n : Nat, x = n := ⟨x.toNat, by omega⟩
  have hn : n < L.length := by omega
  exact ⟨L[n], List.getElem_mem hn, atI_nat (by rw [List.getElem?_map, List.getElem?_eq_getElem hn]; rfl)⟩
def spPiece : Sp := fun vs H Q _ => ∃ (d g : Addr), vs = [.ref d] ∧ DrAt H d g ∧ ∀ p H', p ∈ PIECES → DrAt H' d g → Kp [d, g] H H' → Q (.str p) H'
section
variable {P : Program} {w : World} {K : PySem.W.Frag} {mg : Str → Option Value} {base : Heap} {CB CT CR : Addr}
theorem ok_piece (T : Txt K mg CB CT CR) : Has P w K mg base CX0 2 "_law_piece" ["d"] spPiece := by
  have h__law_draw : Has P w K mg base CX0 1 "_law_draw" ["d", "many"] spDraw := ok_draw T
  refine has_of T.d_law_piece fun f fd F => F.ok sc_law_piece (fun vs H Q E h => ?_) (fun cdv A outer s H vs Q E hr h => ?_)
  · obtain ⟨d, g, rfl, _⟩ := h
    rfl
  · obtain ⟨d, g, rfl, D, k⟩ := h
    refine ⟨_, (pss_cons (ps_set (i := 1) sc_law_piece.nd rfl (Or.inl rfl) (pe_c0 h__law_draw (hr.mono (by decide)) rfl (pa_cons (pv 0) (pa_cons pe_int pa_nil))))
    (pss_cons (ps_if (pt_cmpR op_lt (pv 1) pe_int (nomark _))
      (pss_one (ps_ret pe_str))
      pss_nil)
    (pss_cons (ps_if (pt_cmpR op_lt (pv 1) pe_int (nomark _))
      (pss_one (ps_ret pe_str))
      pss_nil)
    (pss_cons (ps_if (pt_cmpR op_lt (pv 1) pe_int (nomark _))
      (pss_one (ps_ret (pe_ix ix_tup (pe_tup (pa_cons pe_str (pa_cons pe_str (pa_cons pe_str (pa_cons pe_str (pa_cons pe_str (pa_cons pe_str (pa_cons pe_str pa_nil)))))))) (pe_c0 h__law_draw (hr.mono (by decide)) rfl (pa_cons (pv 0) (pa_cons pe_int pa_nil))) (fun _ _ => rfl))))
      pss_nil)
    (pss_cons (ps_if (pt_cmpR op_eq (pv 1) pe_int (nomark _))
      (pss_one (ps_ret (pe_ix ix_tup (pe_tup (pa_cons pe_str (pa_cons pe_str (pa_cons pe_str (pa_cons pe_str (pa_cons pe_str (pa_cons pe_str pa_nil))))))) (pe_c0 h__law_draw (hr.mono (by decide)) rfl (pa_cons (pv 0) (pa_cons pe_int pa_nil))) (fun _ _ => rfl))))
      pss_nil)
    (pss_one (ps_ret (pe_ix ix_tup (pe_tup (pa_cons pe_str (pa_cons pe_str (pa_cons pe_str (pa_cons pe_str pa_nil))))) (pe_c0 h__law_draw (hr.mono (by decide)) rfl (pa_cons (pv 0) (pa_cons pe_int pa_nil))) (fun _ _ => rfl))))))))), ?_⟩
    refine ⟨_, rfl, d, g, 10, rfl, D, by decide, by decide, fun x H1 _ _ D1 k1 => ?_⟩
    refine ⟨_, rfl, _, _, rfl, rfl, _, rfl, ite2 (fun _ => ?_) (fun _ => ?_)⟩
    · exact k _ H1 (by decide +kernel) D1 k1
    refine ⟨_, rfl, _, _, rfl, rfl, _, rfl, ite2 (fun _ => ?_) (fun _ => ?_)⟩
    · exact k _ H1 (by decide +kernel) D1 k1
    have pick : ∀ (L : List Str) (m : Int), m = L.length → 0 < m → m < 1000000 → (∀ p ∈ L, p ∈ PIECES) → ∀ p, H1 p = none →
        spDraw [.ref d, .int m] (upd H1 p (.tup (L.map V.str))) (fun y H2 => rIxT K (.ref p) y H2 fun v H3 => Q v H3) E0 := by
      intro L m hm h0 h1 hL p hp
      have kn : Kp [] H1 (upd H1 p (.tup (L.map V.str))) := Kp.new hp
      refine ⟨d, g, m, rfl, D1.keep kn, h0, h1, fun x H2 x0 x1 D2 k2 => ?_⟩
      obtain ⟨z, hz, ha⟩ := at_strs (L := L) x0 (by rw [hm] at x1; exact x1)
      exact ⟨p, _, x, _, rfl, rfl, SqT.of (k2.tups _ _ upd_same), ha, k z H2 (hL z hz) D2 ((k1.trans kn.none).trans k2)⟩
    refine ⟨_, rfl, _, _, rfl, rfl, _, rfl, ite2 (fun _ => ?_) (fun _ => ?_)⟩
    · exact ⟨(by show 7 ≤ sizeLine; decide), fun p hp => ⟨_, rfl, pick P1 7 rfl (by decide) (by decide) (by decide +kernel) p hp⟩⟩
    refine ⟨_, rfl, rfl, _, rfl, ite2 (fun _ => ?_) (fun _ => ?_)⟩
    · exact ⟨(by show 6 ≤ sizeLine; decide), fun p hp => ⟨_, rfl, pick P2 6 rfl (by decide) (by decide) (by decide +kernel) p hp⟩⟩
    · exact ⟨(by show 4 ≤ sizeLine; decide), fun p hp => ⟨_, rfl, pick P3 4 rfl (by decide) (by decide) (by decide +kernel) p hp⟩⟩
end

/-! ### a comprehension over a text's signs; a loop over enumerate -/
theorem lc_signs {z : Str} {g : TG} {tt : TT} {te : TE} {vs : List Nat} {σ : L2.St} {H1 : Hp} {D : Addr} {Qd : Hp → Prop} (Pv : Nat → Hp → Prop) (h0 : Pv 0 (upd H1 D (.lst [])))
    (hs : ∀ i c H, z.cps.toList[i]? = some c → Pv i H → g (.str ⟨#[c]⟩) (wipe σ vs) H fun σ2 H2 => wipe σ2 vs = wipe σ vs ∧ tt σ2 H2 fun b H3 =>
      if b = true then te σ2 H3 fun y H4 => ∃ acc, H4 D = some (.lst acc) ∧ acc.length < sizeLine ∧ Pv (i + 1) (upd H4 D (.lst (acc ++ [y]))) else Pv (i + 1) H3) (hd : ∀ H, Pv z.length H → Qd H) :
    ∃ W : Nat → Nat → Hp → Prop, (∃ m, W 0 m (upd H1 D (.lst []))) ∧ ∀ i m H, W i m H →
      ((Its z).stop i H ∧ Qd H) ∨ ((Its z).go i H ∧ ∃ Nx : Hp → Prop, (∀ H', Nx H' → ∃ m', m' < m ∧ W (i + 1) m' H') ∧ ∀ x H', (Its z).yld i H x H' → g x (wipe σ vs) H' fun σ2 H2 => wipe σ2 vs = wipe σ vs ∧ tt σ2 H2 fun b H3 =>
        if b = true then te σ2 H3 fun y H4 => ∃ acc, H4 D = some (.lst acc) ∧ acc.length < sizeLine ∧ Nx (upd H4 D (.lst (acc ++ [y]))) else Nx H3) := by
  refine ⟨fun i m H => m = z.length - i ∧ i ≤ z.length ∧ Pv i H, ⟨_, rfl, Nat.zero_le _, h0⟩, fun i m H h => ?_⟩
  obtain ⟨rfl, hi, p⟩ := h
  by_cases e : i < z.length
  · refine .inr ⟨e, Pv (i + 1), fun H' p' => ⟨z.length - (i + 1), by omega, rfl, e, p'⟩, fun x H' y => ?_⟩
    obtain ⟨rfl, c, hc, rfl⟩ := y
    exact hs i c _ (by rw [← hc]; simp) p
  · obtain rfl : i = z.length := by omega
    exact .inl ⟨Nat.le_refl _, hd _ p⟩
theorem for_enum {K : PySem.W.Frag} {a : Addr} {xs : List V} {g : TG} {tb : TS} {D : Ends} {σ : L2.St} {H : Hp} (Pv : Nat → L2.St → Hp → Prop) (h0 : Pv 0 σ H) (hl : ∀ i σ H, Pv i σ H → SqL K H a xs)
    (hs : ∀ i x σ H T, xs[i]? = some x → Pv i σ H → H T = none → g (.ref T) σ (upd H T (.tup [.int (i : Nat), x])) fun σ2 H2 => tb { D with nx := Pv (i + 1), ct := Pv (i + 1), bk := D.nx } σ2 H2) (hd : ∀ σ H, Pv xs.length σ H → D.nx σ H) :
    ∃ W : Nat → Nat → L2.St → Hp → Prop, (∃ m, W 0 m σ H) ∧ ∀ i m σ H, W i m σ H →
      ((Ite K a).stop i H ∧ D.nx σ H) ∨ ((Ite K a).go i H ∧ ∃ N : L2.St → Hp → Prop, (∀ σ' H', N σ' H' → ∃ m', m' < m ∧ W (i + 1) m' σ' H') ∧ ∀ x H', (Ite K a).yld i H x H' → g x σ H' fun σ2 H2 => tb { D with nx := N, ct := N, bk := D.nx } σ2 H2) := by
  refine ⟨fun i m σ H => m = xs.length - i ∧ i ≤ xs.length ∧ Pv i σ H, ⟨_, rfl, Nat.zero_le _, h0⟩, fun i m σ H h => ?_⟩
  obtain ⟨rfl, hi, p⟩ := h
  have q := hl i σ H p
  by_cases e : i < xs.length
  · refine .inr ⟨⟨xs, xs[i], q, List.getElem?_eq_getElem e⟩, Pv (i + 1), fun σ' H' p' => ⟨xs.length - (i + 1), by omega, rfl, e, p'⟩, fun x H' y => ?_⟩
    obtain ⟨T, x, rfl, hT, rfl, hx⟩ := y
    exact hs i x σ H T (hx xs q) p hT
  · obtain rfl : i = xs.length := by omega
    exact .inl ⟨⟨xs, q, Nat.le_refl _⟩, hd _ _ p⟩

/-! ### _law_worth -/
def NumT (p : Str) : Prop := ∀ d, asNum p = some d → ∃ n, intText? p = some n
theorem pieces_num : ∀ p ∈ PIECES, (p.cps.toList.all isD = true → (intText? p).isSome = true) := by decide +kernel
theorem filter_take {al : Nat → Bool} {l : List Nat} {i c : Nat} (h : l[i]? = some c) : (l.take (i + 1)).filter al = (l.take i).filter al ++ (if al c = true then [c] else []) := by
  have hl := (List.getElem?_eq_some_iff.mp h)
  rw [List.take_succ_eq_append_getElem hl.1, List.filter_append, hl.2]
  congr 1
  by_cases e : al c = true
  · rw [if_pos e, List.filter_cons, if_pos e]; rfl
  · rw [if_neg e, List.filter_cons, if_neg e]; rfl
def spWorth : Sp := fun vs H Q _ => ∃ p : Str, vs = [.str p] ∧ p ∈ PIECES ∧
  (∀ H', worth p = none → Kp [] H H' → Q .non H') ∧ (∀ H' l v d, worth p = some d → Da H' v d → H' l = some (.lst [v]) → H l = none → Kp [] H H' → Q (.ref l) H')
section
variable {P : Program} {w : World} {K : PySem.W.Frag} {mg : Str → Option Value} {base : Heap} {CB CT CR : Addr}
theorem ok_worth (T : Txt K mg CB CT CR) : Has P w K mg base CX0 1 "_law_worth" ["piece"] spWorth := by
  refine has_of T.d_law_worth fun f fd F => F.ok sc_law_worth (fun vs H Q E h => ?_) (fun cdv A outer s H vs Q E hr h => ?_)
  · obtain ⟨p, rfl, _⟩ := h
    rfl
  · obtain ⟨p, rfl, hp, kN, kS⟩ := h
    refine ⟨_, (pss_cons (ps_setLc (i := 1) (own := [("sign", 2)]) (g := (gName 2)) rfl sc_law_worth.nd rfl rfl (sw_true rfl rfl rfl (by decide +kernel)) (pi_str (pv 0)) (blkOk_by (own := [("sign", 2)]) (N := n_law_worth) (sc := defScope s_law_worth) (by decide +kernel)) (fun _ _ _ _ _ => pg_name (i := 2) sc_law_worth.nd rfl (Or.inl rfl)) (fun _ _ _ _ _ => (pts_one (pt_cmpR op_inS (pv 2) pe_str rfl))) (fun _ _ _ _ _ => (pv 2)))
    (pss_cons (ps_setLc (i := 3) (own := [("sign", 2)]) (g := (gName 2)) rfl sc_law_worth.nd rfl rfl (sw_true rfl rfl rfl (by decide +kernel)) (pi_str (pv 0)) (blkOk_by (own := [("sign", 2)]) (N := n_law_worth) (sc := defScope s_law_worth) (by decide +kernel)) (fun _ _ _ _ _ => pg_name (i := 2) sc_law_worth.nd rfl (Or.inl rfl)) (fun _ _ _ _ _ => (pts_one (pt_cmpR op_inS (pv 2) pe_str rfl))) (fun _ _ _ _ _ => (pv 2)))
    (pss_cons (ps_if (pt_cmpR op_eq (pe_callB call_len_seq (by rfl) T.b_len (by decide +kernel) (pa_cons (pv 1) pa_nil)) (pe_callB call_len_str (by rfl) T.b_len (by decide +kernel) (pa_cons (pv 0) pa_nil)) (nomark _))
      (pss_cons (ps_if (PW.pt (pw_or (pt_cmpR op_gt (pe_callB call_len_str (by rfl) T.b_len (by decide +kernel) (pa_cons (pv 0) pa_nil)) pe_int (nomark _)) (pw_or1 (PW.pt (pw_and (pt_cmpR op_gt (pe_callB call_len_str (by rfl) T.b_len (by decide +kernel) (pa_cons (pv 0) pa_nil)) pe_int (nomark _)) (pw_and1 (pt_cmpR op_eq (pe_ix ix_str (pv 0) pe_int (fun _ _ => rfl)) pe_str (nomark _))))))))
        (pss_one (ps_ret pe_non))
        pss_nil)
      (pss_one (ps_ret (pe_lst (pa_cons (pe_callTy call_int_str (by rfl) T.b_int (by decide +kernel) (pa_cons (pv 0) pa_nil)) pa_nil)))))
      pss_nil)
    (pss_cons (ps_if (PW.pt (pw_and (pt_cmpR op_eq (pe_callB call_len_seq (by rfl) T.b_len (by decide +kernel) (pa_cons (pv 3) pa_nil)) (pe_callB call_len_str (by rfl) T.b_len (by decide +kernel) (pa_cons (pv 0) pa_nil)) (nomark _)) (pw_and1 (pt_cmpR op_le (pe_callB call_len_str (by rfl) T.b_len (by decide +kernel) (pa_cons (pv 0) pa_nil)) pe_int (nomark _)))))
      (pss_one (ps_ret (pe_lst (pa_cons (pv 0) pa_nil))))
      pss_nil)
    (pss_one (ps_ret pe_non)))))), ?_⟩
    have hlen := pieces_len p hp
    have e1 := TL.len_tl p
    have e2 : p.length = p.cps.toList.length := e1
    have sign : ∀ (al : Nat → Bool) (i : Nat), ((p.cps.toList.take i).filter al).length ≤ 10 := fun al i => by
      have := List.length_filter_le al (p.cps.toList.take i)
      rw [List.length_take] at this
      omega
    -- figures, letters
    refine ⟨_, rfl, p, rfl, fun D hD => ?_⟩
    refine lc_signs (z := p) (fun i H' => H' D = some (.lst (((p.cps.toList.take i).filter isD).map fun c => V.str ⟨#[c]⟩)) ∧ Kp [] H H') ⟨upd_same, Kp.new hD⟩ ?_ ?_
    · rintro i c H' hc ⟨h1, k1⟩
      refine ⟨rfl, _, rfl, c, _, rfl, rfl, _, rfl, ite2 (fun c1 => ?_) (fun c1 => ?_)⟩
      · have c2 : isD c = true := c1
        refine ⟨_, rfl, _, h1, ?_, ?_, k1.own hD⟩
        · rw [List.length_map]; exact Nat.lt_of_le_of_lt (sign _ _) (by decide)
        · rw [filter_take hc, if_pos c2, List.map_append]; exact upd_same
      · have c2 : ¬ isD c = true := c1
        refine ⟨?_, k1⟩
        rw [filter_take hc, if_neg c2, List.append_nil]; exact h1
    rintro H1 ⟨h1, k1⟩
    rw [show p.cps.toList.take p.length = p.cps.toList from List.take_of_length_le (by omega)] at h1
    refine ⟨_, rfl, p, rfl, fun D2 hD2 => ?_⟩
    have nDD : D ≠ D2 := ne_of_none h1 hD2
    have hD20 := k1.fresh hD2 fun q => nomatch q
    refine lc_signs (z := p) (fun i H' => H' D2 = some (.lst (((p.cps.toList.take i).filter isL).map fun c => V.str ⟨#[c]⟩)) ∧ H' D = some (.lst ((p.cps.toList.filter isD).map fun c => V.str ⟨#[c]⟩)) ∧ Kp [] H H')
      ⟨upd_same, by rw [upd_ne nDD]; exact h1, k1.own hD20⟩ ?_ ?_
    · rintro i c H' hc ⟨h2, h3, k2⟩
      refine ⟨rfl, _, rfl, c, _, rfl, rfl, _, rfl, ite2 (fun c1 => ?_) (fun c1 => ?_)⟩
      · have c2 : isL c = true := c1
        refine ⟨_, rfl, _, h2, ?_, ?_, by rw [upd_ne nDD]; exact h3, k2.own hD20⟩
        · rw [List.length_map]; exact Nat.lt_of_le_of_lt (sign _ _) (by decide)
        · rw [filter_take hc, if_pos c2, List.map_append]; exact upd_same
      · have c2 : ¬ isL c = true := c1
        refine ⟨?_, h3, k2⟩
        rw [filter_take hc, if_neg c2, List.append_nil]; exact h2
    rintro H2 ⟨h2, h3, k2⟩
    rw [show p.cps.toList.take p.length = p.cps.toList from List.take_of_length_le (by omega)] at h2
    have ie : ∀ a b : Nat, decide (V.int (a : Int) = V.int (b : Int)) = decide (a = b) := fun a b => decide_eq_decide.mpr ⟨fun q => by have := V.int.inj q; omega, fun q => by rw [q]⟩
    refine ⟨_, rfl, D, _, rfl, .inl (SqL.of h3), _, rfl, _, rfl, small (by omega), rfl, _, rfl, ?_⟩
    rw [ie, List.length_map]
    by_cases cD : (p.cps.toList.filter isD).length = p.length
    · rw [decide_eq_true cD]
      have allD : p.cps.toList.all isD = true := by
        have : p.cps.toList.filter isD = p.cps.toList := List.Sublist.eq_of_length (List.filter_sublist ..) (by omega)
        rw [List.all_eq_true]
        exact List.filter_eq_self.mp this
      have good : ¬ 9 < p.length → ¬ (1 < p.length ∧ p.cps.toList.head? = some 48) → tRet (tLst (tCons (tCB (fun xs H Q => ∃ a n, xs = [.str a] ∧ PySem.intText? a = some n ∧ a.length ≤ 640 ∧ Q (.int n) H) (tCons (tVar 0) tNil)) tNil))
          { nx := fun _ H' => Q .non H', rt := Q } [some (.str p), some (.ref D), none, some (.ref D2)] H2 := fun g1 g2 => by
        obtain ⟨n, hn⟩ := Option.isSome_iff_exists.mp (pieces_num p hp allD)
        refine ⟨_, rfl, p, n, rfl, hn, by omega, (by show 1 ≤ sizeLine; decide), fun l hl => ?_⟩
        refine kS _ l (.int n) (.int n) ?_ (.int n) upd_same (k2.fresh hl fun q => nomatch q) (k2.trans (Kp.new hl))
        unfold worth
        rw [if_pos cD, if_neg (fun q => q.elim g1 g2), hn]
        rfl
      have bad1 : (9 < p.length ∨ (1 < p.length ∧ p.cps.toList.head? = some 48)) → worth p = none := fun q => by
        unfold worth
        rw [if_pos cD, if_pos q]
      refine iteT ⟨_, rfl, _, rfl, small (by omega), _, _, rfl, rfl, _, rfl, ite2 (fun c1 => ?_) (fun c1 => ?_)⟩
      · exact iteT (kN H2 (bad1 (.inl (by have := of_decide_eq_true c1; omega))) k2)
      · have g1 : ¬ 9 < p.length := fun q => c1 (decide_eq_true (by omega))
        by_cases c2 : 1 < p.length
        · obtain ⟨y, hy, hiff⟩ := head_zero c2
          refine ⟨_, rfl, _, rfl, small (by omega), _, _, rfl, rfl, _, rfl, ?_⟩
          rw [decide_eq_true (show (1 : Int) < (p.length : Int) by omega)]
          refine iteT ⟨_, rfl, _, _, y, rfl, rfl, small (by omega), hy, rfl, _, rfl, ite2 (fun c3 => ?_) (fun c3 => ?_)⟩
          · exact kN H2 (bad1 (.inr ⟨c2, hiff.mp c3⟩)) k2
          · exact good g1 fun q => c3 (hiff.mpr q.2)
        · refine ⟨_, rfl, _, rfl, small (by omega), _, _, rfl, rfl, _, rfl, ?_⟩
          rw [decide_eq_false (show ¬ (1 : Int) < (p.length : Int) by omega)]
          exact iteF (iteF (good g1 fun q => c2 q.1))
    · rw [decide_eq_false cD]
      refine iteF ⟨_, rfl, D2, _, rfl, .inl (SqL.of h2), _, rfl, _, rfl, small (by omega), rfl, _, rfl, ?_⟩
      rw [ie, List.length_map]
      by_cases cL : (p.cps.toList.filter isL).length = p.length
      · rw [decide_eq_true cL]
        refine iteT ⟨_, rfl, _, rfl, small (by omega), _, _, rfl, rfl, _, rfl, ite2 (fun c1 => ?_) (fun c1 => ?_)⟩
        · have l8 : p.length ≤ 8 := by have := of_decide_eq_true c1; omega
          refine ⟨_, rfl, (by show 1 ≤ sizeLine; decide), fun l hl => ?_⟩
          refine kS _ l (.str p) (.str p) ?_ (.str p) upd_same (k2.fresh hl fun q => nomatch q) (k2.trans (Kp.new hl))
          unfold worth
          rw [if_neg cD, if_pos ⟨cL, l8⟩]
        · refine kN H2 ?_ k2
          unfold worth
          rw [if_neg cD, if_neg fun q => c1 (decide_eq_true (by omega))]
      · rw [decide_eq_false cL]
        refine iteF (iteF ?_)
        refine kN H2 ?_ k2
        unfold worth
        rw [if_neg cD, if_neg fun q => cL q.1]
end
end PV
namespace PV
open PySem PySem.Spec PyProof.Rows L2

/-! ### _law_due -/
def resD : Res → PyData
  | .val d => .tuple [.str "value", d]
  | .bad c => .tuple [.str "text", .int c]
  | .many => .tuple [.str "many"]
def spDue : Sp := fun vs H Q _ => ∃ (pa ca : Addr) (ps : List Str) (cs : List Int) (b : Int), vs = [.ref pa, .ref ca, .int b] ∧ H pa = some (.lst (ps.map V.str)) ∧ H ca = some (.lst (cs.map V.int)) ∧ ps.length = cs.length ∧ (∀ p ∈ ps, p ∈ PIECES) ∧ ps.length ≤ 1000 ∧
  ∀ H' a, Da H' (.ref a) (resD (due b (ps.zip cs) [])) → Kp [] H H' → Q (.ref a) H'
/-- the state between two turns: done at e, the stack's own list at l -/
def DueSt (H : Hp) (b : Int) (zs : List (Str × Int)) (pa ca l : Addr) (i : Nat) (σ : L2.St) (H' : Hp) : Prop :=
  ∃ (v5 v6 v7 : Option V) (as : List Addr) (st : List (List PyData)) (e : Addr), σ = [some (.ref pa), some (.ref ca), some (.int b), some (.ref l), some (.ref e), v5, v6, v7] ∧ Kp [] H H' ∧ H' l = some (.lst (rev as)) ∧ Stk H' i as st ∧
    (∀ a ∈ as, H a = none) ∧ ¬ l ∈ as ∧ ¬ e ∈ as ∧ ¬ e = l ∧ st.length ≤ 12 ∧
    ((H' e = some (.lst []) ∧ due b (zs.drop i) st = due b zs []) ∨ ∃ v d, H' e = some (.lst [v]) ∧ Da H' v d ∧ (match zs.drop i with | [] => Res.val d | (_, c') :: _ => .bad c') = due b zs [])
/-- behind the choice of worth -/
def DueMid (H H1 : Hp) (b : Int) (pa ca l e T : Addr) (i : Nat) (p : Str) (st : List (List PyData)) (σ : L2.St) (H' : Hp) : Prop :=
  ∃ (as' : List Addr) (st' : List (List PyData)) (wv : V), σ = [some (.ref pa), some (.ref ca), some (.int b), some (.ref l), some (.ref e), some (.int (i : Nat)), some (.str p), some wv] ∧ Kp [] H H' ∧ H' l = some (.lst (rev as')) ∧ Stk H' i as' st' ∧
    (∀ a ∈ as', H a = none) ∧ ¬ l ∈ as' ∧ ¬ e ∈ as' ∧ st'.length ≤ 12 ∧ H' e = some (.lst []) ∧
    ((wv = .non ∧ stepP p st = .bad) ∨ ∃ wl v d, wv = .ref wl ∧ H' wl = some (.lst [v]) ∧ Da H' v d ∧ stepP p st = putN d st' ∧ ¬ wl = l ∧ ¬ wl ∈ as')
theorem zip_drop {ps : List Str} {cs : List Int} {i : Nat} {p : Str} (hl : ps.length = cs.length) (h : ps[i]? = some p) : ∃ c, cs[i]? = some c ∧ (ps.zip cs).drop i = (p, c) :: (ps.zip cs).drop (i + 1) := by
  obtain ⟨hi, e⟩ := List.getElem?_eq_some_iff.mp h
  have hc : i < cs.length := by omega
  refine ⟨cs[i], List.getElem?_eq_getElem hc, ?_⟩
  have hz : i < (ps.zip cs).length := by rw [List.length_zip]; omega
  rw [List.drop_eq_getElem_cons hz, List.getElem_zip, e]
section
variable {P : Program} {w : World} {K : PySem.W.Frag} {mg : Str → Option Value} {base : Heap} {CB CT CR : Addr}
theorem ok_due (T : Txt K mg CB CT CR) : Has P w K mg base CX0 2 "_law_due" ["pieces", "columns", "behind"] spDue := by
  have h__law_worth : Has P w K mg base CX0 1 "_law_worth" ["piece"] spWorth := ok_worth T
  refine has_of T.d_law_due fun f fd F => F.ok sc_law_due (fun vs H Q E h => ?_) (fun cdv A outer s H vs Q E hr h => ?_)
  · obtain ⟨pa, ca, ps, cs, b, rfl, _⟩ := h
    rfl
  · obtain ⟨pa, ca, ps, cs, b, rfl, hpa, hca, hpc, hps, hlen, k⟩ := h
    refine ⟨_, (pss_cons (ps_set (i := 3) sc_law_due.nd rfl (Or.inl rfl) (pe_lst pa_nil))
    (pss_cons (ps_set (i := 4) sc_law_due.nd rfl (Or.inl rfl) (pe_lst pa_nil))
    (pss_cons (ps_for PassesOwn.never rfl (pi_enum (by rfl) T.b_enumerate (pa_cons (pv 0) pa_nil)) (pg_tup (by rfl) (pgs_cons (pg_name (i := 5) sc_law_due.nd rfl (Or.inl rfl)) (pgs_cons (pg_name (i := 6) sc_law_due.nd rfl (Or.inl rfl)) pgs_nil)))
      (pss_cons (ps_if (pt_truth (pv 4) (by intro _; rfl))
        (pss_one (ps_ret (pe_tup (pa_cons pe_str (pa_cons (pe_ix ix_list (pv 1) (pv 5) (fun _ _ => rfl)) pa_nil)))))
        pss_nil)
      (pss_cons (ps_if (pt_cmpR op_eq (pv 6) pe_str (nomark _))
        (pss_cons (ps_if (pt_cmpR op_ge (pe_callB call_len_seq (by rfl) T.b_len (by decide +kernel) (pa_cons (pv 3) pa_nil)) pe_int (nomark _))
          (pss_one (ps_ret (pe_tup (pa_cons pe_str pa_nil))))
          pss_nil)
        (pss_cons (ps_expr (pe_bm PySem.F.plainAttrs_list PySem.F.slot_list_append PySem.F.type_list_append mt_append (pv 3) (pa_cons (pe_lst pa_nil) pa_nil)))
        (pss_one ps_continue)))
        pss_nil)
      (C8.pss_cut (ps_if (PW.pt (pw_and (pt_cmpR op_eq (pv 6) pe_str (nomark _)) (pw_and1 (pt_truth (pv 3) (by intro _; rfl)))))
        (pss_one (ps_set (i := 7) sc_law_due.nd rfl (Or.inl rfl) (pe_lst (pa_cons (pe_callTy call_tuple_of (by rfl) T.b_tuple (by decide +kernel) (pa_cons (pe_bm0 PySem.F.plainAttrs_list PySem.F.slot_list_pop PySem.F.type_list_pop mt_pop (pv 3)) pa_nil)) pa_nil))))
        (pss_one (ps_set (i := 7) sc_law_due.nd rfl (Or.inl rfl) (pe_c0 h__law_worth (hr.mono (by decide)) rfl (pa_cons (pv 6) pa_nil)))))
      (pss_cons (ps_if (pt_cmpR op_isN (pv 7) pe_non (nomark _))
        (pss_one (ps_ret (pe_tup (pa_cons pe_str (pa_cons (pe_ix ix_list (pv 1) (pv 5) (fun _ _ => rfl)) pa_nil)))))
        pss_nil)
      (pss_one (ps_if (pt_truth (pv 3) (by intro _; rfl))
        (pss_one (ps_expr (pe_bm PySem.F.plainAttrs_list PySem.F.slot_list_append PySem.F.type_list_append mt_append (pe_ix ix_list (pv 3) (pe_un un_neg pe_int) (fun _ _ => rfl)) (pa_cons (pe_ix ix_list (pv 7) pe_int (fun _ _ => rfl)) pa_nil))))
        (pss_one (ps_set (i := 4) sc_law_due.nd rfl (Or.inl rfl) (pv 7))))))))))
    (pss_cons (ps_if (pt_truth (pv 4) (by intro _; rfl))
      (pss_one (ps_ret (pe_tup (pa_cons pe_str (pa_cons (pe_ix ix_list (pv 4) pe_int (fun _ _ => rfl)) pa_nil)))))
      pss_nil)
    (pss_one (ps_ret (pe_tup (pa_cons pe_str (pa_cons (pv 2) pa_nil))))))))), ?_⟩
    refine ⟨(by show 0 ≤ sizeLine; exact Nat.zero_le _), fun l hl => ?_⟩
    refine ⟨(by show 0 ≤ sizeLine; exact Nat.zero_le _), fun e0 he0 => ?_⟩
    have nl0 : l ≠ e0 := ne_of_none upd_same he0
    have k0 : Kp [] H (upd (upd H l (.lst [])) e0 (.lst [])) := (Kp.new hl).trans (Kp.new he0)
    refine ⟨_, rfl, pa, _, rfl, SqL.of (k0.keep pa _ hpa fun q => nomatch q), ?_⟩
    refine for_enum (K := K) (a := pa) (xs := ps.map V.str) (DueSt H b (ps.zip cs) pa ca l)
      ⟨none, none, none, [], [], e0, rfl, k0, by rw [upd_ne nl0]; exact upd_same, .nil, fun _ h => (nomatch h), fun h => (nomatch h), fun h => (nomatch h), nl0.symm, Nat.zero_le _, .inl ⟨upd_same, rfl⟩⟩
      (fun i σ H' ⟨_, _, _, _, _, _, _, kp, _⟩ => SqL.of (kp.keep pa _ hpa fun q => nomatch q)) ?_ ?_
    · rintro i x σ H0 T hx ⟨v5, v6, v7, as, st, e, rfl, kp0, hL0, hS0, hF, hla, hea, nel, h12, hcase⟩ hT
      obtain ⟨p, hp, rfl⟩ : ∃ p, ps[i]? = some p ∧ x = V.str p := by
        rw [List.getElem?_map] at hx
        cases q : ps[i]? with
        | none => rw [q] at hx; cases hx
        | some p => rw [q] at hx; exact ⟨p, rfl, (Option.some.inj hx).symm⟩
      obtain ⟨c, hc, hz⟩ := zip_drop hpc hp
      have hpP := hps p (List.mem_of_getElem? hp)
      have hi : i < ps.length := (List.getElem?_eq_some_iff.mp hp).1
      -- the heap of the turn
      have kT : Kp ([] : List Addr) H0 (upd H0 T (.tup [.int (i : Nat), .str p])) := Kp.new hT
      obtain ⟨H1, eH1⟩ : ∃ H1, H1 = upd H0 T (.tup [.int (i : Nat), .str p]) := ⟨_, rfl⟩
      rw [← eH1] at kT ⊢
      have kp : Kp [] H H1 := kp0.trans kT
      have hL : H1 l = some (.lst (rev as)) := kT.keep _ _ hL0 fun q => nomatch q
      have hS : Stk H1 i as st := hS0.mono (Nat.le_refl _) (fun a ha => by
        obtain ⟨vs, q⟩ := hS0.there a ha
        rw [q]; exact kT.keep _ _ q fun q => nomatch q) kT.tups
      have hT1 : H1 T = some (.tup [.int (i : Nat), .str p]) := by rw [eH1]; exact upd_same
      have hs := hS.length
      have col : ∀ H2, Kp [] H H2 → SqL K H2 ca (cs.map V.int) ∧ atI (cs.map V.int) ((i : Nat) : Int) = some (.int c) := fun H2 k2 => ⟨SqL.of (k2.keep ca _ hca fun q => nomatch q), atI_nat (by rw [List.getElem?_map, hc]; rfl)⟩
      have text : ∀ H2, Kp [] H H2 → due b (ps.zip cs) [] = .bad c → ∀ a, H2 a = none → Q (.ref a) (upd H2 a (.tup [.str "text", .int c])) := fun H2 k2 hd a ha => by
        refine k _ a ?_ (k2.trans (Kp.new ha))
        rw [hd]
        exact .tup upd_same (.cons (.str _) (.cons (.int _) .nil))
      refine ⟨T, _, rfl, SqT.of hT1, rfl, _, _, rfl, _, _, rfl, rfl, ?_⟩
      rcases hcase with ⟨hE0, hdue⟩ | ⟨v, d, hE0, hv, hdue⟩
      · have hE : H1 e = some (.lst []) := kT.keep _ _ hE0 fun q => nomatch q
        rw [hz] at hdue
        refine ⟨_, rfl, false, .inl ⟨_, SqL.of hE, rfl⟩, iteF ?_⟩
        refine ⟨_, rfl, rfl, _, rfl, ?_⟩
        rw [str_eq]
        by_cases c1 : p = sOpen
        · rw [decide_eq_true (show p = Str.ofString "(" from c1)]
          have step : stepP p st = if 12 ≤ st.length then .many else .more ([] :: st) := by unfold stepP; rw [if_pos c1]
          refine iteT ⟨_, rfl, l, _, rfl, .inl (SqL.of hL), _, _, rfl, rfl, _, rfl, ite2 (fun c2 => ?_) (fun c2 => ?_)⟩
          · have c3 : 12 ≤ st.length := by have := of_decide_eq_true c2; rw [rev_len] at this; omega
            refine ⟨(by show 1 ≤ sizeLine; decide), fun a ha => k _ a ?_ (kp.trans (Kp.new ha))⟩
            rw [← hdue, due, step, if_pos c3]
            exact .tup upd_same (.cons (.str _) .nil)
          · have c3 : ¬ 12 ≤ st.length := fun x => c2 (decide_eq_true (by rw [rev_len]; omega))
            refine ⟨_, rfl, .inl ⟨rfl, _, SqL.of hL⟩, (by show 0 ≤ sizeLine; exact Nat.zero_le _), fun n hn => ?_⟩
            have nln : l ≠ n := ne_of_none hL hn
            have hnH : H n = none := kp.fresh hn fun q => nomatch q
            have nen : e ≠ n := ne_of_none hE hn
            refine ⟨l, _, _, rfl, rfl, by rw [upd_ne nln]; exact hL, Nat.lt_of_le_of_lt (show (rev as).length ≤ 12 by rw [rev_len]; omega) (by decide), ?_⟩
            have tups1 : ∀ b xs, H1 b = some (.tup xs) → upd (upd H1 n (.lst [])) l (.lst (rev as ++ [.ref n])) b = some (.tup xs) := fun b xs q => by
              rw [upd_ne (fun x => by rw [x, hL] at q; cases q), upd_ne (ne_of_none q hn)]; exact q
            have nas : ¬ n ∈ as := fun x => by
              obtain ⟨vs, q⟩ := hS.there n x
              rw [hn] at q
              cases q
            refine ⟨_, _, _, n :: as, [] :: st, e, rfl, (kp.trans (Kp.new hn)).own hl, by rw [rev_cons]; exact upd_same, ?_, ?_, ?_, ?_, nel, by simp only [List.length_cons]; omega, .inl ⟨by rw [upd_ne nel, upd_ne nen]; exact hE, ?_⟩⟩
            · refine .cons (vs := []) (by rw [upd_ne nln.symm]; exact upd_same) .nil nas (Nat.zero_le _) (hS.mono (Nat.le_succ _) (fun a ha => ?_) tups1)
              have a1 : a ≠ l := fun x => hla (x ▸ ha)
              have a2 : a ≠ n := fun x => nas (x ▸ ha)
              rw [upd_ne a1, upd_ne a2]
            · intro a ha
              rcases List.mem_cons.mp ha with q | ha
              · rw [q]; exact hnH
              · exact hF a ha
            · intro x
              rcases List.mem_cons.mp x with q | x
              · exact nln q
              · exact hla x
            · intro x
              rcases List.mem_cons.mp x with q | x
              · exact nen q
              · exact hea x
            · rw [← hdue, due, step, if_neg c3]
        · rw [decide_eq_false (show ¬ p = Str.ofString "(" from c1)]
          refine iteF ⟨DueMid H H1 b pa ca l e T i p st, ?_, ?_⟩
          · have other : (∀ d, worth p = some d → stepP p st = putN d st) → (worth p = none → stepP p st = .bad) →
                (tAsg (tCall spWorth [] E0 (tCons (tVar 6) tNil)) (gName 7)) { nx := DueMid H H1 b pa ca l e T i p st, rt := Q } [some (.ref pa), some (.ref ca), some (.int b), some (.ref l), some (.ref e), some (.int (i : Nat)), some (.str p), v7] H1 := fun g1 g2 => by
              refine ⟨_, rfl, p, rfl, hpP, fun H2 hw k2 => ?_, fun H2 wl v d hw hd hwl hfr k2 => ?_⟩
              · refine ⟨as, st, .non, rfl, kp.trans k2, k2.keep _ _ hL (fun q => nomatch q), hS.mono (Nat.le_refl _) (fun a ha => ?_) k2.tups, hF, hla, hea, h12, k2.keep _ _ hE (fun q => nomatch q), .inl ⟨rfl, g2 hw⟩⟩
                obtain ⟨vs, q⟩ := hS.there a ha
                rw [q]; exact k2.keep _ _ q fun q => nomatch q
              · refine ⟨as, st, .ref wl, rfl, kp.trans k2, k2.keep _ _ hL (fun q => nomatch q), hS.mono (Nat.le_refl _) (fun a ha => ?_) k2.tups, hF, hla, hea, h12, k2.keep _ _ hE (fun q => nomatch q), .inr ⟨wl, v, d, rfl, hwl, hd, g1 d hw, (ne_of_none hL hfr).symm, fun x => ?_⟩⟩
                · obtain ⟨vs, q⟩ := hS.there a ha
                  rw [q]; exact k2.keep _ _ q fun q => nomatch q
                · obtain ⟨vs, q⟩ := hS.there wl x
                  rw [hfr] at q
                  cases q
            refine ⟨_, rfl, rfl, _, rfl, ?_⟩
            rw [str_eq]
            by_cases c2 : p = sShut
            · rw [decide_eq_true (show p = Str.ofString ")" from c2)]
              refine iteT ?_
              cases hS with
              | nil =>
                refine ⟨_, rfl, false, .inl ⟨_, SqL.of hL, rfl⟩, iteF (other (fun d q => ?_) fun q => ?_)⟩
                · unfold stepP
                  rw [if_neg c1]
                  simp only [q]
                · unfold stepP
                  rw [if_neg c1]
                  simp only [q]
              | @cons a as0 vs ds st0 ha hda hna hvs hS1 =>
                have ne : (!(rev (a :: as0)).isEmpty) = true := by rw [rev_cons]; simp
                have nal : a ≠ l := fun x => hla (x ▸ List.mem_cons_self ..)
                have nae : a ≠ e := fun x => hea (x ▸ List.mem_cons_self ..)
                refine ⟨_, rfl, true, .inl ⟨_, SqL.of hL, ne.symm⟩, iteT ?_⟩
                refine ⟨_, rfl, .inl ⟨rfl, _, SqL.of hL⟩, l, _, _, rfl, rfl, hL, rev_last a as0, ?_⟩
                refine ⟨a, vs, rfl, .inl ⟨SqL.of (by rw [upd_ne nal]; exact ha), fun p' hp' => ?_⟩⟩
                refine ⟨(by show 1 ≤ sizeLine; decide), fun wl hwl => ?_⟩
                have tups1 : ∀ b xs, H1 b = some (.tup xs) → upd (upd H1 l (.lst (rev (a :: as0)).dropLast)) p' (.tup vs) b = some (.tup xs) := fun b xs q => by
                  have q2 : upd H1 l (.lst (rev (a :: as0)).dropLast) b = some (.tup xs) := by rw [upd_ne (fun x => by rw [x, hL] at q; cases q)]; exact q
                  rw [upd_ne (ne_of_none q2 hp')]; exact q2
                have tups2 : ∀ b xs, H1 b = some (.tup xs) → upd (upd (upd H1 l (.lst (rev (a :: as0)).dropLast)) p' (.tup vs)) wl (.lst [.ref p']) b = some (.tup xs) := fun b xs q => by
                  rw [upd_ne (ne_of_none (tups1 b xs q) hwl)]; exact tups1 b xs q
                have old : ∀ b ys, H1 b = some (.lst ys) → b ≠ l → upd (upd (upd H1 l (.lst (rev (a :: as0)).dropLast)) p' (.tup vs)) wl (.lst [.ref p']) b = some (.lst ys) := fun b ys q nb => by
                  have q2 : upd H1 l (.lst (rev (a :: as0)).dropLast) b = some (.lst ys) := by rw [upd_ne nb]; exact q
                  have q3 : upd (upd H1 l (.lst (rev (a :: as0)).dropLast)) p' (.tup vs) b = some (.lst ys) := by rw [upd_ne (ne_of_none q2 hp')]; exact q2
                  rw [upd_ne (ne_of_none q3 hwl)]; exact q3
                have npl : l ≠ p' := ne_of_none upd_same hp'
                have hl2 : upd (upd H1 l (.lst (rev (a :: as0)).dropLast)) p' (.tup vs) l = some (.lst (rev as0)) := by rw [upd_ne npl, rev_drop]; exact upd_same
                have npw : p' ≠ wl := ne_of_none upd_same hwl
                refine ⟨as0, st0, .ref wl, rfl, ((kp.own hl).trans (Kp.new hp')).trans (Kp.new hwl), by rw [upd_ne (ne_of_none hl2 hwl)]; exact hl2, hS1.mono (Nat.le_refl _) (fun b hb => ?_) tups2, fun b hb => hF b (List.mem_cons_of_mem _ hb), fun x => hla (List.mem_cons_of_mem _ x), fun x => hea (List.mem_cons_of_mem _ x), ?_, old e _ hE nel, .inr ⟨wl, .ref p', .tuple ds, rfl, upd_same, ?_, ?_, (ne_of_none hl2 hwl).symm, fun x => ?_⟩⟩
                · obtain ⟨ys, q⟩ := hS1.there b hb
                  rw [q]
                  exact old b ys q fun x => hla (x ▸ List.mem_cons_of_mem _ hb)
                · simp only [List.length_cons] at h12; omega
                · exact .tup (by rw [upd_ne npw]; exact upd_same) (hda.mono tups2)
                · unfold stepP
                  rw [if_neg c1, decide_eq_true c2]
                · obtain ⟨ys, q⟩ := hS1.there wl x
                  have q2 : upd H1 l (.lst (rev (a :: as0)).dropLast) wl = some (.lst ys) := by rw [upd_ne (show wl ≠ l from fun y => hla (y ▸ List.mem_cons_of_mem _ x))]; exact q
                  have q3 : upd (upd H1 l (.lst (rev (a :: as0)).dropLast)) p' (.tup vs) wl = some (.lst ys) := by rw [upd_ne (ne_of_none q2 hp')]; exact q2
                  rw [hwl] at q3
                  cases q3
            · rw [decide_eq_false (show ¬ p = Str.ofString ")" from c2)]
              refine iteF (iteF (other (fun d q => ?_) fun q => ?_))
              · unfold stepP
                rw [if_neg c1, decide_eq_false c2]
                simp only [q]
              · unfold stepP
                rw [if_neg c1, decide_eq_false c2]
                simp only [q]
          · rintro σ' H2 ⟨as', st', wv, rfl, k2, hL2, hS2, hF2, hla2, hea2, h12', hE2, hw⟩
            rcases hw with ⟨rfl, hbad⟩ | ⟨wl, v, d, rfl, hwl, hv, hput, nwl, nwa⟩
            · refine ⟨_, rfl, rfl, _, rfl, iteT ?_⟩
              obtain ⟨c1', c2'⟩ := col H2 k2
              refine ⟨_, rfl, _, rfl, ca, _, _, _, rfl, rfl, c1', c2', (by show 2 ≤ sizeLine; decide), fun a ha => text H2 k2 ?_ a ha⟩
              rw [← hdue, due, hbad]
            · refine ⟨_, rfl, rfl, _, rfl, iteF ?_⟩
              cases hS2 with
              | nil =>
                refine ⟨_, rfl, false, .inl ⟨_, SqL.of hL2, rfl⟩, iteF ⟨_, rfl, _, _, _, [], [], wl, rfl, k2, hL2, .nil, hF2, hla2, fun h => (nomatch h), nwl, Nat.zero_le _, .inr ⟨v, d, hwl, hv, ?_⟩⟩⟩
                rw [← hdue, due, hput]
                rfl
              | @cons a as0 vs ds st0 ha hda hna hvs hS3 =>
                have ne : (!(rev (a :: as0)).isEmpty) = true := by rw [rev_cons]; simp
                have nal : a ≠ l := fun x => hla2 (x ▸ List.mem_cons_self ..)
                have nae : a ≠ e := fun x => hea2 (x ▸ List.mem_cons_self ..)
                have naw : wl ≠ a := fun x => nwa (x ▸ List.mem_cons_self ..)
                have tups1 : ∀ b xs, H2 b = some (.tup xs) → upd H2 a (.lst (vs ++ [v])) b = some (.tup xs) := fun b xs q => by
                  rw [upd_ne (fun x => by rw [x, ha] at q; cases q)]; exact q
                refine ⟨_, rfl, true, .inl ⟨_, SqL.of hL2, ne.symm⟩, iteT ?_⟩
                refine ⟨_, rfl, _, rfl, l, _, _, _, rfl, rfl, SqL.of hL2, rev_atLast a as0, .inl ⟨rfl, _, SqL.of ha⟩, _, rfl, wl, _, _, _, rfl, rfl, SqL.of hwl, atI_nat (j := 0) rfl, a, vs, v, rfl, rfl, ha, Nat.lt_of_le_of_lt (show vs.length ≤ 1000 by omega) (by decide), ?_⟩
                refine ⟨_, _, _, a :: as0, (ds ++ [d]) :: st0, e, rfl, k2.own (hF2 a (List.mem_cons_self ..)), by rw [upd_ne nal.symm]; exact hL2, ?_, hF2, hla2, hea2, nel, h12', .inl ⟨by rw [upd_ne nae.symm]; exact hE2, ?_⟩⟩
                · refine .cons upd_same (DaAll.snoc (hv.mono tups1) (hda.mono tups1)) hna (by simp; omega) (hS3.mono (Nat.le_succ _) (fun b hb => upd_ne fun x => hna (x ▸ hb)) tups1)
                · rw [← hdue, due, hput]
                  rfl
      · have hE : H1 e = some (.lst [v]) := kT.keep _ _ hE0 fun q => nomatch q
        rw [hz] at hdue
        obtain ⟨c1', c2'⟩ := col H1 kp
        refine ⟨_, rfl, true, .inl ⟨_, SqL.of hE, rfl⟩, iteT ⟨_, rfl, _, rfl, ca, _, _, _, rfl, rfl, c1', c2', (by show 2 ≤ sizeLine; decide), fun a ha => text H1 kp hdue.symm a ha⟩⟩
    · rintro σ H' ⟨v5, v6, v7, as, st, e, rfl, kp, hL, hS, hF, hla, hea, nel, h12, hcase⟩
      have hz : (ps.zip cs).drop (ps.map V.str).length = [] := List.drop_of_length_le (by rw [List.length_zip, List.length_map]; omega)
      rw [hz] at hcase
      rcases hcase with ⟨hE, hdue⟩ | ⟨v, d, hE, hv, hdue⟩
      · refine ⟨_, rfl, false, .inl ⟨_, SqL.of hE, rfl⟩, iteF ⟨_, rfl, (by show 2 ≤ sizeLine; decide), fun a ha => k _ a ?_ (kp.trans (Kp.new ha))⟩⟩
        rw [← hdue]
        exact .tup upd_same (.cons (.str _) (.cons (.int _) .nil))
      · refine ⟨_, rfl, true, .inl ⟨_, SqL.of hE, rfl⟩, iteT ⟨_, rfl, e, _, _, _, rfl, rfl, SqL.of hE, atI_nat (j := 0) rfl, (by show 2 ≤ sizeLine; decide), fun a ha => k _ a ?_ (kp.trans (Kp.new ha))⟩⟩
        rw [← hdue]
        exact .tup upd_same (.cons (.str _) (.cons (hv.mono (Kp.new (M := []) ha).tups) .nil))
end
end PV
namespace PV
open PySem PySem.Spec PyProof.Rows L2

/-! ### _law_told -/
theorem exm_fact {K : PySem.W.Frag} {c : Value} {C : Addr} {b : Bool} (xm : PySem.W.subIn K (.ref C) (.type "BaseException") = some true ∧ PySem.W.isClsIn K C = true ∧ PySem.W.typeIn K (.ref C) = some (.type "type"))
    (s : PySem.W.subIn K c (.ref C) = some b) : PySem.W.exmOne K c (.ref C) = some b := by
  obtain ⟨h1, h2, h3⟩ := xm
  have h2' : (PySem.W.clsIn K C).isSome = true := h2
  show (if (PySem.W.subIn K (.ref C) (.type "BaseException") == some true) = true then (if ((PySem.W.clsIn K C).isSome && PySem.W.typeIn K (.ref C) == some (.type "type")) = true then PySem.W.subIn K c (.ref C) else none) else none) = _
  rw [h1, h2', h3, s]
  rfl
def spTold : Sp := fun vs H Q _ => ∃ z : Str, vs = [.str z] ∧ z.length ≤ 80000 ∧ (∀ tk ∈ tokAll z, TkOk tk) ∧ ∀ H' a, Da H' (.ref a) (resD (rdAll (tokAll z))) → Kp [] H H' → Q (.ref a) H'
section
variable {P : Program} {w : World} {K : PySem.W.Frag} {mg : Str → Option Value} {base : Heap} {CB CT CR : Addr}
theorem ok_told (T : Txt K mg CB CT CR) : Has P w K mg base CX0 7 "_law_told" ["text"] spTold := by
  have h_read_plain : Has P w K mg base (L2.CX P w) 6 "read_plain" ["text"] (spPlain CB CT) := ok_plain T
  refine has_of T.d_law_told fun f fd F => F.ok sc_law_told (fun vs H Q E h => ?_) (fun cdv A outer s H vs Q E hr h => ?_)
  · obtain ⟨z, rfl, _⟩ := h
    rfl
  · obtain ⟨z, rfl, hz, hok, k⟩ := h
    refine ⟨_, (pss_one (ps_try_asm rfl rfl takes0 (fun W pn xe_ tk xe => (pss_one (ps_ret (pe_tup (pa_cons pe_str (pa_cons (pe_cx h_read_plain tk (hr.mono (by decide)) rfl (pa_cons (pv 0) pa_nil)) pa_nil))))))
      (HdA.cons (i := 1) sc_law_told.nd rfl rfl ⟨by rfl, by decide, Or.inl T.g_BadText⟩ (fun a oe cls d pn hz hf => (pss_cons (ps_if (pt_cmpR op_ne (pe_xf T.xf_BadText T.n_BadText_line hz hf (pv 1)) pe_int (nomark _))
          (pss_one (ps_ret (pe_tup (pa_cons pe_str (pa_cons (pe_xf T.xf_BadText T.n_BadText_line hz hf (pv 1)) pa_nil)))))
          pss_nil)
        (pss_one (ps_ret (pe_tup (pa_cons pe_str (pa_cons (pe_xf T.xf_BadText T.n_BadText_column hz hf (pv 1)) pa_nil)))))))
      (HdA.cons (i := 1) sc_law_told.nd rfl rfl ⟨by rfl, by decide, Or.inl T.g_TooMany⟩ (fun a oe cls d pn hz hf => (pss_cons (ps_if (pt_cmpR op_ne (pe_xf T.xf_TooMany T.n_TooMany_limit hz hf (pv 1)) pe_int (nomark _))
          (pss_one (ps_ret (pe_tup (pa_cons pe_str (pa_cons (pe_xf T.xf_TooMany T.n_TooMany_limit hz hf (pv 1)) pa_nil)))))
          pss_nil)
        (pss_one (ps_ret (pe_tup (pa_cons pe_str pa_nil))))))
      HdA.nil)))), ?_⟩
    refine ⟨_, rfl, z, rfl, hz, hok, fun d e v H' hd kp => ?_, fun c e H' kp dd hdd => ?_, fun e H' kp dd hdd => ?_⟩
    · refine ⟨(by show 2 ≤ sizeLine; decide), fun a ha => k _ a ?_ (kp.trans (Kp.new ha))⟩
      rw [e]
      exact .tup upd_same (.cons (.str _) (.cons (hd.mono (Kp.new (M := []) ha).tups) .nil))
    · refine ⟨true, exm_fact T.xm_BadText T.s_BadText_BadText, fun _ a ha => ?_, fun q => nomatch q⟩
      refine ⟨_, rfl, rfl, rfl, dd, _, _, rfl, upd_same, rfl, rfl, _, rfl, iteF ?_⟩
      refine ⟨_, rfl, rfl, rfl, dd, _, _, rfl, upd_same, rfl, (by show 2 ≤ sizeLine; decide), fun a ha => k _ a ?_ ((kp.trans (Kp.new hdd)).trans (Kp.new ha))⟩
      rw [e]
      exact .tup upd_same (.cons (.str _) (.cons (.int _) .nil))
    · refine ⟨false, exm_fact T.xm_BadText T.s_TooMany_BadText, (fun q => nomatch q), fun _ => ⟨true, exm_fact T.xm_TooMany T.s_TooMany_TooMany, fun _ a ha => ?_, fun q => nomatch q⟩⟩
      refine ⟨_, rfl, rfl, rfl, dd, _, _, rfl, upd_same, rfl, rfl, _, rfl, iteF ?_⟩
      refine ⟨(by show 1 ≤ sizeLine; decide), fun a ha => k _ a ?_ ((kp.trans (Kp.new hdd)).trans (Kp.new ha))⟩
      rw [e]
      exact .tup upd_same (.cons (.str _) .nil)
end
end PV
namespace PV
open PySem PySem.Spec PyProof.Rows L2

/-! ### _law_value_of -/
theorem numOkB {i : Int} {c : Nat} {w : List Nat} (h1 : Str.ofString (toString i) = S (c :: w)) (h2 : (c :: w).all isD = true) (h3 : (c :: w).length ≤ 9) (h4 : 1 < (c :: w).length → ¬ c = 48) (h5 : intText? (Str.ofString (toString i)) = some i) (h6 : i.natAbs.log2 < 1920) : NumOk i :=
  ⟨⟨c, w, h1, List.all_eq_true.mp h2, h3, h4⟩, h5, h6⟩
theorem nameOkB {s : Str} {c : Nat} {w : List Nat} (h1 : s = S (c :: w)) (h2 : (c :: w).all isL = true) (h3 : (c :: w).length ≤ 8) : NameOk s := ⟨c, w, h1, List.all_eq_true.mp h2, h3⟩
theorem plain_int {n : Nat} {i : Int} (h : NumOk i) : Plain n (.int i) := by cases n <;> (unfold Plain; exact h)
theorem plain_str {n : Nat} {s : Str} (h : NameOk s) : Plain n (.str s) := by cases n <;> (unfold Plain; exact h)
theorem num_0 : NumOk 0 := numOkB (c := 48) (w := []) (by decide +kernel) (by decide +kernel) (by decide) (by decide) (by decide +kernel) (by decide +kernel)
theorem num_1 : NumOk 1 := numOkB (c := 49) (w := []) (by decide +kernel) (by decide +kernel) (by decide) (by decide) (by decide +kernel) (by decide +kernel)
theorem num_2 : NumOk 2 := numOkB (c := 50) (w := []) (by decide +kernel) (by decide +kernel) (by decide) (by decide) (by decide +kernel) (by decide +kernel)
theorem num_3 : NumOk 3 := numOkB (c := 51) (w := []) (by decide +kernel) (by decide +kernel) (by decide) (by decide) (by decide +kernel) (by decide +kernel)
theorem num_4 : NumOk 4 := numOkB (c := 52) (w := []) (by decide +kernel) (by decide +kernel) (by decide) (by decide) (by decide +kernel) (by decide +kernel)
theorem num_5 : NumOk 5 := numOkB (c := 53) (w := []) (by decide +kernel) (by decide +kernel) (by decide) (by decide) (by decide +kernel) (by decide +kernel)
theorem num_6 : NumOk 6 := numOkB (c := 54) (w := []) (by decide +kernel) (by decide +kernel) (by decide) (by decide) (by decide +kernel) (by decide +kernel)
theorem num_7 : NumOk 7 := numOkB (c := 55) (w := []) (by decide +kernel) (by decide +kernel) (by decide) (by decide) (by decide +kernel) (by decide +kernel)
theorem num_9s : NumOk 999999999 := numOkB (c := 57) (w := [57, 57, 57, 57, 57, 57, 57, 57]) (by decide +kernel) (by decide +kernel) (by decide) (by decide) (by decide +kernel) (by decide +kernel)
theorem num_small {i : Nat} (h : i < 8) : NumOk (i : Nat) := by
  match i, h with
  | 0, _ => exact num_0
  | 1, _ => exact num_1
  | 2, _ => exact num_2
  | 3, _ => exact num_3
  | 4, _ => exact num_4
  | 5, _ => exact num_5
  | 6, _ => exact num_6
  | 7, _ => exact num_7
  | n + 8, h => omega
def LV : List V := [.int 0, .int 5, .int 999999999, .str "ab", .str "since", .str "q", .str "abcdefgh"]
theorem name_ab : NameOk "ab" := nameOkB (c := 97) (w := [98]) (by decide +kernel) (by decide +kernel) (by decide)
theorem name_since : NameOk "since" := nameOkB (c := 115) (w := [105, 110, 99, 101]) (by decide +kernel) (by decide +kernel) (by decide)
theorem name_q : NameOk "q" := nameOkB (c := 113) (w := []) (by decide +kernel) (by decide +kernel) (by decide)
theorem name_ah : NameOk "abcdefgh" := nameOkB (c := 97) (w := [98, 99, 100, 101, 102, 103, 104]) (by decide +kernel) (by decide +kernel) (by decide)
theorem len_num {i : Int} {n : Nat} (h : NumOk i) : Plain n (.int i) ∧ (txt (.int i)).length ≤ 10 := by
  refine ⟨plain_int h, ?_⟩
  obtain ⟨c, w, e, _, h9, _⟩ := h.dig
  rw [txt, e, S_len]
  omega
theorem len_name {s : Str} {n : Nat} (h : NameOk s) : Plain n (.str s) ∧ (txt (.str s)).length ≤ 10 := by
  refine ⟨plain_str h, ?_⟩
  obtain ⟨c, w, e, _, h8⟩ := h.ok
  rw [txt, e, S_len]
  omega
theorem at_vals {x : Int} (h0 : 0 ≤ x) (h1 : x < 7) : ∃ v D, atI LV x = some v ∧ (∀ H, Da H v D) ∧ ∀ n, Plain n D ∧ (txt D).length ≤ 10 := by
  obtain ⟨n, rfl⟩ : ∃ n : Nat, x = n := ⟨x.toNat, by omega⟩
  match n, (show n < 7 by omega) with
  | 0, _ => exact ⟨.int 0, .int 0, atI_nat rfl, fun H => .int 0, fun n => len_num num_0⟩
  | 1, _ => exact ⟨.int 5, .int 5, atI_nat rfl, fun H => .int 5, fun n => len_num num_5⟩
  | 2, _ => exact ⟨.int 999999999, .int 999999999, atI_nat rfl, fun H => .int 999999999, fun n => len_num num_9s⟩
  | 3, _ => exact ⟨.str "ab", .str "ab", atI_nat rfl, fun H => .str "ab", fun n => len_name name_ab⟩
  | 4, _ => exact ⟨.str "since", .str "since", atI_nat rfl, fun H => .str "since", fun n => len_name name_since⟩
  | 5, _ => exact ⟨.str "q", .str "q", atI_nat rfl, fun H => .str "q", fun n => len_name name_q⟩
  | 6, _ => exact ⟨.str "abcdefgh", .str "abcdefgh", atI_nat rfl, fun H => .str "abcdefgh", fun n => len_name name_ah⟩
  | n + 7, h => omega
def tsum (ds : List PyData) : Nat := ((txtAll ds).map (fun p => p.length + 1)).sum
theorem tsum_cons (d : PyData) (ds : List PyData) : tsum (d :: ds) = (txt d).length + 1 + tsum ds := by
  unfold tsum
  rw [txtAll, List.map_cons, List.sum_cons]
theorem tsum_snoc (d : PyData) : ∀ ds : List PyData, tsum (ds ++ [d]) = tsum ds + ((txt d).length + 1)
  | [] => by rw [List.nil_append, tsum_cons]; show _ + 0 = 0 + _; omega
  | e :: ds => by rw [List.cons_append, tsum_cons, tsum_cons, tsum_snoc d ds]; omega
theorem txt_le (ds : List PyData) : (txt (.tuple ds)).length ≤ tsum ds + 2 := by
  rw [TL.len_tl, txt_tuple]
  have := joinL_le ((txtAll ds).map TL.tl)
  rw [List.map_map] at this
  have e : ((txtAll ds).map ((fun p => p.length + 1) ∘ TL.tl)) = (txtAll ds).map (fun p => p.length + 1) := List.map_congr_left fun p _ => by show (TL.tl p).length + 1 = p.length + 1; rw [TL.len_tl]
  rw [e] at this
  unfold tsum
  simp only [List.length_cons, List.length_append, List.length_nil]
  omega
theorem plainAll_snoc {n : Nat} {d : PyData} (hd : Plain n d) : ∀ {ds : List PyData}, PlainAll n ds → PlainAll n (ds ++ [d])
  | [], _ => by rw [List.nil_append]; unfold PlainAll; exact ⟨hd, by unfold PlainAll; exact True.intro⟩
  | e :: ds, h => by
    unfold PlainAll at h
    rw [List.cons_append]
    unfold PlainAll
    exact ⟨h.1, plainAll_snoc hd h.2⟩
theorem plain_tup {n : Nat} {ds : List PyData} (h : PlainAll n ds) : Plain (n + 1) (.tuple ds) := by unfold Plain; exact h
theorem plainAll_one {n : Nat} {d : PyData} (h : Plain n d) : PlainAll n [d] := by unfold PlainAll; exact ⟨h, by unfold PlainAll; exact True.intro⟩
theorem plainAll_two {n : Nat} {d e : PyData} (h : Plain n d) (h2 : Plain n e) : PlainAll n [d, e] := by unfold PlainAll; exact ⟨h, plainAll_one h2⟩
def Lim : Nat → Nat
  | 0 => 10
  | n + 1 => 4 * Lim n
theorem Lim_ge (n : Nat) : 10 ≤ Lim n := by
  induction n with
  | zero => exact Nat.le_refl _
  | succ n ih => show 10 ≤ 4 * Lim n; omega
theorem DrAt.put {H : Hp} {d g D : Addr} {o : HO} (h : DrAt H d g) (h1 : ¬ D = d) (h2 : ¬ D = g) : DrAt (upd H D o) d g := by
  obtain ⟨n, s, c, ns, e1, e2, e3⟩ := h
  exact ⟨n, s, c, ns, by rw [upd_ne fun q => h1 q.symm]; exact e1, by rw [upd_ne fun q => h2 q.symm]; exact e2, e3⟩
theorem DrAt.nd {H : Hp} {d g D : Addr} (h : DrAt H d g) (hD : H D = none) : ¬ D = d ∧ ¬ D = g := by
  obtain ⟨n, s, c, ns, e1, e2, e3⟩ := h
  exact ⟨fun q => (by rw [q, e1] at hD; cases hD), fun q => (by rw [q, e2] at hD; cases hD)⟩
theorem nmem2 {d g D : Addr} (h1 : ¬ D = d) (h2 : ¬ D = g) : ¬ D ∈ [d, g] := fun q => by
  rcases List.mem_cons.mp q with q | q
  · exact h1 q
  · exact h2 (List.mem_singleton.mp q)
def spVO (n : Nat) : Sp := fun vs H Q _ => ∃ d g : Addr, vs = [.ref d, .int (n : Nat)] ∧ DrAt H d g ∧
  ∀ v D H', Da H' v D → Plain n D → (txt D).length ≤ Lim n → DrAt H' d g → Kp [d, g] H H' → Q v H'
def spVW : Nat → Sp
  | 0 => fun _ _ _ _ => False
  | n + 1 => spVO n
section
variable {P : Program} {w : World} {K : PySem.W.Frag} {mg : Str → Option Value} {base : Heap} {CB CT CR : Addr}
theorem ok_value_of (T : Txt K mg CB CT CR) : ∀ n : Nat, Has P w K mg base CX0 (n + 1) "_law_value_of" ["d", "depth"] (spVW n)
  | 0 => has_false T.d_law_value_of
  | n + 1 => by
    have h__law_value_of : Has P w K mg base CX0 (n + 1) "_law_value_of" ["d", "depth"] (spVW n) := ok_value_of T n
    have h__law_draw : Has P w K mg base CX0 (n + 1) "_law_draw" ["d", "many"] spDraw := (ok_draw T).mono (by omega)
    refine has_of T.d_law_value_of fun f fd F => F.ok sc_law_value_of (fun vs H Q E h => ?_) (fun cdv A outer s H vs Q E hr h => ?_)
    · obtain ⟨d, g, rfl, _⟩ := h
      rfl
    · obtain ⟨d, g, rfl, hD, k⟩ := h
      refine ⟨_, (pss_cons (ps_set (i := 2) sc_law_value_of.nd rfl (Or.inl rfl) (pe_c0 h__law_draw hr rfl (pa_cons (pv 0) (pa_cons pe_int pa_nil))))
    (pss_cons (ps_if (PW.pt (pw_or (pt_cmpR op_eq (pv 1) pe_int (nomark _)) (pw_or1 (pt_cmpR op_eq (pv 2) pe_int (nomark _)))))
      (pss_one (ps_ret (pe_ix ix_tup (pe_tup (pa_cons pe_int (pa_cons pe_int (pa_cons pe_int (pa_cons pe_str (pa_cons pe_str (pa_cons pe_str (pa_cons pe_str pa_nil)))))))) (pe_c0 h__law_draw hr rfl (pa_cons (pv 0) (pa_cons pe_int pa_nil))) (fun _ _ => rfl))))
      pss_nil)
    (pss_one (ps_ret (pe_callTy call_tuple_of (by rfl) T.b_tuple (by decide +kernel) (pa_cons (pe_lc (own := [("k", 3)]) (g := (gName 3)) rfl sc_law_value_of.nd (pi_range1 (by rfl) T.b_range (pa_cons (pe_c0 h__law_draw hr rfl (pa_cons (pv 0) (pa_cons pe_int pa_nil))) pa_nil)) (blkOk_by (own := [("k", 3)]) (N := n_law_value_of) (sc := defScope s_law_value_of) (by decide +kernel)) (fun _ _ _ _ _ => pg_name (i := 3) sc_law_value_of.nd rfl (Or.inl rfl)) (fun _ _ _ _ _ => pts_nil) (fun _ _ _ _ _ => (pe_c0 h__law_value_of hr rfl (pa_cons (pv 0) (pa_cons (pe_op op_sub (pv 1) pe_int) pa_nil))))) pa_nil)))))), ?_⟩
      refine ⟨_, rfl, d, g, 4, rfl, hD, by decide, by decide, fun x H1 _ _ D1 k1 => ?_⟩
      have leaf : ∀ p, H1 p = none → spDraw [.ref d, .int 7] (upd H1 p (.tup LV)) (fun y H2 => rIxT K (.ref p) y H2 fun v H3 => Q v H3) E0 := by
        intro p hp
        have kn : Kp [] H1 (upd H1 p (.tup LV)) := Kp.new hp
        refine ⟨d, g, 7, rfl, D1.keep kn, by decide, by decide, fun y H2 y0 y1 D2 k2 => ?_⟩
        obtain ⟨v, D, ha, hd, hl⟩ := at_vals y0 y1
        have := Lim_ge n
        exact ⟨p, _, y, _, rfl, rfl, SqT.of (k2.tups _ _ upd_same), ha, k v D H2 (hd H2) (hl _).1 (Nat.le_trans (hl 0).2 this) D2 ((k1.trans kn.none).trans k2)⟩
      refine ⟨_, rfl, rfl, _, rfl, ?_⟩
      refine ite2 (fun _ => ?_) (fun c1 => ?_)
      · exact iteT ⟨(by show 7 ≤ sizeLine; decide), fun p hp => ⟨_, rfl, leaf p hp⟩⟩
      have c2 : ¬ n = 0 := fun q => c1 (decide_eq_true (by rw [q]; rfl))
      obtain ⟨n, rfl⟩ : ∃ j, n = j + 1 := ⟨n - 1, by omega⟩
      refine ⟨_, rfl, rfl, _, rfl, ite2 (fun _ => ?_) (fun _ => ?_)⟩
      · exact ⟨(by show 7 ≤ sizeLine; decide), fun p hp => ⟨_, rfl, leaf p hp⟩⟩
      -- tuple([.. for k in range(draw)])
      refine ⟨_, rfl, d, g, 4, rfl, D1, by decide, by decide, fun y H2 y0 y1 D2 k2 => ⟨y, rfl, by omega, by omega, fun D hD => ?_⟩⟩
      have k12 := k1.trans k2
      obtain ⟨nd1, nd2⟩ := D2.nd hD
      have hD0 : H D = none := k12.fresh hD (nmem2 nd1 nd2)
      refine lc_range (fun i H' => ∃ (vs : List V) (ds : List PyData), ds.length = i ∧ H' D = some (.lst vs) ∧ DaAll H' vs ds ∧ PlainAll n ds ∧ tsum ds ≤ i * (Lim n + 1) ∧ DrAt H' d g ∧ Kp [d, g] H H')
        ⟨[], [], rfl, upd_same, .nil, (by unfold PlainAll; exact True.intro), Nat.zero_le _, D2.put nd1 nd2, k12.own hD0⟩ ?_ ?_
      · rintro i H' hi ⟨vs, ds, hlen, hv, hda, hpl, hsz, DD, kp⟩
        refine ⟨rfl, tyes_of ?_⟩
        refine ⟨_, rfl, _, rfl, _, _, rfl, rfl, d, g, (by show [V.ref d, V.int (((n + 1 : Nat) : Int) - 1)] = _; rw [show (((n + 1 : Nat) : Int) - 1) = (n : Nat) from by omega]), DD, fun v D3 H3 hv3 hp3 hl3 DD3 k3 => ?_⟩
        have hv' := k3.keep D _ hv (nmem2 nd1 nd2)
        have lv := hda.length
        have tups : ∀ b xs, H3 b = some (.tup xs) → L2.upd H3 D (.lst (vs ++ [v])) b = some (.tup xs) := fun b xs q => by
          rw [upd_ne (fun x => by rw [x, hv'] at q; cases q)]; exact q
        refine ⟨vs, hv', Nat.lt_of_le_of_lt (show vs.length ≤ 4 by omega) (by decide), vs ++ [v], ds ++ [D3], by simp; omega, upd_same, ?_, plainAll_snoc hp3 hpl, ?_, DD3.put nd1 nd2, (kp.trans k3).own hD0⟩
        · exact DaAll.snoc (hv3.mono tups) ((hda.mono k3.tups).mono tups)
        · rw [tsum_snoc, Nat.add_mul, Nat.one_mul]
          have : (txt D3).length ≤ Lim n := hl3
          omega
      · rintro H' ⟨vs, ds, hlen, hv, hda, hpl, hsz, DD, kp⟩
        refine ⟨D, vs, rfl, .inl ⟨SqL.of hv, fun l hl => ?_⟩⟩
        have kn : Kp [] H' (upd H' l (.tup vs)) := Kp.new hl
        refine k (.ref l) (.tuple ds) _ (.tup upd_same (hda.mono kn.tups)) (plain_tup hpl) ?_ (DD.keep kn) (kp.trans kn.none)
        have h1 := txt_le ds
        have h2 : tsum ds ≤ 3 * (Lim n + 1) := Nat.le_trans hsz (Nat.mul_le_mul_right _ (by omega))
        have h3 := Lim_ge n
        show _ ≤ 4 * Lim n
        omega
/-! ### _law_deep -/
def spDeep : Sp := fun vs H Q _ => ∃ d g : Addr, vs = [.ref d, .int 8] ∧ DrAt H d g ∧
  ∀ v D H', Da H' v D → Plain 9 D → (txt D).length ≤ 200 → DrAt H' d g → Kp [d, g] H H' → Q v H'
theorem ok_deep (T : Txt K mg CB CT CR) : Has P w K mg base CX0 4 "_law_deep" ["d", "many"] spDeep := by
  have h__law_value_of : Has P w K mg base CX0 3 "_law_value_of" ["d", "depth"] (spVW 2) := ok_value_of T 2
  have h__law_draw : Has P w K mg base CX0 1 "_law_draw" ["d", "many"] spDraw := ok_draw T
  refine has_of T.d_law_deep fun f fd F => F.ok sc_law_deep (fun vs H Q E h => ?_) (fun cdv A outer s H vs Q E hr h => ?_)
  · obtain ⟨d, g, rfl, _⟩ := h
    rfl
  · obtain ⟨d, g, rfl, hD, k⟩ := h
    refine ⟨_, (pss_cons (ps_set (i := 2) sc_law_deep.nd rfl (Or.inl rfl) (pe_c0 h__law_value_of (hr.mono (by decide)) rfl (pa_cons (pv 0) (pa_cons pe_int pa_nil))))
    (pss_cons (ps_for PassesOwn.never rfl (pi_range1 (by rfl) T.b_range (pa_cons (pv 1) pa_nil)) (pg_name (i := 3) sc_law_deep.nd rfl (Or.inl rfl))
      (pss_one (ps_set (i := 2) sc_law_deep.nd rfl (Or.inl rfl) (pe_ifExp (pt_truth (pe_c0 h__law_draw (hr.mono (by decide)) rfl (pa_cons (pv 0) (pa_cons pe_int pa_nil))) (by intro _; rfl)) (pe_tup (pa_cons (pv 2) pa_nil)) (pe_tup (pa_cons (pv 2) (pa_cons (pv 3) pa_nil)))))))
    (pss_one (ps_ret (pv 2))))), ?_⟩
    refine ⟨_, rfl, d, g, rfl, hD, fun v0 D0 H1 hv0 hp0 hl0 D1 k1 => ?_⟩
    refine ⟨_, rfl, 8, rfl, by decide, by decide, ?_⟩
    refine for_range (lo := 0) (n := 8) (fun i σ H' => ∃ (v : V) (D : PyData) (v3 : Option V), σ = [some (.ref d), some (.int 8), some v, v3] ∧ Da H' v D ∧ Plain (i + 1) D ∧ (txt D).length ≤ 40 + 20 * i ∧ DrAt H' d g ∧ Kp [d, g] H H')
      ⟨v0, D0, none, rfl, hv0, hp0, hl0, D1, k1⟩ ?_ ?_
    · rintro i σ H' hi ⟨v, D, v3, rfl, hv, hp, hl, DD, kp⟩
      refine ⟨_, rfl, d, g, 3, rfl, DD, by decide, by decide, fun y H2 y0 y1 D2 k2 => ?_⟩
      have hv2 := hv.mono k2.tups
      obtain ⟨b, hb⟩ : ∃ b, TruV K (.int y) H2 b := ⟨_, rfl⟩
      refine ⟨b, hb, ite2 (fun _ => ?_) (fun _ => ?_)⟩
      · refine ⟨_, rfl, (by show 1 ≤ sizeLine; decide), fun p hp' => ?_⟩
        have kn : Kp [] H2 (upd H2 p (.tup [v])) := Kp.new hp'
        refine ⟨.ref p, .tuple [D], _, rfl, .tup upd_same (.cons (hv2.mono kn.tups) .nil), plain_tup (plainAll_one hp), ?_, D2.keep kn, (kp.trans k2).trans kn.none⟩
        have h1 := txt_le [D]
        have h2 := tsum_cons D []
        have h3 : tsum [] = 0 := rfl
        omega
      · refine ⟨_, rfl, _, rfl, (by show 2 ≤ sizeLine; decide), fun p hp' => ?_⟩
        have hn : NumOk (0 + (i : Nat) : Int) := by rw [Int.zero_add]; exact num_small hi
        have kn : Kp [] H2 (upd H2 p (.tup [v, .int (0 + (i : Nat))])) := Kp.new hp'
        refine ⟨.ref p, .tuple [D, .int (0 + (i : Nat))], _, rfl, .tup upd_same (.cons (hv2.mono kn.tups) (.cons (.int _) .nil)), plain_tup (plainAll_two hp (plain_int hn)), ?_, D2.keep kn, (kp.trans k2).trans kn.none⟩
        have h1 := txt_le [D, .int (0 + (i : Nat))]
        have h2 := tsum_cons D [.int (0 + (i : Nat))]
        have h3 := tsum_cons (.int (0 + (i : Nat))) []
        have h4 : tsum [] = 0 := rfl
        have h5 := (len_num (n := 0) hn).2
        omega
    · rintro σ H' ⟨v, D, v3, rfl, hv, hp, hl, DD, kp⟩
      exact ⟨_, rfl, k v D H' hv hp (by omega) DD kp⟩
end
end PV
namespace PV
open PySem PySem.Spec PyProof.Rows L2

/-! ### what repr can show -/
structure Good (m b : Nat) (d : PyData) : Prop where
  sh : d.showable = true
  nd : d.hasDict = false
  ls : d.leavesShort 13 = true
  dp : d.depth ≤ m
  bk : d.bulk ≤ b
structure GoodAll (m b : Nat) (ds : List PyData) : Prop where
  sh : PyData.showableAll ds = true
  nd : PyData.hasDictAll ds = false
  ls : PyData.leavesShortAll 13 ds = true
  dp : PyData.depthAll ds ≤ m
  bk : PyData.bulkAll ds ≤ b
theorem Good.mono {m m' b b' : Nat} {d : PyData} (h : Good m b d) (hm : m ≤ m') (hb : b ≤ b') : Good m' b' d := ⟨h.sh, h.nd, h.ls, Nat.le_trans h.dp hm, Nat.le_trans h.bk hb⟩
theorem GoodAll.mono {m m' b b' : Nat} {d : List PyData} (h : GoodAll m b d) (hm : m ≤ m') (hb : b ≤ b') : GoodAll m' b' d := ⟨h.sh, h.nd, h.ls, Nat.le_trans h.dp hm, Nat.le_trans h.bk hb⟩
theorem GoodAll.nil (m b : Nat) : GoodAll m b [] := ⟨rfl, rfl, rfl, Nat.zero_le _, Nat.zero_le _⟩
theorem GoodAll.cons {m b b' : Nat} {d : PyData} {ds : List PyData} (h : Good m b d) (hs : GoodAll m b' ds) : GoodAll m (b + 1 + b') (d :: ds) := by
  refine ⟨?_, ?_, ?_, ?_, ?_⟩
  · rw [PyData.showableAll, h.sh, hs.sh]; rfl
  · rw [PyData.hasDictAll, h.nd, hs.nd]; rfl
  · rw [PyData.leavesShortAll, h.ls, hs.ls]; rfl
  · rw [PyData.depthAll]; exact Nat.max_le.mpr ⟨h.dp, hs.dp⟩
  · rw [PyData.bulkAll]; have := h.bk; have := hs.bk; omega
theorem GoodAll.uncons {m b : Nat} {d : PyData} {ds : List PyData} (h : GoodAll m b (d :: ds)) : ∃ b1 b2, b1 + 1 + b2 ≤ b ∧ Good m b1 d ∧ GoodAll m b2 ds := by
  obtain ⟨h1, h2, h3, h4, h5⟩ := h
  rw [PyData.showableAll, Bool.and_eq_true] at h1
  rw [PyData.hasDictAll, Bool.or_eq_false_iff] at h2
  rw [PyData.leavesShortAll, Bool.and_eq_true] at h3
  rw [PyData.depthAll, Nat.max_le] at h4
  rw [PyData.bulkAll] at h5
  exact ⟨_, _, h5, ⟨h1.1, h2.1, h3.1, h4.1, Nat.le_refl _⟩, ⟨h1.2, h2.2, h3.2, h4.2, Nat.le_refl _⟩⟩
theorem GoodAll.snoc {m b' : Nat} {d : PyData} (h : Good m b' d) : ∀ {ds : List PyData} {b : Nat}, GoodAll m b ds → GoodAll m (b + (b' + 1)) (ds ++ [d])
  | [], b, _ => by rw [List.nil_append]; exact (GoodAll.cons h (GoodAll.nil m 0)).mono (Nat.le_refl _) (by omega)
  | e :: ds, b, hs => by
    obtain ⟨b1, b2, hb, g1, g2⟩ := hs.uncons
    rw [List.cons_append]
    exact (GoodAll.cons g1 (GoodAll.snoc h g2)).mono (Nat.le_refl _) (by omega)
theorem GoodAll.tuple {m b : Nat} {ds : List PyData} (h : GoodAll m b ds) : Good (m + 1) b (.tuple ds) := by
  refine ⟨?_, ?_, ?_, ?_, ?_⟩
  · rw [PyData.showable]; exact h.sh
  · rw [PyData.hasDict]; exact h.nd
  · rw [PyData.leavesShort]; exact h.ls
  · rw [PyData.depth]; exact Nat.succ_le_succ h.dp
  · rw [PyData.bulk]; exact h.bk
theorem log_small {n : Nat} (h : n < 10 ^ 12) : n.log2 < 1920 := by
  by_cases h0 : n = 0
  · subst h0; decide +kernel
  · exact (Nat.log2_lt h0).mpr (Nat.lt_of_lt_of_le h (by decide +kernel))
theorem good_int {m b : Nat} {i : Int} (h : i.natAbs < 10 ^ 12) : Good m b (.int i) := by
  refine ⟨?_, ?_, ?_, ?_, ?_⟩
  · rw [PyData.showable]; exact decide_eq_true (log_small h)
  · rw [PyData.hasDict]
  · rw [PyData.leavesShort]; exact decide_eq_true (PyData.shown_int_le h)
  · rw [PyData.depth]; exact Nat.zero_le _
  · rw [PyData.bulk]; exact Nat.zero_le _
theorem good_str {m b : Nat} {s : Str} (h : ∀ c ∈ s.cps.toList, c < 16 ^ 8) (hb : s.length ≤ b) : Good m b (.str s) := by
  refine ⟨?_, ?_, ?_, ?_, ?_⟩
  · rw [PyData.showable]
  · rw [PyData.hasDict]
  · rw [PyData.leavesShort]; exact List.all_eq_true.mpr fun c hc => decide_eq_true (h c hc)
  · rw [PyData.depth]; exact Nat.zero_le _
  · rw [PyData.bulk]; exact hb
/-- all that repr wants -/
structure RepOk (d : PyData) : Prop where
  sh : d.showable = true
  nd : d.hasDict = false
  dp : d.depth ≤ 64
  sz : d.shown.length ≤ sizeLine
theorem Good.rep {d : PyData} (h : Good 64 1000000 d) : RepOk d :=
  ⟨h.sh, h.nd, h.dp, PyData.shown_fits_bulk (B := 13) (by decide) (by decide) h.ls (Nat.le_trans h.bk (by decide))⟩
theorem rep_val {d : PyData} (h : Good 63 999000 d) : RepOk (.tuple [.str "value", d]) :=
  ((GoodAll.cons (m := 63) (b := 5) (good_str (by decide +kernel) (by decide +kernel)) (GoodAll.cons h (GoodAll.nil 63 0))).tuple.mono (Nat.le_refl _) (by decide)).rep
theorem rep_res {r : Res} (h : ∀ d, r = .val d → Good 63 999000 d) (hb : ∀ c, r = .bad c → c.natAbs < 10 ^ 12) : RepOk (resD r) := by
  cases r with
  | val d => exact rep_val (h d rfl)
  | bad c => exact ((GoodAll.cons (m := 63) (b := 4) (good_str (by decide +kernel) (by decide +kernel)) (GoodAll.cons (b := 0) (good_int (hb c rfl)) (GoodAll.nil 63 0))).tuple.mono (Nat.le_refl _) (by decide)).rep
  | many => exact ((GoodAll.cons (m := 63) (b := 4) (good_str (by decide +kernel) (by decide +kernel)) (GoodAll.nil 63 0)).tuple.mono (Nat.le_refl _) (by decide)).rep

/-! ### what the machine over pieces gives -/
theorem pieces_small : ∀ p ∈ PIECES, ((intText? p).getD 0).natAbs < 10 ^ 12 ∧ ∀ c ∈ p.cps.toList, c < 16 ^ 8 := by decide +kernel
theorem worth_good {p : Str} {d : PyData} {m : Nat} (hp : p ∈ PIECES) (h : worth p = some d) : Good m 10 d := by
  obtain ⟨h1, h2⟩ := pieces_small p hp
  unfold worth at h
  split at h
  · split at h
    · cases h
    · rw [← Option.some.inj h]; exact good_int h1
  · split at h
    · rw [← Option.some.inj h]; exact good_str h2 (pieces_len p hp)
    · cases h
def bulks (st : List (List PyData)) : Nat := (st.map PyData.bulkAll).sum
theorem bulks_cons (ds : List PyData) (st : List (List PyData)) : bulks (ds :: st) = PyData.bulkAll ds + bulks st := by unfold bulks; rw [List.map_cons, List.sum_cons]
structure SG (m b : Nat) (st : List (List PyData)) : Prop where
  all : ∀ ds ∈ st, ∃ b', GoodAll m b' ds
  bk : bulks st ≤ b
theorem SG.nil (m b : Nat) : SG m b [] := ⟨fun _ h => (nomatch h), Nat.zero_le _⟩
theorem SG.uncons {m b : Nat} {ds : List PyData} {st : List (List PyData)} (h : SG m b (ds :: st)) : ∃ b1 b2, b1 + b2 ≤ b ∧ GoodAll m b1 ds ∧ SG m b2 st := by
  obtain ⟨b', g⟩ := h.all ds (List.mem_cons_self ..)
  have := h.bk
  rw [bulks_cons] at this
  exact ⟨_, _, this, ⟨g.sh, g.nd, g.ls, g.dp, Nat.le_refl _⟩, ⟨fun x hx => h.all x (List.mem_cons_of_mem _ hx), Nat.le_refl _⟩⟩
theorem SG.cons {m b1 b2 : Nat} {ds : List PyData} {st : List (List PyData)} (g : GoodAll m b1 ds) (h : SG m b2 st) : SG m (b1 + b2) (ds :: st) := by
  refine ⟨fun x hx => ?_, by rw [bulks_cons]; have := g.bk; have := h.bk; omega⟩
  rcases List.mem_cons.mp hx with q | q
  · exact ⟨b1, q ▸ g⟩
  · exact h.all x q
theorem SG.mono {m m' b b' : Nat} {st : List (List PyData)} (h : SG m b st) (hm : m ≤ m') (hb : b ≤ b') : SG m' b' st :=
  ⟨fun x hx => by obtain ⟨c, g⟩ := h.all x hx; exact ⟨c, g.mono hm (Nat.le_refl _)⟩, Nat.le_trans h.bk hb⟩
theorem put_good {m b b2 : Nat} {d : PyData} {st : List (List PyData)} (g : Good m b d) (h : SG m b2 st) :
    (∀ d', putN d st = .done d' → Good m b d') ∧ ∀ st', putN d st = .more st' → SG m (b + b2 + 1) st' := by
  cases st with
  | nil =>
    refine ⟨fun d' e => ?_, fun st' e => ?_⟩
    · have : d = d' := Nx.done.inj e
      exact this ▸ g
    · cases e
  | cons top r =>
    refine ⟨fun d' e => ?_, fun st' e => ?_⟩
    · cases e
    · have : (top ++ [d]) :: r = st' := Nx.more.inj e
      obtain ⟨b1, b3, hb, g1, g2⟩ := h.uncons
      rw [← this]
      exact (SG.cons (GoodAll.snoc g g1) g2).mono (Nat.le_refl _) (by omega)
theorem step_good {m b : Nat} {p : Str} {st : List (List PyData)} (hp : p ∈ PIECES) (h : SG m b st) :
    (∀ d', stepP p st = .done d' → Good (m + 1) (b + 12) d') ∧ ∀ st', stepP p st = .more st' → SG (m + 1) (b + 12) st' := by
  have one : (∀ d', (match worth p with | none => Nx.bad | some d => putN d st) = .done d' → Good (m + 1) (b + 12) d') ∧ ∀ st', (match worth p with | none => Nx.bad | some d => putN d st) = .more st' → SG (m + 1) (b + 12) st' := by
    cases e : worth p with
    | none => exact ⟨fun d' q => (by cases q), fun st' q => (by cases q)⟩
    | some d =>
      obtain ⟨a1, a2⟩ := put_good (worth_good (m := m) hp e) h
      exact ⟨fun d' q => (a1 d' q).mono (Nat.le_succ _) (by omega), fun st' q => (a2 st' q).mono (Nat.le_succ _) (by omega)⟩
  unfold stepP
  by_cases c1 : p = sOpen
  · rw [if_pos c1]
    by_cases c2 : 12 ≤ st.length
    · rw [if_pos c2]; exact ⟨fun d' q => (by cases q), fun st' q => (by cases q)⟩
    · rw [if_neg c2]
      refine ⟨fun d' q => (by cases q), fun st' q => ?_⟩
      have : [] :: st = st' := Nx.more.inj q
      rw [← this]
      exact (SG.cons (GoodAll.nil m 0) h).mono (Nat.le_succ _) (by omega)
  · rw [if_neg c1]
    cases c2 : decide (p = sShut) with
    | false => cases st <;> exact one
    | true =>
      cases st with
      | nil => exact one
      | cons top r =>
        obtain ⟨b1, b2, hb, g1, g2⟩ := h.uncons
        obtain ⟨a1, a2⟩ := put_good g1.tuple (g2.mono (Nat.le_succ _) (Nat.le_refl _))
        exact ⟨fun d' q => (a1 d' q).mono (Nat.le_refl _) (by omega), fun st' q => (a2 st' q).mono (Nat.le_refl _) (by omega)⟩
theorem due_good {bh : Int} : ∀ {ps : List (Str × Int)} {st : List (List PyData)} {m b : Nat} {d : PyData}, (∀ x ∈ ps, x.1 ∈ PIECES) → SG m b st → due bh ps st = .val d → Good (m + ps.length) (b + 12 * ps.length) d
  | [], st, m, b, d, _, _, e => by unfold due at e; cases e
  | (p, c) :: r, st, m, b, d, hp, h, e => by
    obtain ⟨a1, a2⟩ := step_good (hp _ (List.mem_cons_self ..)) h
    unfold due at e
    rw [List.length_cons]
    cases s : stepP p st with
    | more st' =>
      rw [s] at e
      have e' : due bh r st' = .val d := e
      have := due_good (fun x hx => hp x (List.mem_cons_of_mem _ hx)) (a2 st' s) e'
      exact this.mono (by omega) (by omega)
    | done d' =>
      rw [s] at e
      cases r with
      | nil =>
        have e' : d' = d := Res.val.inj e
        subst e'
        exact (a1 d' s).mono (by omega) (by omega)
      | cons q r => cases e
    | bad => rw [s] at e; cases e
    | many => rw [s] at e; cases e
theorem due_bad {bh : Int} : ∀ {ps : List (Str × Int)} {st : List (List PyData)} {c : Int}, due bh ps st = .bad c → c = bh ∨ ∃ x ∈ ps, c = x.2
  | [], st, c, e => by unfold due at e; cases e; exact .inl rfl
  | (p, c1) :: r, st, c, e => by
    unfold due at e
    cases s : stepP p st with
    | more st' =>
      rw [s] at e
      have e' : due bh r st' = .bad c := e
      rcases due_bad e' with q | ⟨x, hx, q⟩
      · exact .inl q
      · exact .inr ⟨x, List.mem_cons_of_mem _ hx, q⟩
    | done d' =>
      rw [s] at e
      cases r with
      | nil => cases e
      | cons q r =>
        have e' : Res.bad q.2 = .bad c := e
        cases e'
        exact .inr ⟨q, List.mem_cons_of_mem _ (List.mem_cons_self ..), rfl⟩
    | bad =>
      rw [s] at e
      have e' : Res.bad c1 = .bad c := e
      cases e'
      exact .inr ⟨(p, c1), List.mem_cons_self .., rfl⟩
    | many => rw [s] at e; cases e
theorem due_rep {bh : Int} {ps : List (Str × Int)} (hp : ∀ x ∈ ps, x.1 ∈ PIECES) (hl : ps.length ≤ 60) (hb : bh.natAbs < 10 ^ 12) (hc : ∀ x ∈ ps, x.2.natAbs < 10 ^ 12) : RepOk (resD (due bh ps [])) := by
  refine rep_res (fun d e => (due_good hp (SG.nil 0 0) e).mono (by omega) (by omega)) fun c e => ?_
  rcases due_bad e with q | ⟨x, hx, q⟩
  · exact q ▸ hb
  · exact q ▸ hc x hx

/-! ### plain values -/
theorem num_natAbs {i : Int} (h : NumOk i) : i.natAbs < 10 ^ 12 := by
  obtain ⟨c, w, e, hd, h9, _⟩ := h.dig
  have hl : (Str.ofString (toString i)).length ≤ 9 := by rw [e, S_len]; exact h9
  rw [PySem.ofString_length] at hl
  have key : (Nat.repr i.natAbs).length ≤ 9 := by
    cases i with
    | ofNat m => exact hl
    | negSucc m =>
      have e2 : toString (Int.negSucc m) = "-" ++ Nat.repr (m + 1) := rfl
      rw [e2, String.length_append] at hl
      show (Nat.repr (m + 1)).length ≤ 9
      omega
  exact Nat.lt_of_lt_of_le ((Nat.length_repr_le_iff (by decide)).mp key) (by decide)
theorem name_cps {s : Str} (h : NameOk s) : ∀ c ∈ s.cps.toList, c < 16 ^ 8 := by
  obtain ⟨c, w, e, hw, _⟩ := h.ok
  rw [e]
  intro x hx
  have := (isL_iff x).mp (hw x hx)
  exact Nat.lt_of_le_of_lt this.2 (by decide)
theorem plain_good : ∀ n : Nat, ∀ d, Plain n d → Good n (txt d).length d := by
  have num : ∀ n i, NumOk i → Good n (txt (.int i)).length (.int i) := fun n i h => good_int (num_natAbs h)
  have nam : ∀ n s, NameOk s → Good n (txt (.str s)).length (.str s) := fun n s h => good_str (name_cps h) (by rw [txt]; exact Nat.le_refl _)
  have all : ∀ n, (∀ d, Plain n d → Good n (txt d).length d) → ∀ ds, PlainAll n ds → GoodAll n (tsum ds) ds := by
    intro n ih ds
    induction ds with
    | nil => exact fun _ => GoodAll.nil _ _
    | cons d ds ih2 =>
      intro h
      unfold PlainAll at h
      rw [tsum_cons]
      exact GoodAll.cons (ih d h.1) (ih2 h.2)
  intro n
  induction n with
  | zero =>
    intro d h
    cases d with
    | int i => exact num 0 i (by unfold Plain at h; exact h)
    | str s => exact nam 0 s (by unfold Plain at h; exact h)
    | _ => unfold Plain at h; exact h.elim
  | succ n ih =>
    intro d h
    cases d with
    | int i => exact num _ i (by unfold Plain at h; exact h)
    | str s => exact nam _ s (by unfold Plain at h; exact h)
    | tuple ds =>
      have h' : PlainAll n ds := by unfold Plain at h; exact h
      have ts := txt_sum ds
      refine (all n ih ds h').tuple.mono (Nat.le_refl _) ?_
      unfold tsum
      omega
    | _ => unfold Plain at h; exact h.elim
theorem plain_rep {n : Nat} {d : PyData} (h : Plain n d) (hn : n ≤ 12) (hl : (txt d).length ≤ 1000) : RepOk (.tuple [.str "value", d]) :=
  rep_val ((plain_good n d h).mono (by omega) (by omega))
end PV
namespace PV
open PySem PySem.Spec PyProof.Rows L2

/-! ### every token of a text can be read -/
theorem run_take {al : Nat → Bool} (l : List Nat) : ∀ x ∈ l.take (run al l), al x = true := by
  have e : l.take (run al l) = l.takeWhile al := (List.prefix_iff_eq_take.mp (List.takeWhile_prefix al)).symm
  rw [e]
  intro x hx
  induction l with
  | nil => cases hx
  | cons c l ih =>
    rw [List.takeWhile_cons] at hx
    split at hx
    · rename_i hc
      rcases List.mem_cons.mp hx with q | q
      · rw [q]; exact hc
      · exact ih (List.prefix_iff_eq_take.mp (List.takeWhile_prefix al)).symm q
    · cases hx
theorem tok_good : ∀ (n : Nat) (l : List Nat) (p : Nat), l.length ≤ n → ∀ t ∈ tok l p, t.text.length ≤ l.length ∧ (t.kind = kNum → (∀ c ∈ t.text.cps.toList, isD c = true) ∧ t.text.cps.toList ≠ []) := by
  intro n
  induction n with
  | zero =>
    intro l p h t ht
    have e : l = [] := List.length_eq_zero_iff.mp (Nat.le_zero.mp h)
    subst e
    rw [tok_nil] at ht
    cases ht
  | succ n ih =>
    intro l p h t ht
    cases l with
    | nil => rw [tok_nil] at ht; cases ht
    | cons c cs =>
      have hcs : cs.length ≤ n := by simpa using h
      have hd : ∀ k : Nat, (cs.drop k).length ≤ n := fun k => by rw [List.length_drop]; omega
      have tail : ∀ (k q : Nat), t ∈ tok (cs.drop k) q → t.text.length ≤ (c :: cs).length ∧ (t.kind = kNum → (∀ c ∈ t.text.cps.toList, isD c = true) ∧ t.text.cps.toList ≠ []) := fun k q hq => by
        obtain ⟨h1, h2⟩ := ih _ q (hd k) t hq
        rw [List.length_drop] at h1
        exact ⟨by rw [List.length_cons]; omega, h2⟩
      have tlen : ∀ k, ((c :: cs).take k).length ≤ (c :: cs).length := fun k => by rw [List.length_take]; exact Nat.min_le_right _ _
      rw [tok] at ht
      split at ht
      · exact tail 0 _ (by rw [List.drop_zero]; exact ht)
      · split at ht
        · rcases List.mem_cons.mp ht with q | q
          · rw [q]
            exact ⟨by rw [S_len]; exact tlen _, fun e => absurd e kWN⟩
          · exact tail _ _ q
        · split at ht
          · rename_i hcd
            rcases List.mem_cons.mp ht with q | q
            · rw [q]
              refine ⟨by rw [S_len]; exact tlen _, fun _ => ⟨fun x hx => ?_, ?_⟩⟩
              · rw [S_toList, List.take_succ_cons] at hx
                rcases List.mem_cons.mp hx with r | r
                · rw [r]; exact hcd
                · exact run_take cs x r
              · rw [S_toList, List.take_succ_cons]; exact List.cons_ne_nil _ _
            · exact tail _ _ q
          · split at ht
            · rcases List.mem_cons.mp ht with q | q
              · rw [q]
                exact ⟨by rw [S_len, List.length_cons]; exact Nat.succ_le_succ (Nat.zero_le _), fun e => absurd e kSN⟩
              · exact tail 0 _ (by rw [List.drop_zero]; exact q)
            · rcases List.mem_cons.mp ht with q | q
              · rw [q]
                exact ⟨by rw [S_len, List.length_cons]; exact Nat.succ_le_succ (Nat.zero_le _), fun e => absurd e kON⟩
              · exact tail 0 _ (by rw [List.drop_zero]; exact q)
theorem tokAll_ok {z : Str} (hz : z.length ≤ 100000) : ∀ t ∈ tokAll z, TkOk t := by
  intro t ht
  unfold tokAll at ht
  rcases List.mem_append.mp ht with q | q
  · obtain ⟨h1, h2⟩ := tok_good _ z.cps.toList 0 (Nat.le_refl _) t q
    refine ⟨Nat.le_trans h1 hz, fun hk d hd => ?_⟩
    obtain ⟨g1, g2⟩ := h2 hk
    have h9 : ¬ 9 < t.text.length := fun q => by
      unfold asNum at hd
      rw [if_pos (.inl q)] at hd
      cases hd
    exact ⟨by omega, _, PySem.intText_digits (fun c hc => (isD_iff c).mp (g1 c hc)) g2 (by omega)⟩
  · rw [List.mem_singleton.mp q]
    refine ⟨by show (Str.ofString "").length ≤ 100000; decide +kernel, fun hk => absurd hk kEN⟩
theorem plain_more : ∀ n d, Plain n d → Plain (n + 1) d := by
  intro n
  induction n with
  | zero =>
    intro d h
    cases d with
    | int i => exact plain_int (by unfold Plain at h; exact h)
    | str s => exact plain_str (by unfold Plain at h; exact h)
    | _ => unfold Plain at h; exact h.elim
  | succ n ih =>
    have all : ∀ ds, PlainAll n ds → PlainAll (n + 1) ds := by
      intro ds
      induction ds with
      | nil => intro _; unfold PlainAll; exact True.intro
      | cons d ds ih2 => intro h; unfold PlainAll at h ⊢; exact ⟨ih d h.1, ih2 h.2⟩
    intro d h
    cases d with
    | int i => exact plain_int (by unfold Plain at h; exact h)
    | str s => exact plain_str (by unfold Plain at h; exact h)
    | tuple ds => exact plain_tup (all ds (by unfold Plain at h; exact h))
    | _ => unfold Plain at h; exact h.elim
theorem plain_to {n : Nat} {d : PyData} (h : Plain n d) : ∀ k, Plain (n + k) d
  | 0 => h
  | k + 1 => plain_more _ _ (plain_to h k)

/-! ### the text of the pieces -/
/-- p not in '()+#' -/
def stick (p : Str) : Bool := !(!(Builtin.Str.occurrences (Str.ofString "()+#") p 0 (Str.ofString "()+#").length 1).isEmpty)
theorem stick_no : ∀ p ∈ PIECES, stick p = false → ¬ pk p = kWord ∧ ¬ pk p = kNum := by decide +kernel
/-- how the text so far stands to the next piece -/
def Joint (ps : List Str) (i : Nat) (last : Option Str) : Prop := ∀ q, last = some q → q ∈ PIECES ∧ ∀ p, ps[i]? = some p → stick q = false ∨ stick p = false
theorem joint_clear {ps : List Str} {i : Nat} {last : Option Str} {p : Str} (hp : p ∈ PIECES) (hi : ps[i]? = some p) (h : Joint ps i last) : ∀ q l, last = some q → Clear q (TL.tl p ++ l) := by
  intro q l e
  obtain ⟨hq, hj⟩ := h q e
  rcases hj p hi with g | g
  · obtain ⟨a, b⟩ := stick_no q hq g
    exact clear_any a b _
  · obtain ⟨a, b⟩ := stick_no p hp g
    exact clear_head (pok_piece hp) a b _
end PV
namespace PV
open PySem PySem.Spec PyProof.Rows L2

/-! ### law -/
def spLaw (K : PySem.W.Frag) : Sp := fun vs H Q _ => ∃ (a : Addr) (ns : List Int), vs = [.ref a] ∧ SqL K H a (ns.map V.int) ∧ ns.length ≤ 63 ∧ ∀ H', Q (.bl true) H'
/-- the pieces are made -/
def LawM1 (v0 : V) (d g : Addr) (σ : L2.St) (H : Hp) : Prop :=
  ∃ (pa : Addr) (ps : List Str) (v3 v4 : Option V), σ = [some v0, some (.ref d), some (.ref pa), v3, v4, none, none, none, none, none, none, none, none] ∧ DrAt H d g ∧ H pa = some (.lst (ps.map V.str)) ∧ ¬ pa = d ∧ ¬ pa = g ∧ (∀ p ∈ ps, p ∈ PIECES) ∧ ps.length ≤ 40
/-- the text so far -/
structure TextAt (H : Hp) (d g pa ca : Addr) (ps : List Str) (cs : List Int) (i : Nat) (text : Str) (last : Option Str) : Prop where
  dr : DrAt H d g
  pa : H pa = some (.lst (ps.map V.str))
  ca : H ca = some (.lst (cs.map V.int))
  len : cs.length = i
  built : Built text ((ps.take i).zip cs) last
  joint : Joint ps i last
  tlen : text.length ≤ 1 + 13 * i
  cols : ∀ c ∈ cs, 0 ≤ c ∧ c ≤ 1000
def LawSt (v0 : V) (d g pa ca : Addr) (ps : List Str) (v3 v4 : Option V) (i : Nat) (σ : L2.St) (H : Hp) : Prop :=
  ∃ (text : Str) (cs : List Int) (v7 v8 v9 : Option V) (last : Option Str), σ = [some v0, some (.ref d), some (.ref pa), v3, v4, some (.str text), some (.ref ca), v7, v8, v9, none, none, none] ∧ TextAt H d g pa ca ps cs i text last
/-- the gap behind a piece is chosen -/
def LawGap (v0 : V) (d g pa ca : Addr) (ps : List Str) (cs : List Int) (v3 v4 : Option V) (i : Nat) (text p : Str) (σ : L2.St) (H : Hp) : Prop :=
  ∃ gap : Nat, σ = [some v0, some (.ref d), some (.ref pa), v3, v4, some (.str text), some (.ref ca), some (.int (i : Nat)), some (.str p), some (.int (gap : Nat)), none, none, none] ∧
    DrAt H d g ∧ H pa = some (.lst (ps.map V.str)) ∧ H ca = some (.lst ((cs ++ [(text.length : Int) + 1]).map V.int)) ∧ gap ≤ 2 ∧ (gap = 0 → ∀ p', ps[i + 1]? = some p' → stick p = false ∨ stick p' = false)
/-- the thing is chosen -/
def LawM3 (σ : L2.St) (H : Hp) : Prop :=
  ∃ (w0 w1 w2 w3 w4 w5 w6 w7 w8 w9 : Option V) (v : V) (D : PyData), σ = [w0, w1, w2, w3, w4, w5, w6, w7, w8, w9, some v, none, none] ∧ Da H v D ∧ Plain 9 D ∧ (txt D).length ≤ 640
theorem zip_snoc {ps : List Str} {cs : List Int} {i : Nat} {p : Str} {c : Int} (hp : ps[i]? = some p) (hc : cs.length = i) : (ps.take (i + 1)).zip (cs ++ [c]) = (ps.take i).zip cs ++ [(p, c)] := by
  obtain ⟨hi, e⟩ := List.getElem?_eq_some_iff.mp hp
  rw [List.take_succ_eq_append_getElem hi, e, List.zip_append (by rw [List.length_take]; omega)]
  rfl
theorem rep_one {n : Nat} {v : V} : (List.replicate n [v]).flatten = List.replicate n v := by
  induction n with
  | zero => rfl
  | succ n ih => rw [List.replicate_succ, List.flatten_cons, ih]; rfl
theorem map_rep {n : Nat} {p : Str} : List.replicate n (V.str p) = (List.replicate n p).map V.str := by rw [List.map_replicate]
theorem mem_rep {n : Nat} {p q : Str} (h : q ∈ List.replicate n p) : q = p := (List.mem_replicate.mp h).2
section
variable {P : Program} {w : World} {K : PySem.W.Frag} {mg : Str → Option Value} {base : Heap} {CB CT CR : Addr}
theorem ok_law (T : Txt K mg CB CT CR) {fa : Addr} {oc kV doc pm cdv ct : Value} {an od : Option Addr} {osl : Array (Option Value)}
    (lk : K.lookup fa = some ⟨oc, od, .func (PySem.W.fnOf "law" "law" (defArgs s_law) (defBody s_law) (defScope s_law) .none kV doc pm an cdv ct), osl⟩) (hcd : PySem.W.codeIn K cdv "law" = true) :
    LawAt P w K mg base CX0 fa (PySem.W.fnOf "law" "law" (defArgs s_law) (defBody s_law) (defScope s_law) .none kV doc pm an cdv ct) "script" (spLaw K) := by
  have h__law_begin : Has P w K mg base CX0 1 "_law_begin" ["script"] (spBegin K) := ok_begin T
  have h__law_draw : Has P w K mg base CX0 1 "_law_draw" ["d", "many"] spDraw := ok_draw T
  have h__law_piece : Has P w K mg base CX0 2 "_law_piece" ["d"] spPiece := ok_piece T
  have h__law_due : Has P w K mg base CX0 2 "_law_due" ["pieces", "columns", "behind"] spDue := ok_due T
  have h__law_told : Has P w K mg base CX0 7 "_law_told" ["text"] spTold := ok_told T
  have h__law_value_of : Has P w K mg base CX0 5 "_law_value_of" ["d", "depth"] (spVW 4) := ok_value_of T 4
  have h__law_deep : Has P w K mg base CX0 4 "_law_deep" ["d", "many"] spDeep := ok_deep T
  have h_write_plain : Has P w K mg base CX0 11 "write_plain" ["plain"] (spW 10) := ok_write_plain T 10
  have h__law_plain_text : Has P w K mg base CX0 11 "_law_plain_text" ["thing"] (spW 10) := ok_law_plain_text T 10
  refine law_at (k := 12) lk hcd sc_law ⟨rfl, by decide, by decide⟩ fun s H v Q E hr h => ?_
  obtain ⟨a, ns, e, hS, hlen, k⟩ := h
  obtain rfl : v = .ref a := List.head_eq_of_cons_eq e
  have hgd : (callerA.deeper (envOfC "law" (defScope s_law) s.heap.objs.size fa cdv)).guards = some [] := rfl
  have hun : (callerA.deeper (envOfC "law" (defScope s_law) s.heap.objs.size fa cdv)).units + 100 < cLine := by have := hr.un; omega
  refine ⟨_, PSs.nox (pss_cons (ps_set (i := 1) sc_law.nd rfl (Or.inr rfl) (pe_c0 h__law_begin (hr.mono (by decide)) rfl (pa_cons (pv 0) pa_nil)))
    (pss_cons (ps_setLc (i := 2) (own := [("k", 3)]) (g := (gName 3)) rfl sc_law.nd rfl rfl (sw_true rfl rfl rfl (by decide +kernel)) (pi_range1 (by rfl) T.b_range (pa_cons (pe_c0 h__law_draw (hr.mono (by decide)) rfl (pa_cons (pv 1) (pa_cons pe_int pa_nil))) pa_nil)) (blkOk_by (own := [("k", 3)]) (N := n_law) (sc := defScope s_law) (by decide +kernel)) (fun _ _ _ _ _ => pg_name (i := 3) sc_law.nd rfl (Or.inl rfl)) (fun _ _ _ _ _ => pts_nil) (fun _ _ _ _ _ => (pe_c0 h__law_piece (hr.mono (by decide)) rfl (pa_cons (pv 1) pa_nil))))
    (C8.pss_cut (ps_if (pt_cmpR op_eq (pe_c0 h__law_draw (hr.mono (by decide)) rfl (pa_cons (pv 1) (pa_cons pe_int pa_nil))) pe_int (nomark _))
      (pss_cons (ps_set (i := 4) sc_law.nd rfl (Or.inl rfl) (pe_op op_add pe_int (pe_c0 h__law_draw (hr.mono (by decide)) rfl (pa_cons (pv 1) (pa_cons pe_int pa_nil)))))
      (pss_one (ps_set (i := 2) sc_law.nd rfl (Or.inl rfl) (pe_op op_cat (pe_op op_cat (pe_op op_rep (pe_lst (pa_cons pe_str pa_nil)) (pv 4)) (pe_op op_rep (pe_lst (pa_cons pe_str pa_nil)) (pe_c0 h__law_draw (hr.mono (by decide)) rfl (pa_cons (pv 1) (pa_cons pe_int pa_nil))))) (pe_op op_rep (pe_lst (pa_cons pe_str pa_nil)) (pe_op op_add (pv 4) (pe_c0 h__law_draw (hr.mono (by decide)) rfl (pa_cons (pv 1) (pa_cons pe_int pa_nil)))))))))
      pss_nil)
    (pss_cons (ps_set (i := 5) sc_law.nd rfl (Or.inl rfl) (pe_op op_mulS pe_str (pe_c0 h__law_draw (hr.mono (by decide)) rfl (pa_cons (pv 1) (pa_cons pe_int pa_nil)))))
    (pss_cons (ps_set (i := 6) sc_law.nd rfl (Or.inl rfl) (pe_lst pa_nil))
    (pss_cons (ps_for PassesOwn.never rfl (pi_enum (by rfl) T.b_enumerate (pa_cons (pv 2) pa_nil)) (pg_tup (by rfl) (pgs_cons (pg_name (i := 7) sc_law.nd rfl (Or.inl rfl)) (pgs_cons (pg_name (i := 8) sc_law.nd rfl (Or.inl rfl)) pgs_nil)))
      (pss_cons (ps_expr (pe_bm PySem.F.plainAttrs_list PySem.F.slot_list_append PySem.F.type_list_append mt_append (pv 6) (pa_cons (pe_op op_add (pe_callB call_len_str (by rfl) T.b_len (by decide +kernel) (pa_cons (pv 5) pa_nil)) pe_int) pa_nil)))
      (pss_cons (ps_set (i := 9) sc_law.nd rfl (Or.inl rfl) (pe_c0 h__law_draw (hr.mono (by decide)) rfl (pa_cons (pv 1) (pa_cons pe_int pa_nil))))
      (C8.pss_cut (ps_if (PW.pt (pw_and (pt_cmpR op_eq (pv 9) pe_int (nomark _)) (pw_and (pt_cmpR op_lt (pe_op op_add (pv 7) pe_int) (pe_callB call_len_seq (by rfl) T.b_len (by decide +kernel) (pa_cons (pv 2) pa_nil)) (nomark _)) (pw_and (pt_cmpR op_notin_str (pv 8) pe_str rfl) (pw_and1 (pt_cmpR op_notin_str (pe_ix ix_list (pv 2) (pe_op op_add (pv 7) pe_int) (fun _ _ => rfl)) pe_str rfl))))))
        (pss_one (ps_set (i := 9) sc_law.nd rfl (Or.inl rfl) pe_int))
        pss_nil)
      (pss_one (ps_set (i := 5) sc_law.nd rfl (Or.inl rfl) (pe_op op_add_str (pe_op op_add_str (pv 5) (pv 8)) (pe_op op_mulS pe_str (pv 9)))))))))
    (pss_cons (ps_if (pt_cmpR op_ne (pe_callB (call_repr hgd hun) (by rfl) T.b_repr (by decide +kernel) (pa_cons (pe_c0 h__law_told (hr.mono (by decide)) rfl (pa_cons (pv 5) pa_nil)) pa_nil)) (pe_callB (call_repr hgd hun) (by rfl) T.b_repr (by decide +kernel) (pa_cons (pe_c0 h__law_due (hr.mono (by decide)) rfl (pa_cons (pv 2) (pa_cons (pv 6) (pa_cons (pe_op op_add (pe_callB call_len_str (by rfl) T.b_len (by decide +kernel) (pa_cons (pv 5) pa_nil)) pe_int) pa_nil)))) pa_nil)) (nomark _))
      (pss_one (ps_ret pe_bl))
      pss_nil)
    (pss_cons (ps_set (i := 10) sc_law.nd rfl (Or.inl rfl) (pe_c0 h__law_value_of (hr.mono (by decide)) rfl (pa_cons (pv 1) (pa_cons pe_int pa_nil))))
    (C8.pss_cut (ps_if (pt_cmpR op_eq (pe_c0 h__law_draw (hr.mono (by decide)) rfl (pa_cons (pv 1) (pa_cons pe_int pa_nil))) pe_int (nomark _))
      (pss_one (ps_set (i := 10) sc_law.nd rfl (Or.inl rfl) (pe_c0 h__law_deep (hr.mono (by decide)) rfl (pa_cons (pv 1) (pa_cons pe_int pa_nil)))))
      pss_nil)
    (pss_cons (ps_set (i := 11) sc_law.nd rfl (Or.inl rfl) (pe_c0 h_write_plain (hr.mono (by decide)) rfl (pa_cons (pv 10) pa_nil)))
    (pss_cons (ps_set (i := 12) sc_law.nd rfl (Or.inl rfl) (pe_c0 h__law_plain_text (hr.mono (by decide)) rfl (pa_cons (pv 10) pa_nil)))
    (pss_one (ps_ret (pe_and (pe_cmpR op_eq (pv 11) (pv 12) (nomark _)) (pe_one (pe_cmpR op_eq (pe_callB (call_repr hgd hun) (by rfl) T.b_repr (by decide +kernel) (pa_cons (pe_c0 h__law_told (hr.mono (by decide)) rfl (pa_cons (pv 12) pa_nil)) pa_nil)) (pe_callB (call_repr hgd hun) (by rfl) T.b_repr (by decide +kernel) (pa_cons (pe_tup (pa_cons pe_str (pa_cons (pv 10) pa_nil))) pa_nil)) (nomark _))))))))))))))))), ?_⟩
  refine ⟨_, rfl, a, ns, rfl, hS, hlen, fun H1 d g D1 _ _ _ => ?_⟩
  -- the pieces
  refine ⟨_, rfl, d, g, 12, rfl, D1, by decide, by decide, fun m H2 m0 m1 D2 _ => ⟨m, rfl, by omega, by omega, fun L hL => ?_⟩⟩
  obtain ⟨nL1, nL2⟩ := D2.nd hL
  refine lc_range (fun i H' => ∃ ps : List Str, ps.length = i ∧ (∀ p ∈ ps, p ∈ PIECES) ∧ H' L = some (.lst (ps.map V.str)) ∧ DrAt H' d g)
    ⟨[], rfl, fun _ h => (nomatch h), upd_same, D2.put nL1 nL2⟩ ?_ ?_
  · rintro i H' hi ⟨ps, hl, hp, hH, DD⟩
    refine ⟨rfl, tyes_of ?_⟩
    refine ⟨_, rfl, d, g, rfl, DD, fun p H3 hpp D3 k3 => ?_⟩
    have hH3 := k3.keep L _ hH (nmem2 nL1 nL2)
    refine ⟨_, hH3, ?_, ps ++ [p], by simp; omega, fun q hq => ?_, by rw [List.map_append]; exact upd_same, D3.put nL1 nL2⟩
    · rw [List.length_map]; exact Nat.lt_of_le_of_lt (show ps.length ≤ 12 by omega) (by decide)
    · rcases List.mem_append.mp hq with q1 | q1
      · exact hp q q1
      · rw [List.mem_singleton.mp q1]; exact hpp
  rintro H3 ⟨ps0, hl0, hp0, hH0, D3⟩
  refine ⟨LawM1 (.ref a) d g, ?_, ?_⟩
  · refine ⟨_, rfl, d, g, 3, rfl, D3, by decide, by decide, fun x H4 _ _ D4 k4 => ⟨rfl, _, rfl, ite2 (fun _ => ?_) (fun _ => ?_)⟩⟩
    · refine ⟨_, rfl, d, g, 14, rfl, D4, by decide, by decide, fun y H5 y0 y1 D5 _ => ⟨_, _, rfl, rfl, ?_⟩⟩
      -- pieces = ['('] * many + ['5'] * .. + [')'] * (many + ..)
      refine ⟨(by show 1 ≤ sizeLine; decide), fun p1 hp1 => ⟨_, rfl, p1, _, _, rfl, rfl, upd_same, by omega, by omega, ?_, fun q1 hq1 => ?_⟩⟩
      · exact Nat.le_trans (show 1 * (1 + y).toNat ≤ 20 by omega) (by decide)
      have e1 := D5.nd hp1
      have D6 := D5.put (o := .lst [V.str "("]) e1.1 e1.2
      have e2 := D6.nd hq1
      have D7 := D6.put (o := .lst (List.replicate (1 + y).toNat [V.str "("]).flatten) e2.1 e2.2
      refine ⟨(by show 1 ≤ sizeLine; decide), fun p2 hp2 => ?_⟩
      have n12 : q1 ≠ p2 := ne_of_none upd_same hp2
      have e3 := D7.nd hp2
      have D8 := D7.put (o := .lst [V.str "5"]) e3.1 e3.2
      refine ⟨_, rfl, d, g, 2, rfl, D8, by decide, by decide, fun z H6 z0 z1 D9 k9 => ?_⟩
      have hq1' : H6 q1 = some (.lst (List.replicate (1 + y).toNat [V.str "("]).flatten) := k9.keep _ _ (by rw [upd_ne n12]; exact upd_same) (nmem2 e2.1 e2.2)
      have hp2' : H6 p2 = some (.lst [V.str "5"]) := k9.keep _ _ upd_same (nmem2 e3.1 e3.2)
      refine ⟨p2, _, _, rfl, rfl, hp2', by omega, by omega, ?_, fun q2 hq2 => ?_⟩
      · exact Nat.le_trans (show 1 * z.toNat ≤ 20 by omega) (by decide)
      have n13 : q1 ≠ q2 := ne_of_none hq1' hq2
      have e4 := D9.nd hq2
      have D10 := D9.put (o := .lst (List.replicate z.toNat [V.str "5"]).flatten) e4.1 e4.2
      refine ⟨q1, q2, _, _, rfl, rfl, by rw [upd_ne n13]; exact hq1', upd_same, ?_, fun r1 hr1 => ?_⟩
      · rw [rep_one, rep_one, List.length_replicate, List.length_replicate]
        exact Nat.le_trans (show (1 + y).toNat + z.toNat ≤ 40 by omega) (by decide)
      rw [rep_one] at hr1 D10
      rw [rep_one, rep_one]
      have e5 := D10.nd hr1
      have D11 := D10.put (o := .lst (List.replicate (1 + y).toNat (V.str "(") ++ List.replicate z.toNat (V.str "5"))) e5.1 e5.2
      refine ⟨(by show 1 ≤ sizeLine; decide), fun p3 hp3 => ?_⟩
      have n14 : r1 ≠ p3 := ne_of_none upd_same hp3
      have e6 := D11.nd hp3
      have D12 := D11.put (o := .lst [V.str ")"]) e6.1 e6.2
      refine ⟨_, rfl, _, rfl, d, g, 2, rfl, D12, by decide, by decide, fun u H7 u0 u1 D13 k13 => ⟨_, _, rfl, rfl, ?_⟩⟩
      have hr1' : H7 r1 = some (.lst (List.replicate (1 + y).toNat (V.str "(") ++ List.replicate z.toNat (V.str "5"))) := k13.keep _ _ (by rw [upd_ne n14]; exact upd_same) (nmem2 e5.1 e5.2)
      have hp3' : H7 p3 = some (.lst [V.str ")"]) := k13.keep _ _ upd_same (nmem2 e6.1 e6.2)
      refine ⟨p3, _, _, rfl, rfl, hp3', by omega, by omega, ?_, fun q3 hq3 => ?_⟩
      · exact Nat.le_trans (show 1 * (1 + y + u).toNat ≤ 20 by omega) (by decide)
      have n15 : r1 ≠ q3 := ne_of_none hr1' hq3
      rw [rep_one]
      have e7 := D13.nd hq3
      have D14 := D13.put (o := .lst (List.replicate (1 + y + u).toNat (V.str ")"))) e7.1 e7.2
      refine ⟨r1, q3, _, _, rfl, rfl, by rw [upd_ne n15]; exact hr1', upd_same, ?_, fun r2 hr2 => ?_⟩
      · rw [List.length_append, List.length_replicate, List.length_replicate, List.length_replicate]
        exact Nat.le_trans (show (1 + y).toNat + z.toNat + (1 + y + u).toNat ≤ 60 by omega) (by decide)
      have e8 := D14.nd hr2
      refine ⟨r2, List.replicate (1 + y).toNat (Str.ofString "(") ++ List.replicate z.toNat (Str.ofString "5") ++ List.replicate (1 + y + u).toNat (Str.ofString ")"), _, _, rfl, D14.put e8.1 e8.2, ?_, e8.1, e8.2, ?_, ?_⟩
      · rw [List.map_append, List.map_append, ← map_rep, ← map_rep, ← map_rep]
        exact upd_same
      · intro p hp
        rcases List.mem_append.mp hp with hp | hp
        · rcases List.mem_append.mp hp with hp | hp
          · rw [mem_rep hp]; decide +kernel
          · rw [mem_rep hp]; decide +kernel
        · rw [mem_rep hp]; decide +kernel
      · rw [List.length_append, List.length_append, List.length_replicate, List.length_replicate, List.length_replicate]
        omega
    · exact ⟨L, ps0, _, _, rfl, D4, k4.keep _ _ hH0 (nmem2 nL1 nL2), nL1, nL2, hp0, by omega⟩
  rintro σ4 H4 ⟨pa, ps, v3, v4, rfl, D4, hpa, npd, npg, hps, hlps⟩
  -- text = ' ' * .., columns = []
  refine ⟨_, rfl, d, g, 2, rfl, D4, by decide, by decide, fun x H5 x0 x1 D5 k5 => ⟨_, _, rfl, rfl, by decide +kernel, x0, by omega, ?_⟩⟩
  obtain ⟨n0, rfl⟩ : ∃ n : Nat, x = n := ⟨x.toNat, by omega⟩
  rw [show (Str.ofString " ") = Str.ofString " " from rfl, mul_blank]
  have hpa5 := k5.keep pa _ hpa (nmem2 npd npg)
  refine ⟨(by show 0 ≤ sizeLine; exact Nat.zero_le _), fun ca hca => ?_⟩
  have npc : pa ≠ ca := ne_of_none hpa5 hca
  obtain ⟨ncd, ncg⟩ := D5.nd hca
  -- the loop
  refine ⟨_, rfl, pa, _, rfl, SqL.of (by rw [upd_ne npc]; exact hpa5), ?_⟩
  refine for_enum (K := K) (a := pa) (xs := ps.map V.str) (LawSt (.ref a) d g pa ca ps v3 v4)
    ⟨S (List.replicate n0 32), [], none, none, none, none, rfl, D5.put ncd ncg, by rw [upd_ne npc]; exact hpa5, upd_same, rfl, built_start n0, fun _ h => (nomatch h), by rw [S_len, List.length_replicate]; omega, fun _ h => (nomatch h)⟩
    (fun i σ H' ⟨_, _, _, _, _, _, _, t⟩ => SqL.of t.pa) ?_ ?_
  · rintro i x σ H6 Tp hx ⟨text, cs, v7, v8, v9, last, rfl, t⟩ hT
    obtain ⟨p, hp, rfl⟩ : ∃ p, ps[i]? = some p ∧ x = V.str p := by
      rw [List.getElem?_map] at hx
      cases q : ps[i]? with
      | none => rw [q] at hx; cases hx
      | some p => rw [q] at hx; exact ⟨p, rfl, (Option.some.inj hx).symm⟩
    have hpP := hps p (List.mem_of_getElem? hp)
    have hi : i < ps.length := (List.getElem?_eq_some_iff.mp hp).1
    have hlen10 := pieces_len p hpP
    have tl := t.tlen
    obtain ⟨nTd, nTg⟩ := t.dr.nd hT
    have nTp : pa ≠ Tp := ne_of_none t.pa hT
    have nTc : ca ≠ Tp := ne_of_none t.ca hT
    refine ⟨Tp, _, rfl, SqT.of upd_same, rfl, _, _, rfl, _, _, rfl, rfl, ?_⟩
    have D7 := t.dr.put (o := .tup [.int (i : Nat), .str p]) nTd nTg
    have hpa7 : upd H6 Tp (.tup [.int (i : Nat), .str p]) pa = some (.lst (ps.map V.str)) := by rw [upd_ne nTp]; exact t.pa
    have hca7 : upd H6 Tp (.tup [.int (i : Nat), .str p]) ca = some (.lst (cs.map V.int)) := by rw [upd_ne nTc]; exact t.ca
    -- columns.append(len(text) + 1)
    refine ⟨_, rfl, .inl ⟨rfl, _, SqL.of hca7⟩, _, rfl, text, rfl, small (by omega), _, _, rfl, rfl, ca, _, _, rfl, rfl, hca7, ?_, ?_⟩
    · rw [List.length_map, t.len]; exact Nat.lt_of_le_of_lt (show i ≤ 40 by omega) (by decide)
    have hca8 : upd (upd H6 Tp (.tup [.int (i : Nat), .str p])) ca (.lst (cs.map V.int ++ [.int ((text.length : Int) + 1)])) ca = some (.lst ((cs ++ [(text.length : Int) + 1]).map V.int)) := by
      rw [List.map_append]; exact upd_same
    have hpa8 : upd (upd H6 Tp (.tup [.int (i : Nat), .str p])) ca (.lst (cs.map V.int ++ [.int ((text.length : Int) + 1)])) pa = some (.lst (ps.map V.str)) := by rw [upd_ne npc]; exact hpa7
    have D8 := D7.put (o := .lst (cs.map V.int ++ [.int ((text.length : Int) + 1)])) ncd ncg
    -- gap = draw(3)
    refine ⟨_, rfl, d, g, 3, rfl, D8, by decide, by decide, fun y H9 y0 y1 D9 k9 => ?_⟩
    obtain ⟨gap, rfl⟩ : ∃ n : Nat, y = n := ⟨y.toNat, by omega⟩
    have hca9 := k9.keep ca _ hca8 (nmem2 ncd ncg)
    have hpa9 := k9.keep pa _ hpa8 (nmem2 npd npg)
    refine ⟨LawGap (.ref a) d g pa ca ps cs v3 v4 i text p, ?_, ?_⟩
    · have keepit : (gap = 0 → ∀ p', ps[i + 1]? = some p' → stick p = false ∨ stick p' = false) → LawGap (.ref a) d g pa ca ps cs v3 v4 i text p [some (.ref a), some (.ref d), some (.ref pa), v3, v4, some (.str text), some (.ref ca), some (.int (i : Nat)), some (.str p), some (.int (gap : Nat)), none, none, none] H9 :=
        fun hg => ⟨gap, rfl, D9, hpa9, hca9, by omega, hg⟩
      refine ⟨_, rfl, rfl, _, rfl, ite2 (fun c0 => ?_) (fun c0 => ?_)⟩
      · refine ⟨_, rfl, _, _, rfl, rfl, _, rfl, pa, _, rfl, .inl (SqL.of hpa9), _, _, rfl, rfl, _, rfl, ite2 (fun c1 => ?_) (fun c1 => ?_)⟩
        · have c1' : i + 1 < ps.length := by
            have := of_decide_eq_true c1
            rw [List.length_map] at this
            omega
          obtain ⟨p', hp'⟩ : ∃ p', ps[i + 1]? = some p' := ⟨_, List.getElem?_eq_getElem c1'⟩
          have hat : atI (ps.map V.str) ((i : Int) + 1) = some (.str p') := atI_nat (j := i + 1) (by rw [List.getElem?_map, hp']; rfl)
          refine ⟨_, rfl, _, _, rfl, rfl, _, rfl, ite2 (fun c2 => ?_) (fun c2 => ?_)⟩
          · refine ⟨_, rfl, _, rfl, _, _, rfl, rfl, pa, _, _, _, rfl, rfl, SqL.of hpa9, hat, _, _, rfl, rfl, _, rfl, ite2 (fun c3 => ?_) (fun c3 => ?_)⟩
            · exact ⟨1, rfl, D9, hpa9, hca9, by decide, fun q => nomatch q⟩
            · refine keepit fun _ p2 hp2 => .inr ?_
              obtain rfl : p' = p2 := Option.some.inj (hp'.symm.trans hp2)
              exact Bool.eq_false_iff.mpr c3
          · exact iteF (keepit fun _ p2 hp2 => .inl (Bool.eq_false_iff.mpr c2))
        · refine iteF (keepit fun _ p2 hp2 => ?_)
          have : ¬ i + 1 < ps.length := fun q => c1 (decide_eq_true (by rw [List.length_map]; omega))
          exact (this (List.getElem?_eq_some_iff.mp hp2).1).elim
      · refine iteF (keepit fun q => ?_)
        exact (c0 (decide_eq_true (by rw [q]; rfl))).elim
    · rintro σ' H10 ⟨gap, rfl, D10, hpa10, hca10, hg2, hgj⟩
      refine ⟨_, rfl, _, rfl, _, _, rfl, rfl, small (by omega), _, rfl, _, _, rfl, rfl, by decide +kernel, by omega, by omega, _, _, rfl, rfl, ?_, ?_⟩
      · rw [mul_blank, TL.len_tl, TL.tl_append, List.length_append, ← TL.len_tl, ← TL.len_tl, S_len, List.length_replicate]
        exact small (by omega)
      rw [mul_blank]
      have bs := built_step (gap := gap) t.built (pok_piece hpP) (joint_clear hpP hp t.joint)
      refine ⟨text ++ p ++ S (List.replicate gap 32), cs ++ [(text.length : Int) + 1], _, _, _, if gap = 0 then some p else none, rfl, D10, hpa10, hca10, ?_, ?_, ?_, ?_, ?_⟩
      · rw [List.length_append, t.len]; rfl
      · rw [zip_snoc hp t.len]; exact bs
      · intro q hq
        by_cases g0 : gap = 0
        · rw [if_pos g0] at hq
          obtain rfl := Option.some.inj hq
          exact ⟨hpP, hgj g0⟩
        · rw [if_neg g0] at hq; cases hq
      · rw [TL.len_tl, TL.tl_append, TL.tl_append, List.length_append, List.length_append, ← TL.len_tl, ← TL.len_tl, ← TL.len_tl, S_len, List.length_replicate]
        omega
      · intro c hc
        rcases List.mem_append.mp hc with q | q
        · exact t.cols c q
        · rw [List.mem_singleton.mp q]; omega
  rintro σ H6 ⟨text, cs, v7, v8, v9, last, rfl, t⟩
  rw [List.length_map] at t
  have tl := t.tlen
  have hzip : (ps.take ps.length).zip cs = ps.zip cs := by rw [List.take_length]
  have hb := t.built
  rw [hzip] at hb
  have htok := built_end hb
  have hmem : ∀ x ∈ ps.zip cs, x.1 ∈ PIECES ∧ 0 ≤ x.2 ∧ x.2 ≤ 1000 := fun x hx => ⟨hps _ (List.of_mem_zip hx).1, t.cols _ (List.of_mem_zip hx).2⟩
  have hall : rdAll (tokAll text) = due ((text.length : Int) + 1) (ps.zip cs) [] := by
    have e2 : tokAll text = tks (ps.zip cs) ++ [⟨kEnd, Str.ofString "", (text.length : Int) + 1⟩] := by
      unfold tokAll
      rw [show text.cps.toList = TL.tl text from rfl, htok]
    rw [e2]
    exact rdAll_due _ _ fun x hx => pok_piece (hmem x hx).1
  have hnat : ((text.length : Int) + 1).natAbs < 10 ^ 12 := Nat.lt_of_le_of_lt (show ((text.length : Int) + 1).natAbs ≤ 1000 by omega) (by decide)
  have hrep := due_rep (bh := (text.length : Int) + 1) (ps := ps.zip cs) (fun x hx => (hmem x hx).1) (by rw [List.length_zip]; omega) hnat fun x hx => by
    obtain ⟨_, h1, h2⟩ := hmem x hx
    exact Nat.lt_of_le_of_lt (show x.2.natAbs ≤ 1000 by omega) (by decide)
  -- repr(told) != repr(due)
  refine ⟨_, rfl, text, rfl, by omega, tokAll_ok (by omega), fun H7 a1 hd1 k7 => ?_⟩
  rw [hall] at hd1
  refine ⟨a1, _, rfl, hd1.dp K, hrep.sh, hrep.nd, hrep.dp, hrep.sz, ?_⟩
  have t7 := t.dr.keep k7
  have hpa7 := k7.keep pa _ t.pa fun q => nomatch q
  have hca7 := k7.keep ca _ t.ca fun q => nomatch q
  refine ⟨_, rfl, _, rfl, _, rfl, text, rfl, small (by omega), _, _, rfl, rfl, pa, ca, ps, cs, (text.length : Int) + 1, rfl, hpa7, hca7, t.len.symm, hps, by omega, fun H8 a2 hd2 k8 => ?_⟩
  refine ⟨a2, _, rfl, hd2.dp K, hrep.sh, hrep.nd, hrep.dp, hrep.sz, ?_⟩
  have D8 := t7.keep k8
  refine ⟨rfl, _, rfl, ite2 (fun c => ?_) (fun _ => ?_)⟩
  · simp at c
  -- the thing
  refine ⟨_, rfl, d, g, rfl, D8, fun v D H9 hv hpl htl D9 _ => ?_⟩
  refine ⟨LawM3, ?_, ?_⟩
  · refine ⟨_, rfl, d, g, 3, rfl, D9, by decide, by decide, fun x H10 _ _ D10 k10 => ⟨rfl, _, rfl, ite2 (fun _ => ?_) (fun _ => ?_)⟩⟩
    · refine ⟨_, rfl, d, g, rfl, D10, fun v2 D2 H11 hv2 hpl2 htl2 _ _ => ?_⟩
      exact ⟨_, _, _, _, _, _, _, _, _, _, v2, D2, rfl, hv2, hpl2, by omega⟩
    · exact ⟨_, _, _, _, _, _, _, _, _, _, v, D, rfl, hv.mono k10.tups, plain_to hpl 6, htl⟩
  rintro σ H10 ⟨w0, w1, w2, w3, w4, w5, w6, w7, w8, w9, v, D, rfl, hv, hpl, htl⟩
  refine ⟨_, rfl, v, D, rfl, hv, hpl, by omega, fun H11 k11 => ?_⟩
  refine ⟨_, rfl, v, D, rfl, hv.mono k11.tups, hpl, by omega, fun H12 k12 => ?_⟩
  refine ⟨_, rfl, _, rfl, rfl, _, rfl, ?_⟩
  refine ite2 (fun _ => ?_) (fun c => ?_)
  · have hrd : rdAll (tokAll (txt D)) = .val D := by
      unfold tokAll
      exact read_back hpl (by decide) _
    have hrep2 : RepOk (resD (.val D)) := plain_rep hpl (by decide) (by omega)
    refine ⟨_, rfl, txt D, rfl, by omega, tokAll_ok (by omega), fun H13 a3 hd3 k13 => ?_⟩
    rw [hrd] at hd3
    refine ⟨a3, _, rfl, hd3.dp K, hrep2.sh, hrep2.nd, hrep2.dp, hrep2.sz, ?_⟩
    have hv13 := ((hv.mono k11.tups).mono k12.tups).mono k13.tups
    refine ⟨_, rfl, (by show 2 ≤ sizeLine; decide), fun a4 ha4 => ?_⟩
    have hd4 : Da (upd H13 a4 (.tup [.str "value", v])) (.ref a4) (resD (.val D)) := .tup upd_same (.cons (.str _) (.cons (hv13.mono (Kp.new (M := []) ha4).tups) .nil))
    refine ⟨a4, _, rfl, hd4.dp K, hrep2.sh, hrep2.nd, hrep2.dp, hrep2.sz, ?_⟩
    refine ⟨rfl, ?_⟩
    have := k (upd H13 a4 (.tup [.str "value", v]))
    simpa using this
  · exact absurd (by simp) c
end
end PV
namespace PV
open PySem PySem.Spec PyProof.Rows L2
theorem all_mk {P : Program} {w : World} {K : PySem.W.Frag} {h : Heap} {mg : Str → Option Value} {fa : Addr} {f_BadText___init__ f_TooMany___init__ f_run_end f_all_tokens f_Reader___init__ f_Reader_peek f_Reader_take f_Reader_next_is f_Reader_fail f_Reader_ask_end f_write_plain f_read_single f_read_value f_read_plain f_law_begin f_law_draw f_law_piece f_law_worth f_law_due f_law_told f_law_value_of f_law_deep f_law_plain_text f_law : Addr} {C_BadText C_TooMany C_Reader : Addr} {oc_BadText___init__ kV_BadText___init__ dc_BadText___init__ pm_BadText___init__ cd_BadText___init__ ct_BadText___init__ oc_TooMany___init__ kV_TooMany___init__ dc_TooMany___init__ pm_TooMany___init__ cd_TooMany___init__ ct_TooMany___init__ oc_run_end kV_run_end dc_run_end pm_run_end cd_run_end ct_run_end oc_all_tokens kV_all_tokens dc_all_tokens pm_all_tokens cd_all_tokens ct_all_tokens oc_Reader___init__ kV_Reader___init__ dc_Reader___init__ pm_Reader___init__ cd_Reader___init__ ct_Reader___init__ oc_Reader_peek kV_Reader_peek dc_Reader_peek pm_Reader_peek cd_Reader_peek ct_Reader_peek oc_Reader_take kV_Reader_take dc_Reader_take pm_Reader_take cd_Reader_take ct_Reader_take oc_Reader_next_is kV_Reader_next_is dc_Reader_next_is pm_Reader_next_is cd_Reader_next_is ct_Reader_next_is oc_Reader_fail kV_Reader_fail dc_Reader_fail pm_Reader_fail cd_Reader_fail ct_Reader_fail oc_Reader_ask_end kV_Reader_ask_end dc_Reader_ask_end pm_Reader_ask_end cd_Reader_ask_end ct_Reader_ask_end oc_write_plain kV_write_plain dc_write_plain pm_write_plain cd_write_plain ct_write_plain oc_read_single kV_read_single dc_read_single pm_read_single cd_read_single ct_read_single oc_read_value kV_read_value dc_read_value pm_read_value cd_read_value ct_read_value oc_read_plain kV_read_plain dc_read_plain pm_read_plain cd_read_plain ct_read_plain oc_law_begin kV_law_begin dc_law_begin pm_law_begin cd_law_begin ct_law_begin oc_law_draw kV_law_draw dc_law_draw pm_law_draw cd_law_draw ct_law_draw oc_law_piece kV_law_piece dc_law_piece pm_law_piece cd_law_piece ct_law_piece oc_law_worth kV_law_worth dc_law_worth pm_law_worth cd_law_worth ct_law_worth oc_law_due kV_law_due dc_law_due pm_law_due cd_law_due ct_law_due oc_law_told kV_law_told dc_law_told pm_law_told cd_law_told ct_law_told oc_law_value_of kV_law_value_of dc_law_value_of pm_law_value_of cd_law_value_of ct_law_value_of oc_law_deep kV_law_deep dc_law_deep pm_law_deep cd_law_deep ct_law_deep oc_law_plain_text kV_law_plain_text dc_law_plain_text pm_law_plain_text cd_law_plain_text ct_law_plain_text oc_law kV_law dc_law pm_law cd_law ct_law : Value} {od_BadText___init__ an_BadText___init__ od_TooMany___init__ an_TooMany___init__ od_run_end an_run_end od_all_tokens an_all_tokens od_Reader___init__ an_Reader___init__ od_Reader_peek an_Reader_peek od_Reader_take an_Reader_take od_Reader_next_is an_Reader_next_is od_Reader_fail an_Reader_fail od_Reader_ask_end an_Reader_ask_end od_write_plain an_write_plain od_read_single an_read_single od_read_value an_read_value od_read_plain an_read_plain od_law_begin an_law_begin od_law_draw an_law_draw od_law_piece an_law_piece od_law_worth an_law_worth od_law_due an_law_due od_law_told an_law_told od_law_value_of an_law_value_of od_law_deep an_law_deep od_law_plain_text an_law_plain_text od_law an_law : Option Addr} {sl_BadText___init__ sl_TooMany___init__ sl_run_end sl_all_tokens sl_Reader___init__ sl_Reader_peek sl_Reader_take sl_Reader_next_is sl_Reader_fail sl_Reader_ask_end sl_write_plain sl_read_single sl_read_value sl_read_plain sl_law_begin sl_law_draw sl_law_piece sl_law_worth sl_law_due sl_law_told sl_law_value_of sl_law_deep sl_law_plain_text sl_law : Array (Option Value)} {t_LETTERS t_DIGITS t_SIGNS t_MOST_DIGITS t_MOST_LETTERS t_MOST_DEEP : Tok} {nm_BadText q_BadText : Str} {N_BadText : Addr} {bs_BadText bm_BadText sub_BadText : List Value} {sn_BadText : List Str} {ab_BadText_ : Bool} {col_BadText : Option Bool} {dd_BadText : Option Addr} {m0_BadText m1_BadText m2_BadText m3_BadText m5_BadText : Option Value} {nm_TooMany q_TooMany : Str} {N_TooMany : Addr} {bs_TooMany bm_TooMany sub_TooMany : List Value} {sn_TooMany : List Str} {ab_TooMany_ : Bool} {col_TooMany : Option Bool} {dd_TooMany : Option Addr} {m0_TooMany m1_TooMany m2_TooMany m3_TooMany m5_TooMany : Option Value} (X : K.In h) (G : h.Ns mainGlobals mg) (hfa : mg "law" = some (.ref fa))
    (ab_enumerate : PySem.W.nsIn K mainGlobals "enumerate" = some none)
    (ab_int : PySem.W.nsIn K mainGlobals "int" = some none)
    (ab_isinstance : PySem.W.nsIn K mainGlobals "isinstance" = some none)
    (ab_len : PySem.W.nsIn K mainGlobals "len" = some none)
    (ab_max : PySem.W.nsIn K mainGlobals "max" = some none)
    (ab_range : PySem.W.nsIn K mainGlobals "range" = some none)
    (ab_repr : PySem.W.nsIn K mainGlobals "repr" = some none)
    (ab_str : PySem.W.nsIn K mainGlobals "str" = some none)
    (ab_tuple : PySem.W.nsIn K mainGlobals "tuple" = some none)
    (ac_LETTERS : PySem.W.nsIn K mainGlobals "LETTERS" = some (some (.str "abcdefghijklmnopqrstuvwxyz" t_LETTERS)))
    (ac_DIGITS : PySem.W.nsIn K mainGlobals "DIGITS" = some (some (.str "0123456789" t_DIGITS)))
    (ac_SIGNS : PySem.W.nsIn K mainGlobals "SIGNS" = some (some (.str "&|!()=:;+-." t_SIGNS)))
    (ac_MOST_DIGITS : PySem.W.nsIn K mainGlobals "MOST_DIGITS" = some (some (.int 9 t_MOST_DIGITS)))
    (ac_MOST_LETTERS : PySem.W.nsIn K mainGlobals "MOST_LETTERS" = some (some (.int 8 t_MOST_LETTERS)))
    (ac_MOST_DEEP : PySem.W.nsIn K mainGlobals "MOST_DEEP" = some (some (.int 12 t_MOST_DEEP)))
    (ag_BadText : PySem.W.nsIn K mainGlobals "BadText" = some (some (.ref C_BadText)))
    (xl_BadText : K.lookup C_BadText = some (excClassObj nm_BadText q_BadText C_BadText N_BadText bs_BadText bm_BadText true sn_BadText sub_BadText ab_BadText_ col_BadText dd_BadText m0_BadText m1_BadText m2_BadText m3_BadText m5_BadText "ValueError.__new__"))
    (xr_BadText : PySem.HandSPX.refsVE bm_BadText = true)
    (sa_BadText : PySem.W.findIn K (.ref C_BadText) "__setattr__" = some (some (.builtin "object.__setattr__")))
    (ga_BadText : PySem.W.findIn K (.ref C_BadText) "__getattribute__" = some (some (.builtin "BaseException.__getattribute__")))
    (gg_BadText : PySem.W.findIn K (.ref C_BadText) "__getattr__" = some none)
    (eC_BadText : PySem.W.subIn K (.ref C_BadText) (.type "BaseException") = some true)
    (tC_BadText : PySem.W.typeIn K (.ref C_BadText) = some (.type "type"))
    (kC_BadText : PySem.W.keepIn K (.ref C_BadText) = true)
    (hC_BadText : PySem.W.hasDictIn K C_BadText = true)
    (iC_BadText : PySem.W.isClsIn K C_BadText = true)
    (an_BadText_line : PySem.W.findIn K (.ref C_BadText) "line" = some none)
    (an_BadText_column : PySem.W.findIn K (.ref C_BadText) "column" = some none)
    (ag_TooMany : PySem.W.nsIn K mainGlobals "TooMany" = some (some (.ref C_TooMany)))
    (xl_TooMany : K.lookup C_TooMany = some (excClassObj nm_TooMany q_TooMany C_TooMany N_TooMany bs_TooMany bm_TooMany true sn_TooMany sub_TooMany ab_TooMany_ col_TooMany dd_TooMany m0_TooMany m1_TooMany m2_TooMany m3_TooMany m5_TooMany "ValueError.__new__"))
    (xr_TooMany : PySem.HandSPX.refsVE bm_TooMany = true)
    (sa_TooMany : PySem.W.findIn K (.ref C_TooMany) "__setattr__" = some (some (.builtin "object.__setattr__")))
    (ga_TooMany : PySem.W.findIn K (.ref C_TooMany) "__getattribute__" = some (some (.builtin "BaseException.__getattribute__")))
    (gg_TooMany : PySem.W.findIn K (.ref C_TooMany) "__getattr__" = some none)
    (eC_TooMany : PySem.W.subIn K (.ref C_TooMany) (.type "BaseException") = some true)
    (tC_TooMany : PySem.W.typeIn K (.ref C_TooMany) = some (.type "type"))
    (kC_TooMany : PySem.W.keepIn K (.ref C_TooMany) = true)
    (hC_TooMany : PySem.W.hasDictIn K C_TooMany = true)
    (iC_TooMany : PySem.W.isClsIn K C_TooMany = true)
    (an_TooMany_limit : PySem.W.findIn K (.ref C_TooMany) "limit" = some none)
    (ag_Reader : PySem.W.nsIn K mainGlobals "Reader" = some (some (.ref C_Reader)))
    (pg_Reader : PySem.W.plainGet K C_Reader Str.empty = true)
    (hd_Reader : PySem.W.hasDictIn K C_Reader = true)
    (po_Reader : PySem.W.plainOver K C_Reader = true)
    (sa_Reader : PySem.W.findIn K (.ref C_Reader) "__setattr__" = some (some (.builtin "object.__setattr__")))
    (mi_Reader : PySem.W.makesIn K C_Reader = true)
    (ki_Reader : PySem.W.keepIn K (.ref C_Reader) = true)
    (an_Reader_tokens : PySem.W.findIn K (.ref C_Reader) "tokens" = some none)
    (an_Reader_number : PySem.W.findIn K (.ref C_Reader) "number" = some none)
    (an_Reader_place : PySem.W.findIn K (.ref C_Reader) "place" = some none)
    (an_Reader_nodes : PySem.W.findIn K (.ref C_Reader) "nodes" = some none)
    (an_Reader_nested : PySem.W.findIn K (.ref C_Reader) "nested" = some none)
    (as_BadText_BadText : PySem.W.subIn K (.ref C_BadText) (.ref C_BadText) = some true)
    (as_BadText_TooMany : PySem.W.subIn K (.ref C_BadText) (.ref C_TooMany) = some false)
    (as_TooMany_BadText : PySem.W.subIn K (.ref C_TooMany) (.ref C_BadText) = some false)
    (as_TooMany_TooMany : PySem.W.subIn K (.ref C_TooMany) (.ref C_TooMany) = some true)
    (a_BadText___init__ : PySem.W.findIn K (.ref C_BadText) "__init__" = some (some (.ref f_BadText___init__)))
    (t_BadText___init__ : PySem.W.typeIn K (.ref f_BadText___init__) = some (.type "function"))
    (l_BadText___init__ : K.lookup f_BadText___init__ = some ⟨oc_BadText___init__, od_BadText___init__, .func (PySem.W.fnOf "__init__" "BadText.__init__" (defArgs s_BadText___init__) (defBody s_BadText___init__) (defScope s_BadText___init__) .none kV_BadText___init__ dc_BadText___init__ pm_BadText___init__ an_BadText___init__ cd_BadText___init__ ct_BadText___init__), sl_BadText___init__⟩)
    (c_BadText___init__ : PySem.W.codeIn K cd_BadText___init__ "BadText.__init__" = true)
    (k_BadText___init__ : PySem.W.keepIn K (.ref f_BadText___init__) = true)
    (a_TooMany___init__ : PySem.W.findIn K (.ref C_TooMany) "__init__" = some (some (.ref f_TooMany___init__)))
    (t_TooMany___init__ : PySem.W.typeIn K (.ref f_TooMany___init__) = some (.type "function"))
    (l_TooMany___init__ : K.lookup f_TooMany___init__ = some ⟨oc_TooMany___init__, od_TooMany___init__, .func (PySem.W.fnOf "__init__" "TooMany.__init__" (defArgs s_TooMany___init__) (defBody s_TooMany___init__) (defScope s_TooMany___init__) .none kV_TooMany___init__ dc_TooMany___init__ pm_TooMany___init__ an_TooMany___init__ cd_TooMany___init__ ct_TooMany___init__), sl_TooMany___init__⟩)
    (c_TooMany___init__ : PySem.W.codeIn K cd_TooMany___init__ "TooMany.__init__" = true)
    (k_TooMany___init__ : PySem.W.keepIn K (.ref f_TooMany___init__) = true)
    (a_run_end : PySem.W.nsIn K mainGlobals "run_end" = some (some (.ref f_run_end)))
    (l_run_end : K.lookup f_run_end = some ⟨oc_run_end, od_run_end, .func (PySem.W.fnOf "run_end" "run_end" (defArgs s_run_end) (defBody s_run_end) (defScope s_run_end) .none kV_run_end dc_run_end pm_run_end an_run_end cd_run_end ct_run_end), sl_run_end⟩)
    (c_run_end : PySem.W.codeIn K cd_run_end "run_end" = true)
    (k_run_end : PySem.W.keepIn K (.ref f_run_end) = true)
    (a_all_tokens : PySem.W.nsIn K mainGlobals "all_tokens" = some (some (.ref f_all_tokens)))
    (l_all_tokens : K.lookup f_all_tokens = some ⟨oc_all_tokens, od_all_tokens, .func (PySem.W.fnOf "all_tokens" "all_tokens" (defArgs s_all_tokens) (defBody s_all_tokens) (defScope s_all_tokens) .none kV_all_tokens dc_all_tokens pm_all_tokens an_all_tokens cd_all_tokens ct_all_tokens), sl_all_tokens⟩)
    (c_all_tokens : PySem.W.codeIn K cd_all_tokens "all_tokens" = true)
    (k_all_tokens : PySem.W.keepIn K (.ref f_all_tokens) = true)
    (a_Reader___init__ : PySem.W.findIn K (.ref C_Reader) "__init__" = some (some (.ref f_Reader___init__)))
    (i_Reader___init__ : PySem.W.isFn K (.ref f_Reader___init__) = true)
    (l_Reader___init__ : K.lookup f_Reader___init__ = some ⟨oc_Reader___init__, od_Reader___init__, .func (PySem.W.fnOf "__init__" "Reader.__init__" (defArgs s_Reader___init__) (defBody s_Reader___init__) (defScope s_Reader___init__) .none kV_Reader___init__ dc_Reader___init__ pm_Reader___init__ an_Reader___init__ cd_Reader___init__ ct_Reader___init__), sl_Reader___init__⟩)
    (c_Reader___init__ : PySem.W.codeIn K cd_Reader___init__ "Reader.__init__" = true)
    (k_Reader___init__ : PySem.W.keepIn K (.ref f_Reader___init__) = true)
    (a_Reader_peek : PySem.W.findIn K (.ref C_Reader) "peek" = some (some (.ref f_Reader_peek)))
    (i_Reader_peek : PySem.W.isFn K (.ref f_Reader_peek) = true)
    (l_Reader_peek : K.lookup f_Reader_peek = some ⟨oc_Reader_peek, od_Reader_peek, .func (PySem.W.fnOf "peek" "Reader.peek" (defArgs s_Reader_peek) (defBody s_Reader_peek) (defScope s_Reader_peek) .none kV_Reader_peek dc_Reader_peek pm_Reader_peek an_Reader_peek cd_Reader_peek ct_Reader_peek), sl_Reader_peek⟩)
    (c_Reader_peek : PySem.W.codeIn K cd_Reader_peek "Reader.peek" = true)
    (k_Reader_peek : PySem.W.keepIn K (.ref f_Reader_peek) = true)
    (a_Reader_take : PySem.W.findIn K (.ref C_Reader) "take" = some (some (.ref f_Reader_take)))
    (i_Reader_take : PySem.W.isFn K (.ref f_Reader_take) = true)
    (l_Reader_take : K.lookup f_Reader_take = some ⟨oc_Reader_take, od_Reader_take, .func (PySem.W.fnOf "take" "Reader.take" (defArgs s_Reader_take) (defBody s_Reader_take) (defScope s_Reader_take) .none kV_Reader_take dc_Reader_take pm_Reader_take an_Reader_take cd_Reader_take ct_Reader_take), sl_Reader_take⟩)
    (c_Reader_take : PySem.W.codeIn K cd_Reader_take "Reader.take" = true)
    (k_Reader_take : PySem.W.keepIn K (.ref f_Reader_take) = true)
    (a_Reader_next_is : PySem.W.findIn K (.ref C_Reader) "next_is" = some (some (.ref f_Reader_next_is)))
    (i_Reader_next_is : PySem.W.isFn K (.ref f_Reader_next_is) = true)
    (l_Reader_next_is : K.lookup f_Reader_next_is = some ⟨oc_Reader_next_is, od_Reader_next_is, .func (PySem.W.fnOf "next_is" "Reader.next_is" (defArgs s_Reader_next_is) (defBody s_Reader_next_is) (defScope s_Reader_next_is) .none kV_Reader_next_is dc_Reader_next_is pm_Reader_next_is an_Reader_next_is cd_Reader_next_is ct_Reader_next_is), sl_Reader_next_is⟩)
    (c_Reader_next_is : PySem.W.codeIn K cd_Reader_next_is "Reader.next_is" = true)
    (k_Reader_next_is : PySem.W.keepIn K (.ref f_Reader_next_is) = true)
    (a_Reader_fail : PySem.W.findIn K (.ref C_Reader) "fail" = some (some (.ref f_Reader_fail)))
    (i_Reader_fail : PySem.W.isFn K (.ref f_Reader_fail) = true)
    (l_Reader_fail : K.lookup f_Reader_fail = some ⟨oc_Reader_fail, od_Reader_fail, .func (PySem.W.fnOf "fail" "Reader.fail" (defArgs s_Reader_fail) (defBody s_Reader_fail) (defScope s_Reader_fail) .none kV_Reader_fail dc_Reader_fail pm_Reader_fail an_Reader_fail cd_Reader_fail ct_Reader_fail), sl_Reader_fail⟩)
    (c_Reader_fail : PySem.W.codeIn K cd_Reader_fail "Reader.fail" = true)
    (k_Reader_fail : PySem.W.keepIn K (.ref f_Reader_fail) = true)
    (a_Reader_ask_end : PySem.W.findIn K (.ref C_Reader) "ask_end" = some (some (.ref f_Reader_ask_end)))
    (i_Reader_ask_end : PySem.W.isFn K (.ref f_Reader_ask_end) = true)
    (l_Reader_ask_end : K.lookup f_Reader_ask_end = some ⟨oc_Reader_ask_end, od_Reader_ask_end, .func (PySem.W.fnOf "ask_end" "Reader.ask_end" (defArgs s_Reader_ask_end) (defBody s_Reader_ask_end) (defScope s_Reader_ask_end) .none kV_Reader_ask_end dc_Reader_ask_end pm_Reader_ask_end an_Reader_ask_end cd_Reader_ask_end ct_Reader_ask_end), sl_Reader_ask_end⟩)
    (c_Reader_ask_end : PySem.W.codeIn K cd_Reader_ask_end "Reader.ask_end" = true)
    (k_Reader_ask_end : PySem.W.keepIn K (.ref f_Reader_ask_end) = true)
    (a_write_plain : PySem.W.nsIn K mainGlobals "write_plain" = some (some (.ref f_write_plain)))
    (l_write_plain : K.lookup f_write_plain = some ⟨oc_write_plain, od_write_plain, .func (PySem.W.fnOf "write_plain" "write_plain" (defArgs s_write_plain) (defBody s_write_plain) (defScope s_write_plain) .none kV_write_plain dc_write_plain pm_write_plain an_write_plain cd_write_plain ct_write_plain), sl_write_plain⟩)
    (c_write_plain : PySem.W.codeIn K cd_write_plain "write_plain" = true)
    (k_write_plain : PySem.W.keepIn K (.ref f_write_plain) = true)
    (a_read_single : PySem.W.nsIn K mainGlobals "read_single" = some (some (.ref f_read_single)))
    (l_read_single : K.lookup f_read_single = some ⟨oc_read_single, od_read_single, .func (PySem.W.fnOf "read_single" "read_single" (defArgs s_read_single) (defBody s_read_single) (defScope s_read_single) .none kV_read_single dc_read_single pm_read_single an_read_single cd_read_single ct_read_single), sl_read_single⟩)
    (c_read_single : PySem.W.codeIn K cd_read_single "read_single" = true)
    (k_read_single : PySem.W.keepIn K (.ref f_read_single) = true)
    (a_read_value : PySem.W.nsIn K mainGlobals "read_value" = some (some (.ref f_read_value)))
    (l_read_value : K.lookup f_read_value = some ⟨oc_read_value, od_read_value, .func (PySem.W.fnOf "read_value" "read_value" (defArgs s_read_value) (defBody s_read_value) (defScope s_read_value) .none kV_read_value dc_read_value pm_read_value an_read_value cd_read_value ct_read_value), sl_read_value⟩)
    (c_read_value : PySem.W.codeIn K cd_read_value "read_value" = true)
    (k_read_value : PySem.W.keepIn K (.ref f_read_value) = true)
    (a_read_plain : PySem.W.nsIn K mainGlobals "read_plain" = some (some (.ref f_read_plain)))
    (l_read_plain : K.lookup f_read_plain = some ⟨oc_read_plain, od_read_plain, .func (PySem.W.fnOf "read_plain" "read_plain" (defArgs s_read_plain) (defBody s_read_plain) (defScope s_read_plain) .none kV_read_plain dc_read_plain pm_read_plain an_read_plain cd_read_plain ct_read_plain), sl_read_plain⟩)
    (c_read_plain : PySem.W.codeIn K cd_read_plain "read_plain" = true)
    (k_read_plain : PySem.W.keepIn K (.ref f_read_plain) = true)
    (a_law_begin : PySem.W.nsIn K mainGlobals "_law_begin" = some (some (.ref f_law_begin)))
    (l_law_begin : K.lookup f_law_begin = some ⟨oc_law_begin, od_law_begin, .func (PySem.W.fnOf "_law_begin" "_law_begin" (defArgs s_law_begin) (defBody s_law_begin) (defScope s_law_begin) .none kV_law_begin dc_law_begin pm_law_begin an_law_begin cd_law_begin ct_law_begin), sl_law_begin⟩)
    (c_law_begin : PySem.W.codeIn K cd_law_begin "_law_begin" = true)
    (k_law_begin : PySem.W.keepIn K (.ref f_law_begin) = true)
    (a_law_draw : PySem.W.nsIn K mainGlobals "_law_draw" = some (some (.ref f_law_draw)))
    (l_law_draw : K.lookup f_law_draw = some ⟨oc_law_draw, od_law_draw, .func (PySem.W.fnOf "_law_draw" "_law_draw" (defArgs s_law_draw) (defBody s_law_draw) (defScope s_law_draw) .none kV_law_draw dc_law_draw pm_law_draw an_law_draw cd_law_draw ct_law_draw), sl_law_draw⟩)
    (c_law_draw : PySem.W.codeIn K cd_law_draw "_law_draw" = true)
    (k_law_draw : PySem.W.keepIn K (.ref f_law_draw) = true)
    (a_law_piece : PySem.W.nsIn K mainGlobals "_law_piece" = some (some (.ref f_law_piece)))
    (l_law_piece : K.lookup f_law_piece = some ⟨oc_law_piece, od_law_piece, .func (PySem.W.fnOf "_law_piece" "_law_piece" (defArgs s_law_piece) (defBody s_law_piece) (defScope s_law_piece) .none kV_law_piece dc_law_piece pm_law_piece an_law_piece cd_law_piece ct_law_piece), sl_law_piece⟩)
    (c_law_piece : PySem.W.codeIn K cd_law_piece "_law_piece" = true)
    (k_law_piece : PySem.W.keepIn K (.ref f_law_piece) = true)
    (a_law_worth : PySem.W.nsIn K mainGlobals "_law_worth" = some (some (.ref f_law_worth)))
    (l_law_worth : K.lookup f_law_worth = some ⟨oc_law_worth, od_law_worth, .func (PySem.W.fnOf "_law_worth" "_law_worth" (defArgs s_law_worth) (defBody s_law_worth) (defScope s_law_worth) .none kV_law_worth dc_law_worth pm_law_worth an_law_worth cd_law_worth ct_law_worth), sl_law_worth⟩)
    (c_law_worth : PySem.W.codeIn K cd_law_worth "_law_worth" = true)
    (k_law_worth : PySem.W.keepIn K (.ref f_law_worth) = true)
    (a_law_due : PySem.W.nsIn K mainGlobals "_law_due" = some (some (.ref f_law_due)))
    (l_law_due : K.lookup f_law_due = some ⟨oc_law_due, od_law_due, .func (PySem.W.fnOf "_law_due" "_law_due" (defArgs s_law_due) (defBody s_law_due) (defScope s_law_due) .none kV_law_due dc_law_due pm_law_due an_law_due cd_law_due ct_law_due), sl_law_due⟩)
    (c_law_due : PySem.W.codeIn K cd_law_due "_law_due" = true)
    (k_law_due : PySem.W.keepIn K (.ref f_law_due) = true)
    (a_law_told : PySem.W.nsIn K mainGlobals "_law_told" = some (some (.ref f_law_told)))
    (l_law_told : K.lookup f_law_told = some ⟨oc_law_told, od_law_told, .func (PySem.W.fnOf "_law_told" "_law_told" (defArgs s_law_told) (defBody s_law_told) (defScope s_law_told) .none kV_law_told dc_law_told pm_law_told an_law_told cd_law_told ct_law_told), sl_law_told⟩)
    (c_law_told : PySem.W.codeIn K cd_law_told "_law_told" = true)
    (k_law_told : PySem.W.keepIn K (.ref f_law_told) = true)
    (a_law_value_of : PySem.W.nsIn K mainGlobals "_law_value_of" = some (some (.ref f_law_value_of)))
    (l_law_value_of : K.lookup f_law_value_of = some ⟨oc_law_value_of, od_law_value_of, .func (PySem.W.fnOf "_law_value_of" "_law_value_of" (defArgs s_law_value_of) (defBody s_law_value_of) (defScope s_law_value_of) .none kV_law_value_of dc_law_value_of pm_law_value_of an_law_value_of cd_law_value_of ct_law_value_of), sl_law_value_of⟩)
    (c_law_value_of : PySem.W.codeIn K cd_law_value_of "_law_value_of" = true)
    (k_law_value_of : PySem.W.keepIn K (.ref f_law_value_of) = true)
    (a_law_deep : PySem.W.nsIn K mainGlobals "_law_deep" = some (some (.ref f_law_deep)))
    (l_law_deep : K.lookup f_law_deep = some ⟨oc_law_deep, od_law_deep, .func (PySem.W.fnOf "_law_deep" "_law_deep" (defArgs s_law_deep) (defBody s_law_deep) (defScope s_law_deep) .none kV_law_deep dc_law_deep pm_law_deep an_law_deep cd_law_deep ct_law_deep), sl_law_deep⟩)
    (c_law_deep : PySem.W.codeIn K cd_law_deep "_law_deep" = true)
    (k_law_deep : PySem.W.keepIn K (.ref f_law_deep) = true)
    (a_law_plain_text : PySem.W.nsIn K mainGlobals "_law_plain_text" = some (some (.ref f_law_plain_text)))
    (l_law_plain_text : K.lookup f_law_plain_text = some ⟨oc_law_plain_text, od_law_plain_text, .func (PySem.W.fnOf "_law_plain_text" "_law_plain_text" (defArgs s_law_plain_text) (defBody s_law_plain_text) (defScope s_law_plain_text) .none kV_law_plain_text dc_law_plain_text pm_law_plain_text an_law_plain_text cd_law_plain_text ct_law_plain_text), sl_law_plain_text⟩)
    (c_law_plain_text : PySem.W.codeIn K cd_law_plain_text "_law_plain_text" = true)
    (k_law_plain_text : PySem.W.keepIn K (.ref f_law_plain_text) = true)
    (a_law : PySem.W.nsIn K mainGlobals "law" = some (some (.ref f_law)))
    (l_law : K.lookup f_law = some ⟨oc_law, od_law, .func (PySem.W.fnOf "law" "law" (defArgs s_law) (defBody s_law) (defScope s_law) .none kV_law dc_law pm_law an_law cd_law ct_law), sl_law⟩)
    (c_law : PySem.W.codeIn K cd_law "law" = true) :
    ∃ fd : FuncData, (∀ (s : Shared) (u : Value), BindsTo s fd ⟨[u], []⟩ [("script", u)]) ∧ ∀ base : Heap, K.In base → base.Ns mainGlobals mg → LawAt P w K mg base CX0 fa fd "script" (spLaw K) := by
  have e := hfa.symm.trans (PySem.W.mg_of X G a_law)
  cases e
  have T := txt_mk X G ab_enumerate ab_int ab_isinstance ab_len ab_max ab_range ab_repr ab_str ab_tuple ac_LETTERS ac_DIGITS ac_SIGNS ac_MOST_DIGITS ac_MOST_LETTERS ac_MOST_DEEP ag_BadText xl_BadText xr_BadText sa_BadText ga_BadText gg_BadText eC_BadText tC_BadText kC_BadText hC_BadText iC_BadText an_BadText_line an_BadText_column ag_TooMany xl_TooMany xr_TooMany sa_TooMany ga_TooMany gg_TooMany eC_TooMany tC_TooMany kC_TooMany hC_TooMany iC_TooMany an_TooMany_limit ag_Reader pg_Reader hd_Reader po_Reader sa_Reader mi_Reader ki_Reader an_Reader_tokens an_Reader_number an_Reader_place an_Reader_nodes an_Reader_nested as_BadText_BadText as_BadText_TooMany as_TooMany_BadText as_TooMany_TooMany a_BadText___init__ t_BadText___init__ l_BadText___init__ c_BadText___init__ k_BadText___init__ a_TooMany___init__ t_TooMany___init__ l_TooMany___init__ c_TooMany___init__ k_TooMany___init__ a_run_end l_run_end c_run_end k_run_end a_all_tokens l_all_tokens c_all_tokens k_all_tokens a_Reader___init__ i_Reader___init__ l_Reader___init__ c_Reader___init__ k_Reader___init__ a_Reader_peek i_Reader_peek l_Reader_peek c_Reader_peek k_Reader_peek a_Reader_take i_Reader_take l_Reader_take c_Reader_take k_Reader_take a_Reader_next_is i_Reader_next_is l_Reader_next_is c_Reader_next_is k_Reader_next_is a_Reader_fail i_Reader_fail l_Reader_fail c_Reader_fail k_Reader_fail a_Reader_ask_end i_Reader_ask_end l_Reader_ask_end c_Reader_ask_end k_Reader_ask_end a_write_plain l_write_plain c_write_plain k_write_plain a_read_single l_read_single c_read_single k_read_single a_read_value l_read_value c_read_value k_read_value a_read_plain l_read_plain c_read_plain k_read_plain a_law_begin l_law_begin c_law_begin k_law_begin a_law_draw l_law_draw c_law_draw k_law_draw a_law_piece l_law_piece c_law_piece k_law_piece a_law_worth l_law_worth c_law_worth k_law_worth a_law_due l_law_due c_law_due k_law_due a_law_told l_law_told c_law_told k_law_told a_law_value_of l_law_value_of c_law_value_of k_law_value_of a_law_deep l_law_deep c_law_deep k_law_deep a_law_plain_text l_law_plain_text c_law_plain_text k_law_plain_text
  exact ⟨PySem.W.fnOf "law" "law" (defArgs s_law) (defBody s_law) (defScope s_law) .none kV_law dc_law pm_law an_law cd_law ct_law, fun s u => .of_eq rfl, fun base _ _ => ok_law T l_law c_law⟩
end PV
open PySem PySem.W PyProof.Rows
set_option maxRecDepth 100000 in
set_option maxHeartbeats 0 in
theorem PySem.Challenge.cw_porterlodge_k81_plain_values_holds : PySem.Challenge.rw_porterlodge_k81_plain_values.Holds := by
  w_on; o_law; k_head; (case hw => w_witness2)
  k_fill
  refine PV.law_walkK (l := PySem.Challenge.rw_porterlodge_k81_plain_values) (n := 63) (x := "script") (CX := L2.CX0) (sp := PV.spLaw) rfl (by decide) rfl (fun w h Y => PySem.W.kIn_of Y) ?F (fun _ _ a ns hl _ hS => ⟨a, ns, rfl, hS, hl, fun _ => rfl⟩) (fun _ _ _ _ z => z)
  case F =>
    intro w mg fa h KX G hmg
    refine' PV.all_mk KX G hmg ?ab_enumerate ?ab_int ?ab_isinstance ?ab_len ?ab_max ?ab_range ?ab_repr ?ab_str ?ab_tuple ?ac_LETTERS ?ac_DIGITS ?ac_SIGNS ?ac_MOST_DIGITS ?ac_MOST_LETTERS ?ac_MOST_DEEP ?ag_BadText ?xl_BadText ?xr_BadText ?sa_BadText ?ga_BadText ?gg_BadText ?eC_BadText ?tC_BadText ?kC_BadText ?hC_BadText ?iC_BadText ?an_BadText_line ?an_BadText_column ?ag_TooMany ?xl_TooMany ?xr_TooMany ?sa_TooMany ?ga_TooMany ?gg_TooMany ?eC_TooMany ?tC_TooMany ?kC_TooMany ?hC_TooMany ?iC_TooMany ?an_TooMany_limit ?ag_Reader ?pg_Reader ?hd_Reader ?po_Reader ?sa_Reader ?mi_Reader ?ki_Reader ?an_Reader_tokens ?an_Reader_number ?an_Reader_place ?an_Reader_nodes ?an_Reader_nested ?as_BadText_BadText ?as_BadText_TooMany ?as_TooMany_BadText ?as_TooMany_TooMany ?a_BadText___init__ ?t_BadText___init__ ?l_BadText___init__ ?c_BadText___init__ ?k_BadText___init__ ?a_TooMany___init__ ?t_TooMany___init__ ?l_TooMany___init__ ?c_TooMany___init__ ?k_TooMany___init__ ?a_run_end ?l_run_end ?c_run_end ?k_run_end ?a_all_tokens ?l_all_tokens ?c_all_tokens ?k_all_tokens ?a_Reader___init__ ?i_Reader___init__ ?l_Reader___init__ ?c_Reader___init__ ?k_Reader___init__ ?a_Reader_peek ?i_Reader_peek ?l_Reader_peek ?c_Reader_peek ?k_Reader_peek ?a_Reader_take ?i_Reader_take ?l_Reader_take ?c_Reader_take ?k_Reader_take ?a_Reader_next_is ?i_Reader_next_is ?l_Reader_next_is ?c_Reader_next_is ?k_Reader_next_is ?a_Reader_fail ?i_Reader_fail ?l_Reader_fail ?c_Reader_fail ?k_Reader_fail ?a_Reader_ask_end ?i_Reader_ask_end ?l_Reader_ask_end ?c_Reader_ask_end ?k_Reader_ask_end ?a_write_plain ?l_write_plain ?c_write_plain ?k_write_plain ?a_read_single ?l_read_single ?c_read_single ?k_read_single ?a_read_value ?l_read_value ?c_read_value ?k_read_value ?a_read_plain ?l_read_plain ?c_read_plain ?k_read_plain ?a_law_begin ?l_law_begin ?c_law_begin ?k_law_begin ?a_law_draw ?l_law_draw ?c_law_draw ?k_law_draw ?a_law_piece ?l_law_piece ?c_law_piece ?k_law_piece ?a_law_worth ?l_law_worth ?c_law_worth ?k_law_worth ?a_law_due ?l_law_due ?c_law_due ?k_law_due ?a_law_told ?l_law_told ?c_law_told ?k_law_told ?a_law_value_of ?l_law_value_of ?c_law_value_of ?k_law_value_of ?a_law_deep ?l_law_deep ?c_law_deep ?k_law_deep ?a_law_plain_text ?l_law_plain_text ?c_law_plain_text ?k_law_plain_text ?a_law ?l_law ?c_law
    (case ab_enumerate => k_is)
    (case ab_int => k_is)
    (case ab_isinstance => k_is)
    (case ab_len => k_is)
    (case ab_max => k_is)
    (case ab_range => k_is)
    (case ab_repr => k_is)
    (case ab_str => k_is)
    (case ab_tuple => k_is)
    (case ac_LETTERS => k_is)
    (case ac_DIGITS => k_is)
    (case ac_SIGNS => k_is)
    (case ac_MOST_DIGITS => k_is)
    (case ac_MOST_LETTERS => k_is)
    (case ac_MOST_DEEP => k_is)
    (case ag_BadText => k_is)
    (case xl_BadText => k_is)
    (case xr_BadText => decide +kernel)
    (case sa_BadText => k_is)
    (case ga_BadText => k_is)
    (case gg_BadText => k_is)
    (case eC_BadText => k_is)
    (case tC_BadText => k_is)
    (case kC_BadText => k_is)
    (case hC_BadText => k_is)
    (case iC_BadText => k_is)
    (case an_BadText_line => k_is)
    (case an_BadText_column => k_is)
    (case ag_TooMany => k_is)
    (case xl_TooMany => k_is)
    (case xr_TooMany => decide +kernel)
    (case sa_TooMany => k_is)
    (case ga_TooMany => k_is)
    (case gg_TooMany => k_is)
    (case eC_TooMany => k_is)
    (case tC_TooMany => k_is)
    (case kC_TooMany => k_is)
    (case hC_TooMany => k_is)
    (case iC_TooMany => k_is)
    (case an_TooMany_limit => k_is)
    (case ag_Reader => k_is)
    (case pg_Reader => k_is)
    (case hd_Reader => k_is)
    (case po_Reader => k_is)
    (case sa_Reader => k_is)
    (case mi_Reader => k_is)
    (case ki_Reader => k_is)
    (case an_Reader_tokens => k_is)
    (case an_Reader_number => k_is)
    (case an_Reader_place => k_is)
    (case an_Reader_nodes => k_is)
    (case an_Reader_nested => k_is)
    (case as_BadText_BadText => first | rfl | k_is)
    (case as_BadText_TooMany => first | rfl | k_is)
    (case as_TooMany_BadText => first | rfl | k_is)
    (case as_TooMany_TooMany => first | rfl | k_is)
    (case a_BadText___init__ => k_is)
    (case t_BadText___init__ => k_is)
    (case l_BadText___init__ => k_is)
    (case c_BadText___init__ => k_is)
    (case k_BadText___init__ => k_is)
    (case a_TooMany___init__ => k_is)
    (case t_TooMany___init__ => k_is)
    (case l_TooMany___init__ => k_is)
    (case c_TooMany___init__ => k_is)
    (case k_TooMany___init__ => k_is)
    (case a_run_end => k_is)
    (case l_run_end => k_is)
    (case c_run_end => k_is)
    (case k_run_end => k_is)
    (case a_all_tokens => k_is)
    (case l_all_tokens => k_is)
    (case c_all_tokens => k_is)
    (case k_all_tokens => k_is)
    (case a_Reader___init__ => k_is)
    (case i_Reader___init__ => k_is)
    (case l_Reader___init__ => k_is)
    (case c_Reader___init__ => k_is)
    (case k_Reader___init__ => k_is)
    (case a_Reader_peek => k_is)
    (case i_Reader_peek => k_is)
    (case l_Reader_peek => k_is)
    (case c_Reader_peek => k_is)
    (case k_Reader_peek => k_is)
    (case a_Reader_take => k_is)
    (case i_Reader_take => k_is)
    (case l_Reader_take => k_is)
    (case c_Reader_take => k_is)
    (case k_Reader_take => k_is)
    (case a_Reader_next_is => k_is)
    (case i_Reader_next_is => k_is)
    (case l_Reader_next_is => k_is)
    (case c_Reader_next_is => k_is)
    (case k_Reader_next_is => k_is)
    (case a_Reader_fail => k_is)
    (case i_Reader_fail => k_is)
    (case l_Reader_fail => k_is)
    (case c_Reader_fail => k_is)
    (case k_Reader_fail => k_is)
    (case a_Reader_ask_end => k_is)
    (case i_Reader_ask_end => k_is)
    (case l_Reader_ask_end => k_is)
    (case c_Reader_ask_end => k_is)
    (case k_Reader_ask_end => k_is)
    (case a_write_plain => k_is)
    (case l_write_plain => k_is)
    (case c_write_plain => k_is)
    (case k_write_plain => k_is)
    (case a_read_single => k_is)
    (case l_read_single => k_is)
    (case c_read_single => k_is)
    (case k_read_single => k_is)
    (case a_read_value => k_is)
    (case l_read_value => k_is)
    (case c_read_value => k_is)
    (case k_read_value => k_is)
    (case a_read_plain => k_is)
    (case l_read_plain => k_is)
    (case c_read_plain => k_is)
    (case k_read_plain => k_is)
    (case a_law_begin => k_is)
    (case l_law_begin => k_is)
    (case c_law_begin => k_is)
    (case k_law_begin => k_is)
    (case a_law_draw => k_is)
    (case l_law_draw => k_is)
    (case c_law_draw => k_is)
    (case k_law_draw => k_is)
    (case a_law_piece => k_is)
    (case l_law_piece => k_is)
    (case c_law_piece => k_is)
    (case k_law_piece => k_is)
    (case a_law_worth => k_is)
    (case l_law_worth => k_is)
    (case c_law_worth => k_is)
    (case k_law_worth => k_is)
    (case a_law_due => k_is)
    (case l_law_due => k_is)
    (case c_law_due => k_is)
    (case k_law_due => k_is)
    (case a_law_told => k_is)
    (case l_law_told => k_is)
    (case c_law_told => k_is)
    (case k_law_told => k_is)
    (case a_law_value_of => k_is)
    (case l_law_value_of => k_is)
    (case c_law_value_of => k_is)
    (case k_law_value_of => k_is)
    (case a_law_deep => k_is)
    (case l_law_deep => k_is)
    (case c_law_deep => k_is)
    (case k_law_deep => k_is)
    (case a_law_plain_text => k_is)
    (case l_law_plain_text => k_is)
    (case c_law_plain_text => k_is)
    (case k_law_plain_text => k_is)
    (case a_law => k_is)
    (case l_law => k_is)
    (case c_law => k_is)
