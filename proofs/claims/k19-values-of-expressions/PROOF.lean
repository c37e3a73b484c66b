import PyProof.Rows.All
import Wide.All
import OpenK.AllK
import Wide.FinOn
import HandS.Text
import HandS.Codes
import HandS.Base
import HandS.Call
import HandS.List
import HandS.Comp
import HandS.Ends
import HandS.Words
import HandS.WordsList
import HandS.Wide
import HandS.IsInst
import HandS.Conv
import HandS.Iter
import HandS.WordsExc
import HandS.Zip
import HandS.WideBits
import HandS.Sort
import HandS.ExcIs
import HandS.TryOnly
import HandS.ExcOwn
import HandS.SetFor
import HandS.ExcCtx
import HandS.HotCalls
import HandS.RaiseMore
import HandS.Style
import HandS.CallLocal
import HandS.Exc
import HandS.Dict
import HandS.Strs
import HandS.Set
import HandS.DictComp
import HandS.More
import PySem.Challenge.RW_paperwright_k19_values_of_expressions
set_option Elab.async false
set_option linter.all false
set_option maxRecDepth 100000
set_option maxHeartbeats 4000000
set_option maxHeartbeats 1000000
/-! Xp: expressions, their texts, the reader of texts, as plain Lean over lists of code points -/
namespace Xp
open PySem L2
abbrev T := List Nat
/-- an expression; a sum's sign by its code point: 43 +, 45 -, 42 *, 47 / -/
inductive Ep where
  | num (n : Nat)
  | name (w : T)
  | two (s : Nat) (l r : Ep)
  | pow (b : Ep) (n : Nat)
  | less (e : Ep)
deriving DecidableEq, Inhabited
def bindS (s : Nat) : Nat := if s = 43 ∨ s = 45 then 0 else 1
def binds : Ep → Nat
  | .num _ => 4
  | .name _ => 4
  | .two s _ _ => bindS s
  | .pow _ _ => 3
  | .less _ => 2
/-- in brackets where it binds less than it has to -/
def br (b least : Nat) (t : T) : T := if b < least then 40 :: (t ++ [41]) else t
/-- the text of an expression -/
def sh : Ep → T
  | .num n => TL.numL n
  | .name w => w
  | .two s l r => br (binds l) (bindS s) (sh l) ++ 32 :: s :: 32 :: br (binds r) (bindS s + 1) (sh r)
  | .pow b n => br (binds b) 4 (sh b) ++ 94 :: TL.numL n
  | .less e => 45 :: br (binds e) 2 (sh e)
def isFig (c : Nat) : Bool := 48 ≤ c && c ≤ 57
def isLet (c : Nat) : Bool := 97 ≤ c && c ≤ 122
/-- figures' worth -/
def valL (l : T) : Nat := l.foldl (fun a c => a * 10 + (c - 48)) 0
/-! ### the reader -/
def runL (p : Nat → Bool) (most : Nat) (l : T) : Option T := let w := l.takeWhile p; if w = [] ∨ most < w.length then none else some w
def wholeL (most : Nat) (l : T) : Option T := match runL isFig most l with
  | none => none
  | some w => if 1 < w.length ∧ w.head? = some 48 then none else some w
abbrev Rd := T → Option (Ep × Nat)
def atomL (sub : Option Rd) (l : T) : Option (Ep × Nat) :=
  if l.head? = some 40 then
    match sub with
    | none => none
    | some p => match p (l.drop 1) with
      | none => none
      | some (e, n) => if (l.drop (1 + n)).head? = some 41 then some (e, 1 + n + 1) else none
  else if l.head?.any isFig then
    match wholeL 30 l with
    | none => none
    | some w => some (.num (valL w), w.length)
  else match runL isLet 8 l with
    | none => none
    | some w => some (.name w, w.length)
def powerL (sub : Option Rd) (l : T) : Option (Ep × Nat) := match atomL sub l with
  | none => none
  | some (e, n) => if (l.drop n).head? = some 94 then
      match wholeL 2 (l.drop (n + 1)) with
      | none => none
      | some w => if 12 < valL w then none else some (.pow e (valL w), n + 1 + w.length)
    else some (e, n)
def lessN : Nat → Ep → Ep
  | 0, e => e
  | k + 1, e => .less (lessN k e)
def minuses (l : T) : Nat := (l.takeWhile (fun c => c == 45)).length
def factorL (sub : Option Rd) (l : T) : Option (Ep × Nat) :=
  if 30 < minuses l then none else match powerL sub (l.drop (minuses l)) with
    | none => none
    | some (e, n) => some (lessN (minuses l) e, minuses l + n)
/-- a sign of these between blanks stands ahead -/
def ahead (ss : List Nat) : T → Option Nat
  | 32 :: s :: 32 :: _ => if s ∈ ss then some s else none
  | _ => none
def rowGo (ss : List Nat) (p : Rd) : Nat → T → Ep → Nat → Option (Ep × Nat)
  | 0, _, _, _ => none
  | k + 1, l, e, n => match ahead ss l with
    | none => some (e, n)
    | some s => match p (l.drop 3) with
      | none => none
      | some (f, m) => rowGo ss p k (l.drop (3 + m)) (.two s e f) (n + (3 + m))
def rowL (ss : List Nat) (p : Rd) (l : T) : Option (Ep × Nat) := match p l with
  | none => none
  | some (e, n) => rowGo ss p (l.length + 1) (l.drop n) e n
def termL (sub : Option Rd) : Rd := rowL [42, 47] (factorL sub)
def sumL (sub : Option Rd) : Rd := rowL [43, 45] (termL sub)
def pS : Nat → Rd
  | 0 => sumL none
  | r + 1 => sumL (some (pS r))
/-- what the brackets within are read by, where r more may be open -/
def subL : Nat → Option Rd
  | 0 => none
  | r + 1 => some (pS r)
theorem pS_eq (r : Nat) : pS r = sumL (subL r) := by cases r <;> rfl
def readL (l : T) : Option Ep := if 1000 < l.length then none else match pS 30 l with
  | none => none
  | some (e, n) => if n = l.length then some e else none
/-! ### the grammar -/
def WName (w : T) : Prop := w ≠ [] ∧ w.length ≤ 8 ∧ ∀ c ∈ w, isLet c = true
inductive G : Nat → Nat → T → Ep → Prop
  | num {r n : Nat} : (TL.numL n).length ≤ 30 → G r 4 (TL.numL n) (.num n)
  | name {r : Nat} {w : T} : WName w → G r 4 w (.name w)
  | par {r : Nat} {t : T} {e : Ep} : G r 0 t e → G (r + 1) 4 (40 :: (t ++ [41])) e
  | pow {r n : Nat} {t : T} {e : Ep} : G r 4 t e → n ≤ 12 → G r 3 (t ++ 94 :: TL.numL n) (.pow e n)
  | atom {r : Nat} {t : T} {e : Ep} : G r 4 t e → G r 3 t e
  | fac {r k : Nat} {t : T} {e : Ep} : G r 3 t e → k ≤ 30 → G r 2 (List.replicate k 45 ++ t) (lessN k e)
  | term {r : Nat} {t : T} {e : Ep} : G r 2 t e → G r 1 t e
  | mul {r s : Nat} {t u : T} {e f : Ep} : G r 1 t e → G r 2 u f → s = 42 ∨ s = 47 → G r 1 (t ++ 32 :: s :: 32 :: u) (.two s e f)
  | sum {r : Nat} {t : T} {e : Ep} : G r 1 t e → G r 0 t e
  | add {r s : Nat} {t u : T} {e f : Ep} : G r 0 t e → G r 1 u f → s = 43 ∨ s = 45 → G r 0 (t ++ 32 :: s :: 32 :: u) (.two s e f)
/-! ### what is written is read -/
theorem takeWhile_all {p : Nat → Bool} : ∀ {w : T} {rest : T}, (∀ c ∈ w, p c = true) → (∀ c, rest.head? = some c → p c = false) → (w ++ rest).takeWhile p = w
  | [], [], _, _ => rfl
  | [], c :: rest, _, h => by rw [List.nil_append, List.takeWhile_cons_of_neg (by rw [h c rfl]; decide)]
  | c :: w, rest, h, k => by
    rw [List.cons_append, List.takeWhile_cons_of_pos (h c List.mem_cons_self), takeWhile_all (fun c hc => h c (List.mem_cons_of_mem _ hc)) k]
theorem fig_of {n c : Nat} (h : c ∈ TL.numL n) : isFig c = true := by
  have := TL.numL_digits n c h
  unfold isFig; simp; omega
theorem valL_num (n : Nat) : valL (TL.numL n) = n := TL.numL_val n
theorem head_num (n : Nat) : ∃ c w, TL.numL n = c :: w ∧ isFig c = true := by
  cases h : TL.numL n with
  | nil => exact absurd h (TL.numL_ne n)
  | cons c w => exact ⟨c, w, rfl, fig_of (n := n) (by rw [h]; exact List.mem_cons_self)⟩
theorem numL_zero_head : ∀ (n : Nat), 1 < (TL.numL n).length → (TL.numL n).head? ≠ some 48 := fun n => by
  induction n using Nat.strongRecOn with
  | _ n ih =>
    intro hl hh
    by_cases h : n < 10
    · rw [TL.numL_lt h] at hl; simp at hl
    · rw [TL.numL_step (by omega)] at hh
      cases q : TL.numL (n / 10) with
      | nil => exact absurd q (TL.numL_ne _)
      | cons c w =>
        rw [q] at hh
        have hc : c = 48 := by simpa using hh
        by_cases h1 : n / 10 < 10
        · rw [TL.numL_lt h1] at q
          have : 48 + n / 10 = c := by simpa using congrArg List.head? q
          omega
        · refine ih (n / 10) (by omega) ?_ (by rw [q, hc]; rfl)
          have := TL.numL_step (n := n / 10) (by omega)
          rw [this, List.length_append]
          have := List.length_pos_iff.mpr (TL.numL_ne (n / 10 / 10))
          simp; omega
/-- no run goes on -/
def Stop (rest : T) : Prop := ∀ c, rest.head? = some c → isFig c = false ∧ isLet c = false
def Stop3 (rest : T) : Prop := Stop rest ∧ rest.head? ≠ some 94
theorem run_ok {p : Nat → Bool} {most : Nat} {w rest : T} (h : ∀ c ∈ w, p c = true) (k : ∀ c, rest.head? = some c → p c = false) (h0 : w ≠ []) (hl : w.length ≤ most) : runL p most (w ++ rest) = some w := by
  unfold runL
  rw [takeWhile_all h k]
  dsimp only
  rw [if_neg (by intro z; rcases z with z | z; exact h0 z; omega)]
theorem whole_ok {most n : Nat} {rest : T} (hr : ∀ c, rest.head? = some c → isFig c = false) (hl : (TL.numL n).length ≤ most) : wholeL most (TL.numL n ++ rest) = some (TL.numL n) := by
  unfold wholeL
  rw [run_ok (fun c hc => fig_of hc) hr (TL.numL_ne n) hl]
  dsimp only
  rw [if_neg (fun z => numL_zero_head n z.1 z.2)]
theorem ahead_none {ss : List Nat} {c : Nat} {l : T} (h : c ≠ 32) : ahead ss (c :: l) = none := by
  unfold ahead
  split
  · rename_i e; cases e; exact absurd rfl h
  · rfl
/-- turns left over change nothing -/
theorem rowGo_fuel (ss : List Nat) (p : Rd) : ∀ (k k' : Nat) (l : T) (e : Ep) (n : Nat), l.length < k → l.length < k' → rowGo ss p k l e n = rowGo ss p k' l e n
  | 0, _, _, _, _, h, _ => by omega
  | _ + 1, 0, _, _, _, _, h => by omega
  | k + 1, k' + 1, l, e, n, h, h' => by
    unfold rowGo
    cases ha : ahead ss l with
    | none => rfl
    | some s =>
      dsimp only
      cases hp : p (l.drop 3) with
      | none => rfl
      | some q =>
        obtain ⟨f, m⟩ := q
        dsimp only
        have hl : l ≠ [] := fun z => by rw [z] at ha; cases ha
        have : 0 < l.length := List.length_pos_iff.mpr hl
        exact rowGo_fuel ss p k k' _ _ _ (by rw [List.length_drop]; omega) (by rw [List.length_drop]; omega)
theorem G_head {r lvl : Nat} {t : T} {e : Ep} (g : G r lvl t e) : 3 ≤ lvl → ∃ c w, t = c :: w ∧ c ≠ 45 := by
  induction g with
  | @num r n _ => intro _; obtain ⟨c, w, h, f⟩ := head_num n; exact ⟨c, w, h, fun z => by rw [z] at f; exact absurd f (by decide)⟩
  | @name r w hw =>
    intro _
    cases w with
    | nil => exact absurd rfl hw.1
    | cons c w => exact ⟨c, w, rfl, fun z => by have := hw.2.2 c List.mem_cons_self; rw [z] at this; exact absurd this (by decide)⟩
  | par _ _ => intro _; exact ⟨_, _, rfl, by decide⟩
  | pow _ _ ih => intro _; obtain ⟨c, w, h, f⟩ := ih (by omega); exact ⟨c, w ++ _, by rw [h]; rfl, f⟩
  | atom _ ih => intro _; exact ih (by omega)
  | _ => intro h; omega
theorem minuses_rep {t : T} (h : t.head? ≠ some 45) : ∀ k, minuses (List.replicate k 45 ++ t) = k
  | 0 => by
    unfold minuses
    cases t with
    | nil => rfl
    | cons c t =>
      show (List.takeWhile (fun c => c == 45) (c :: t)).length = 0
      rw [List.takeWhile_cons_of_neg (by simpa using h)]; rfl
  | k + 1 => by
    have := minuses_rep h k
    unfold minuses at this ⊢
    rw [List.replicate_succ, List.cons_append, List.takeWhile_cons_of_pos (by decide), List.length_cons, this]
def Ok (r lvl : Nat) (t : T) (e : Ep) : Prop := match lvl with
  | 4 => ∀ rest, Stop rest → atomL (subL r) (t ++ rest) = some (e, t.length)
  | 3 => ∀ rest, Stop3 rest → powerL (subL r) (t ++ rest) = some (e, t.length)
  | 2 => ∀ rest, Stop3 rest → factorL (subL r) (t ++ rest) = some (e, t.length)
  | 1 => ∀ rest, Stop3 rest → termL (subL r) (t ++ rest) = rowGo [42, 47] (factorL (subL r)) (rest.length + 1) rest e t.length
  | 0 => ∀ rest, Stop3 rest → ahead [42, 47] rest = none → sumL (subL r) (t ++ rest) = rowGo [43, 45] (termL (subL r)) (rest.length + 1) rest e t.length
  | _ => True
theorem stop3_blank {l : T} : Stop3 (32 :: l) := ⟨fun c h => by cases h; decide, by simp⟩
theorem row_step {ss : List Nat} {p : Rd} {t u rest : T} {e f : Ep} {s : Nat} (hs : s ∈ ss) (h1 : rowL ss p (t ++ (32 :: s :: 32 :: (u ++ rest))) = rowGo ss p ((32 :: s :: 32 :: (u ++ rest)).length + 1) (32 :: s :: 32 :: (u ++ rest)) e t.length)
    (h2 : p (u ++ rest) = some (f, u.length)) : rowL ss p ((t ++ 32 :: s :: 32 :: u) ++ rest) = rowGo ss p (rest.length + 1) rest (.two s e f) (t ++ 32 :: s :: 32 :: u).length := by
  have ea : ahead ss (32 :: s :: 32 :: (u ++ rest)) = some s := by show (if s ∈ ss then some s else none) = _; rw [if_pos hs]
  have e1 : (t ++ 32 :: s :: 32 :: u) ++ rest = t ++ (32 :: s :: 32 :: (u ++ rest)) := by simp
  rw [e1, h1, rowGo, ea]
  dsimp only
  rw [show (32 :: s :: 32 :: (u ++ rest)).drop 3 = u ++ rest from rfl, h2]
  dsimp only
  rw [show (32 :: s :: 32 :: (u ++ rest)).drop (3 + u.length) = rest from by
    rw [← List.drop_drop, show (32 :: s :: 32 :: (u ++ rest)).drop 3 = u ++ rest from rfl, List.drop_left]]
  rw [show (t ++ 32 :: s :: 32 :: u).length = t.length + (3 + u.length) from by simp; omega]
  exact rowGo_fuel _ _ _ _ _ _ _ (by simp; omega) (by omega)
theorem G_ok {r lvl : Nat} {t : T} {e : Ep} (g : G r lvl t e) : Ok r lvl t e := by
  induction g with
  | @num r n hn =>
    intro rest hs
    obtain ⟨c, w, h, f⟩ := head_num n
    unfold atomL
    rw [if_neg (by rw [h]; intro z; have : c = 40 := by simpa using z
                   rw [this] at f; exact absurd f (by decide)), if_pos (by rw [h]; simpa using f), whole_ok (fun c hc => (hs c hc).1) hn]
    dsimp only
    rw [valL_num]
  | @name r w hw =>
    intro rest hs
    obtain ⟨h0, h8, hl⟩ := hw
    have hd : ∃ c v, w = c :: v := by cases w with
      | nil => exact absurd rfl h0
      | cons c v => exact ⟨c, v, rfl⟩
    obtain ⟨c, v, hc⟩ := hd
    have f := hl c (by rw [hc]; exact List.mem_cons_self)
    unfold atomL
    rw [if_neg (by rw [hc]; intro z; have : c = 40 := by simpa using z
                   rw [this] at f; exact absurd f (by decide)), if_neg (by
        rw [hc]; intro z; have : isFig c = true := by simpa using z
        unfold isFig at this; unfold isLet at f; simp at this f; omega), run_ok hl (fun c hc => (hs c hc).2) h0 h8]
  | @par r t e g ih =>
    intro rest hs
    unfold atomL
    rw [if_pos (by rfl)]
    have e1 : (40 :: (t ++ [41]) ++ rest).drop 1 = t ++ (41 :: rest) := by simp
    have h41 : Stop3 (41 :: rest) := ⟨fun c h => by cases h; decide, by simp⟩
    have k := ih (41 :: rest) h41 (ahead_none (by decide))
    have k2 : pS r (t ++ (41 :: rest)) = some (e, t.length) := by
      rw [pS_eq, k, rowGo, ahead_none (by decide)]
    show (match pS r ((40 :: (t ++ [41]) ++ rest).drop 1) with | none => none | some (e, n) => _) = _
    rw [e1, k2]
    dsimp only
    rw [← List.drop_drop, e1, List.drop_left, if_pos (by rfl)]
    simp; omega
  | @pow r n t e g hn ih =>
    intro rest hs
    have k := ih (94 :: (TL.numL n ++ rest)) (fun c h => by cases h; decide)
    have hl : (TL.numL n).length ≤ 2 := TL.numL_len (by decide) (by omega)
    unfold powerL
    rw [show (t ++ 94 :: TL.numL n) ++ rest = t ++ (94 :: (TL.numL n ++ rest)) from by simp, k]
    dsimp only
    rw [List.drop_left, if_pos (by rfl), ← List.drop_drop, List.drop_left, show (94 :: (TL.numL n ++ rest)).drop 1 = TL.numL n ++ rest from rfl, whole_ok (fun c hc => (hs.1 c hc).1) hl]
    dsimp only
    rw [valL_num, if_neg (by omega)]
    simp; omega
  | @atom r t e g ih =>
    intro rest hs
    unfold powerL
    rw [ih rest hs.1]
    dsimp only
    rw [List.drop_left, if_neg hs.2]
  | @fac r k t e g hk ih =>
    intro rest hs
    obtain ⟨c, w, h, hc⟩ := G_head g (by omega)
    have hm : minuses (List.replicate k 45 ++ t ++ rest) = k := by
      rw [List.append_assoc]
      exact minuses_rep (by rw [h]; simpa using hc) k
    unfold factorL
    have hd : (List.replicate k 45 ++ t ++ rest).drop k = t ++ rest := by rw [List.append_assoc]; exact List.drop_left' (by simp)
    rw [hm, if_neg (by omega), hd]
    rw [ih rest hs]
    simp
  | @term r t e g ih =>
    intro rest hs
    unfold termL rowL
    rw [ih rest hs]
    dsimp only
    rw [List.drop_left]
    exact rowGo_fuel _ _ _ _ _ _ _ (by simp; omega) (by omega)
  | @mul r s t u e f g1 g2 hs' ih1 ih2 =>
    intro rest hs
    exact row_step (by rcases hs' with h | h <;> simp [h]) (ih1 _ stop3_blank) (ih2 rest hs)
  | @sum r t e g ih =>
    intro rest hs ha
    have k := ih rest hs
    rw [rowGo, ha] at k
    unfold sumL rowL
    rw [k]
    dsimp only
    rw [List.drop_left]
    exact rowGo_fuel _ _ _ _ _ _ _ (by simp; omega) (by omega)
  | @add r s t u e f g1 g2 hs' ih1 ih2 =>
    intro rest hs ha
    have k := ih2 rest hs
    rw [rowGo, ha] at k
    exact row_step (by rcases hs' with h | h <;> simp [h]) (ih1 _ stop3_blank (by show (if s ∈ [42, 47] then some s else none) = _; rw [if_neg (by rcases hs' with h | h <;> simp [h])])) k
/-- what the grammar writes is read so -/
theorem read_ok {t : T} {e : Ep} (g : G 30 0 t e) (hl : t.length ≤ 1000) : readL t = some e := by
  have k := G_ok g [] ⟨fun c h => (by cases h), by simp⟩ rfl
  rw [List.append_nil] at k
  unfold readL
  rw [if_neg (by omega), pS_eq, k]
  show (if t.length = t.length then some e else none) = some e
  rw [if_pos rfl]
/-! ### an expression's own text -/
def size : Ep → Nat
  | .num _ => 1
  | .name _ => 1
  | .two _ l r => size l + size r + 1
  | .pow b _ => size b + 1
  | .less e => size e + 1
/-- what can be written -/
def Wf : Ep → Prop
  | .num n => (TL.numL n).length ≤ 30
  | .name w => WName w
  | .two s l r => (s = 43 ∨ s = 45 ∨ s = 42 ∨ s = 47) ∧ Wf l ∧ Wf r
  | .pow b n => Wf b ∧ n ≤ 12
  | .less e => Wf e
theorem G_up {r : Nat} {t : T} {e : Ep} : ∀ {a : Nat} (b : Nat), a ≤ 4 → b ≤ a → G r a t e → G r b t e := fun {a} b h4 hb g => by
  have up3 : G r 4 t e → G r 3 t e := fun g => .atom g
  have up2 : G r 3 t e → G r 2 t e := fun g => G.fac (k := 0) g (by omega)
  have up1 : G r 2 t e → G r 1 t e := fun g => .term g
  have up0 : G r 1 t e → G r 0 t e := fun g => .sum g
  have ha : a = 0 ∨ a = 1 ∨ a = 2 ∨ a = 3 ∨ a = 4 := by omega
  have hb' : b = 0 ∨ b = 1 ∨ b = 2 ∨ b = 3 ∨ b = 4 := by omega
  rcases ha with rfl | rfl | rfl | rfl | rfl <;> rcases hb' with rfl | rfl | rfl | rfl | rfl <;>
    first | exact g | exact up3 g | exact up2 g | exact up1 g | exact up0 g | exact up2 (up3 g) | exact up1 (up2 g) | exact up0 (up1 g) | exact up1 (up2 (up3 g)) | exact up0 (up1 (up2 g)) | exact up0 (up1 (up2 (up3 g))) | omega
theorem G_more {r lvl : Nat} {t : T} {e : Ep} (g : G r lvl t e) : ∀ r', r ≤ r' → G r' lvl t e := by
  induction g with
  | num h => intro r' _; exact .num h
  | name h => intro r' _; exact .name h
  | @par r t e g ih => intro r' hr; obtain ⟨q, rfl⟩ : ∃ q, r' = q + 1 := ⟨r' - 1, by omega⟩; exact .par (ih q (by omega))
  | pow _ hn ih => intro r' hr; exact .pow (ih r' hr) hn
  | atom _ ih => intro r' hr; exact .atom (ih r' hr)
  | fac _ hk ih => intro r' hr; exact .fac (ih r' hr) hk
  | term _ ih => intro r' hr; exact .term (ih r' hr)
  | mul _ _ hs i1 i2 => intro r' hr; exact .mul (i1 r' hr) (i2 r' hr) hs
  | sum _ ih => intro r' hr; exact .sum (ih r' hr)
  | add _ _ hs i1 i2 => intro r' hr; exact .add (i1 r' hr) (i2 r' hr) hs
theorem binds_le (e : Ep) : binds e ≤ 4 := by cases e <;> simp [binds, bindS]; split <;> omega
/-- in brackets where needed -/
theorem G_br {r b least : Nat} {t : T} {e : Ep} (hb : b ≤ 4) (hl : least ≤ 4) (g : G r b t e) : G (r + 1) least (br b least t) e := by
  unfold br
  by_cases h : b < least
  · rw [if_pos h]; exact G_up least (by omega) hl (.par (G_up 0 hb (by omega) g))
  · rw [if_neg h]; exact G_up least hb (by omega) (G_more g _ (by omega))
/-- less chains -/
def chain : Ep → Nat × Ep
  | .less e => let q := chain e; (q.1 + 1, q.2)
  | e => (0, e)
theorem chain_eq : ∀ e : Ep, e = lessN (chain e).1 (chain e).2
  | .less e => by show Ep.less e = Ep.less (lessN (chain e).1 (chain e).2); rw [← chain_eq e]
  | .num _ => rfl
  | .name _ => rfl
  | .two _ _ _ => rfl
  | .pow _ _ => rfl
def isLess : Ep → Bool
  | .less _ => true
  | _ => false
theorem chain_core : ∀ e : Ep, isLess (chain e).2 = false
  | .less e => chain_core e
  | .num _ => rfl
  | .name _ => rfl
  | .two _ _ _ => rfl
  | .pow _ _ => rfl
theorem sh_lessN (c : Ep) : ∀ k, sh (lessN (k + 1) c) = List.replicate (k + 1) 45 ++ br (binds c) 2 (sh c)
  | 0 => rfl
  | k + 1 => by
    have := sh_lessN c k
    show 45 :: br (binds (lessN (k + 1) c)) 2 (sh (lessN (k + 1) c)) = _
    rw [this]; rfl
theorem size_lessN (c : Ep) : ∀ k, size (lessN k c) = size c + k
  | 0 => rfl
  | k + 1 => by show size (lessN k c) + 1 = _; rw [size_lessN c k]; omega
theorem wf_lessN (c : Ep) : ∀ k, Wf (lessN k c) → Wf c
  | 0, h => h
  | k + 1, h => wf_lessN c k h
theorem binds_core {e : Ep} (h : isLess e = false) : binds e = 0 ∨ binds e = 1 ∨ 3 ≤ binds e := by
  cases e with
  | less e => cases h
  | two s l r =>
    show bindS s = 0 ∨ bindS s = 1 ∨ 3 ≤ bindS s
    unfold bindS
    by_cases q : s = 43 ∨ s = 45
    · rw [if_pos q]; omega
    · rw [if_neg q]; omega
  | _ => simp [binds]
/-- an expression's own text writes it -/
theorem G_sh : ∀ (n : Nat) (e : Ep), size e ≤ n → n ≤ 30 → Wf e → G n (binds e) (sh e) e
  | 0, e, h, _, _ => by cases e <;> simp [size] at h
  | n + 1, e, h, hn, w => by
    have ih := G_sh n
    cases e with
    | num m => exact .num w
    | name v => exact .name w
    | pow b m =>
      exact .pow (G_br (binds_le b) (by omega) (ih b (by simp [size] at h; omega) (by omega) w.1)) w.2
    | two s l r =>
      obtain ⟨hs, wl, wr⟩ := w
      have hl := ih l (by simp [size] at h; omega) (by omega) wl
      have hr := ih r (by simp [size] at h; omega) (by omega) wr
      have gl := G_br (least := bindS s) (binds_le l) (by unfold bindS; split <;> omega) hl
      have gr := G_br (least := bindS s + 1) (binds_le r) (by unfold bindS; split <;> omega) hr
      show G (n + 1) (bindS s) _ _
      by_cases q : s = 43 ∨ s = 45
      · have e0 : bindS s = 0 := by unfold bindS; rw [if_pos q]
        rw [e0] at gl gr ⊢
        show G (n + 1) 0 (br (binds l) (bindS s) (sh l) ++ 32 :: s :: 32 :: br (binds r) (bindS s + 1) (sh r)) _
        rw [e0]
        exact .add gl gr q
      · have e0 : bindS s = 1 := by unfold bindS; rw [if_neg q]
        rw [e0] at gl gr ⊢
        show G (n + 1) 1 (br (binds l) (bindS s) (sh l) ++ 32 :: s :: 32 :: br (binds r) (bindS s + 1) (sh r)) _
        rw [e0]
        exact .mul gl gr (by rcases hs with z | z | z | z <;> simp_all)
    | less b =>
      have hc := chain_eq (.less b)
      have hcore := chain_core (.less b)
      generalize hq : chain (.less b) = q at hc hcore
      obtain ⟨k, c⟩ := q
      dsimp only at hc hcore
      have hk : ∃ j, k = j + 1 := by
        cases k with
        | zero => have : c = .less b := hc.symm
                  rw [this] at hcore; cases hcore
        | succ j => exact ⟨j, rfl⟩
      obtain ⟨j, rfl⟩ := hk
      rw [hc] at h w ⊢
      rw [size_lessN] at h
      have g := ih c (by omega) (by omega) (wf_lessN c _ w)
      have g2 : G (n + 1) 3 (br (binds c) 2 (sh c)) c := by
        rcases binds_core hcore with z | z | z
        · have := G_br (least := 2) (binds_le c) (by omega) g
          rw [z] at g ⊢
          exact G_up (a := 4) 3 (by omega) (by omega) (.par g)
        · rw [z] at g ⊢
          exact G_up (a := 4) 3 (by omega) (by omega) (.par (G_up 0 (by omega) (by omega) g))
        · unfold br
          rw [if_neg (by omega)]
          exact G_more (G_up 3 (binds_le c) z g) _ (by omega)
      rw [sh_lessN]
      exact .fac g2 (by omega)
end Xp

set_option maxHeartbeats 1000000
/-! Xp: what a reader has read lies within the text -/
namespace Xp
open PySem L2
theorem tw_le {p : Nat → Bool} : ∀ l : T, (l.takeWhile p).length ≤ l.length
  | [] => Nat.le_refl _
  | c :: l => by
    by_cases h : p c = true
    · rw [List.takeWhile_cons_of_pos h]; simp; exact tw_le l
    · rw [List.takeWhile_cons_of_neg h]; simp
theorem tw_take {p : Nat → Bool} : ∀ l : T, l.take (l.takeWhile p).length = l.takeWhile p
  | [] => rfl
  | c :: l => by
    by_cases h : p c = true
    · rw [List.takeWhile_cons_of_pos h, List.length_cons, List.take_succ_cons, tw_take l]
    · rw [List.takeWhile_cons_of_neg h]; rfl
theorem tw_all {p : Nat → Bool} : ∀ l : T, ∀ c ∈ l.takeWhile p, p c = true
  | [], c, h => by simp at h
  | d :: l, c, h => by
    by_cases hd : p d = true
    · rw [List.takeWhile_cons_of_pos hd] at h
      rcases List.mem_cons.mp h with rfl | h
      · exact hd
      · exact tw_all l c h
    · rw [List.takeWhile_cons_of_neg hd] at h; simp at h
/-- whether the run goes on at a place within it or just behind -/
theorem tw_at {p : Nat → Bool} : ∀ (l : T) (x : Nat), x ≤ (l.takeWhile p).length → ((decide (x < l.length)) && (p (l.getD x 0))) = decide (x < (l.takeWhile p).length)
  | [], x, h => by simp
  | c :: l, 0, h => by
    by_cases hc : p c = true
    · rw [List.takeWhile_cons_of_pos hc]; simp [hc]
    · rw [List.takeWhile_cons_of_neg hc]; simpa using hc
  | c :: l, x + 1, h => by
    by_cases hc : p c = true
    · rw [List.takeWhile_cons_of_pos hc] at h ⊢
      have := tw_at l x (by simpa using h)
      simpa using this
    · rw [List.takeWhile_cons_of_neg hc] at h; simp at h
theorem runL_some {p : Nat → Bool} {most : Nat} {l w : T} (h : runL p most l = some w) : w = l.takeWhile p ∧ w ≠ [] ∧ w.length ≤ most ∧ w.length ≤ l.length ∧ (∀ c ∈ w, p c = true) := by
  unfold runL at h
  dsimp only at h
  by_cases q : l.takeWhile p = [] ∨ most < (l.takeWhile p).length
  · rw [if_pos q] at h; cases h
  · rw [if_neg q] at h; cases h
    exact ⟨rfl, fun z => q (.inl z), Nat.le_of_not_lt fun z => q (.inr z), tw_le l, tw_all l⟩
theorem wholeL_some {most : Nat} {l w : T} (h : wholeL most l = some w) : w ≠ [] ∧ w.length ≤ most ∧ w.length ≤ l.length ∧ (∀ c ∈ w, isFig c = true) := by
  unfold wholeL at h
  cases q : runL isFig most l with
  | none => rw [q] at h; cases h
  | some v =>
    rw [q] at h
    dsimp only at h
    by_cases z : 1 < v.length ∧ v.head? = some 48
    · rw [if_pos z] at h; cases h
    · rw [if_neg z] at h; cases h
      exact (runL_some q).2
def Bd (p : Rd) : Prop := ∀ l e n, p l = some (e, n) → n ≤ l.length
theorem atomL_bd {sub : Option Rd} (hs : ∀ p, sub = some p → Bd p) : Bd (atomL sub) := fun l e n h => by
  unfold atomL at h
  by_cases h1 : l.head? = some 40
  · rw [if_pos h1] at h
    cases sub with
    | none => cases h
    | some p =>
      dsimp only at h
      cases q : p (l.drop 1) with
      | none => rw [q] at h; cases h
      | some r =>
        obtain ⟨f, m⟩ := r
        rw [q] at h
        dsimp only at h
        by_cases h2 : (l.drop (1 + m)).head? = some 41
        · rw [if_pos h2] at h; cases h
          have : l.drop (1 + m) ≠ [] := fun z => by rw [z] at h2; cases h2
          have := List.length_pos_iff.mpr this
          rw [List.length_drop] at this; omega
        · rw [if_neg h2] at h; cases h
  · rw [if_neg h1] at h
    by_cases h2 : l.head?.any isFig
    · rw [if_pos h2] at h
      cases q : wholeL 30 l with
      | none => rw [q] at h; cases h
      | some w => rw [q] at h; cases h; exact (wholeL_some q).2.2.1
    · rw [if_neg h2] at h
      cases q : runL isLet 8 l with
      | none => rw [q] at h; cases h
      | some w => rw [q] at h; cases h; exact (runL_some q).2.2.2.1
theorem powerL_bd {sub : Option Rd} (hs : Bd (atomL sub)) : Bd (powerL sub) := fun l e n h => by
  unfold powerL at h
  cases q : atomL sub l with
  | none => rw [q] at h; cases h
  | some r =>
    obtain ⟨f, m⟩ := r
    rw [q] at h
    dsimp only at h
    by_cases h1 : (l.drop m).head? = some 94
    · rw [if_pos h1] at h
      cases q2 : wholeL 2 (l.drop (m + 1)) with
      | none => rw [q2] at h; cases h
      | some w =>
        rw [q2] at h
        dsimp only at h
        by_cases h2 : 12 < valL w
        · rw [if_pos h2] at h; cases h
        · rw [if_neg h2] at h; cases h
          have h3 := (wholeL_some q2).2.2.1
          have h4 := (wholeL_some q2).1
          have := List.length_pos_iff.mpr h4
          rw [List.length_drop] at h3; omega
    · rw [if_neg h1] at h; cases h; exact hs _ _ _ q
theorem minuses_le (l : T) : minuses l ≤ l.length := tw_le l
theorem factorL_bd {sub : Option Rd} (hs : Bd (powerL sub)) : Bd (factorL sub) := fun l e n h => by
  unfold factorL at h
  by_cases h1 : 30 < minuses l
  · rw [if_pos h1] at h; cases h
  · rw [if_neg h1] at h
    cases q : powerL sub (l.drop (minuses l)) with
    | none => rw [q] at h; cases h
    | some r =>
      rw [q] at h; cases h
      have := hs _ _ _ q
      have := minuses_le l
      rw [List.length_drop] at *; omega
theorem ahead_len {ss : List Nat} {l : T} {s : Nat} (h : ahead ss l = some s) : 3 ≤ l.length := by
  unfold ahead at h
  split at h
  · simp
  · cases h
theorem rowGo_bd {ss : List Nat} {p : Rd} (hp : Bd p) : ∀ (k : Nat) (l : T) (e : Ep) (n : Nat) (f : Ep) (m : Nat), rowGo ss p k l e n = some (f, m) → n ≤ m ∧ m ≤ n + l.length
  | 0, _, _, _, _, _, h => by cases h
  | k + 1, l, e, n, f, m, h => by
    unfold rowGo at h
    cases ha : ahead ss l with
    | none => rw [ha] at h; cases h; omega
    | some s =>
      rw [ha] at h
      dsimp only at h
      cases q : p (l.drop 3) with
      | none => rw [q] at h; cases h
      | some r =>
        rw [q] at h
        dsimp only at h
        have h1 := hp _ _ _ q
        have h2 := rowGo_bd hp k _ _ _ _ _ h
        have h3 := ahead_len ha
        rw [List.length_drop] at h1 h2
        omega
theorem rowL_bd {ss : List Nat} {p : Rd} (hp : Bd p) : Bd (rowL ss p) := fun l e n h => by
  unfold rowL at h
  cases q : p l with
  | none => rw [q] at h; cases h
  | some r =>
    rw [q] at h
    dsimp only at h
    have h1 := hp _ _ _ q
    have h2 := rowGo_bd hp _ _ _ _ _ _ h
    rw [List.length_drop] at h2; omega
theorem pS_bd : ∀ r : Nat, Bd (pS r) ∧ Bd (atomL (subL r)) ∧ Bd (powerL (subL r)) ∧ Bd (factorL (subL r)) ∧ Bd (termL (subL r)) := fun r => by
  have go : ∀ sub : Option Rd, (∀ p, sub = some p → Bd p) → Bd (sumL sub) ∧ Bd (atomL sub) ∧ Bd (powerL sub) ∧ Bd (factorL sub) ∧ Bd (termL sub) := fun sub hs => by
    have h1 := atomL_bd hs
    have h2 := powerL_bd h1
    have h3 := factorL_bd h2
    have h4 : Bd (termL sub) := rowL_bd h3
    exact ⟨rowL_bd h4, h1, h2, h3, h4⟩
  induction r with
  | zero => exact go none fun p h => by cases h
  | succ r ih => exact go (some (pS r)) fun p h => by cases h; exact ih.1
theorem valL_le : ∀ (w : T) (a : Nat), (∀ c ∈ w, isFig c = true) → w.foldl (fun a c => a * 10 + (c - 48)) a < (a + 1) * 10 ^ w.length
  | [], a, _ => by simp
  | c :: w, a, h => by
    rw [List.foldl_cons]
    have hc := h c List.mem_cons_self
    have : c - 48 ≤ 9 := by unfold isFig at hc; simp at hc; omega
    have ih := valL_le w (a * 10 + (c - 48)) fun d hd => h d (List.mem_cons_of_mem _ hd)
    refine Nat.lt_of_lt_of_le ih ?_
    rw [List.length_cons, Nat.pow_succ]
    have : a * 10 + (c - 48) + 1 ≤ (a + 1) * 10 := by omega
    calc (a * 10 + (c - 48) + 1) * 10 ^ w.length ≤ ((a + 1) * 10) * 10 ^ w.length := Nat.mul_le_mul_right _ this
      _ = (a + 1) * (10 ^ w.length * 10) := by rw [Nat.mul_assoc, Nat.mul_comm 10]
theorem valL_lt {w : T} (h : ∀ c ∈ w, isFig c = true) : valL w < 10 ^ w.length := by
  have := valL_le w 0 h
  simpa [valL] using this
end Xp

set_option maxHeartbeats 1000000
/-! Xp: the laws' drawn numbers, names and trees -/
namespace Xp
open PySem L2
/-! ### numbers -/
def restN (cell : Int) : Int := if cell < 0 ∨ 1000000000000000000 ≤ cell then cell.natAbs else 0
def nstep (st : Int × Int × List Int) (j : Nat) : Int × Int × List Int :=
  let m := (st.1 * 39373 + 7561 * (j : Int) * (j : Int) + 1013904223) % 2147483647
  if 0 < st.2.1 then (m, st.2.1.fdiv 1000000, st.2.2 ++ [st.2.1 % 1000000]) else (m, st.2.1, st.2.2 ++ [m * 65539 % 998244353 % 1000000])
def nrun (cell : Int) (n : Nat) : Int × Int × List Int := (List.range n).foldl nstep (cell % 2147483647, restN cell, [])
def numsF (script : List Int) (k many : Nat) : List Int := (nrun (script.getD k 0) many).2.2
theorem nrun_succ (cell : Int) (n : Nat) : nrun cell (n + 1) = nstep (nrun cell n) n := by
  unfold nrun; rw [List.range_succ, List.foldl_append]; rfl
theorem nrun_ok (cell : Int) : ∀ n : Nat, (0 ≤ (nrun cell n).1 ∧ (nrun cell n).1 < 2147483647) ∧ 0 ≤ (nrun cell n).2.1 ∧ (nrun cell n).2.2.length = n ∧ ∀ x ∈ (nrun cell n).2.2, 0 ≤ x ∧ x < 1000000
  | 0 => by
    refine ⟨⟨Int.emod_nonneg _ (by decide), Int.emod_lt_of_pos _ (by decide)⟩, ?_, rfl, fun x h => by simp [nrun] at h⟩
    show 0 ≤ restN cell
    unfold restN; split <;> omega
  | n + 1 => by
    obtain ⟨h1, h2, h3, h4⟩ := nrun_ok cell n
    rw [nrun_succ]
    generalize nrun cell n = st at h1 h2 h3 h4
    unfold nstep
    dsimp only
    have hm : ∀ y : Int, 0 ≤ y % 2147483647 ∧ y % 2147483647 < 2147483647 := fun y => ⟨Int.emod_nonneg _ (by decide), Int.emod_lt_of_pos _ (by decide)⟩
    by_cases h : 0 < st.2.1
    · rw [if_pos h]
      refine ⟨hm _, ?_, by simp [h3], fun x hx => ?_⟩
      · show 0 ≤ st.2.1.fdiv 1000000
        rw [Int.fdiv_eq_ediv_of_nonneg _ (by decide)]; omega
      · rcases List.mem_append.mp hx with hx | hx
        · exact h4 x hx
        · obtain rfl := List.mem_singleton.mp hx; omega
    · rw [if_neg h]
      refine ⟨hm _, h2, by simp [h3], fun x hx => ?_⟩
      rcases List.mem_append.mp hx with hx | hx
      · exact h4 x hx
      · obtain rfl := List.mem_singleton.mp hx; omega
theorem nums_len (s : List Int) (k n : Nat) : (numsF s k n).length = n := (nrun_ok _ n).2.2.1
theorem nums_mem (s : List Int) (k n : Nat) : ∀ x ∈ numsF s k n, 0 ≤ x ∧ x < 1000000 := (nrun_ok _ n).2.2.2
/-! ### names -/
def letL : T := (List.range 26).map (97 + ·)
def letAt (n d : Int) : Nat := letL.getD ((n.fdiv d) % 26).toNat 0
def word3 (n : Int) : T := [letAt n 8, letAt n 208, letAt n 5408]
def wordF (n : Int) : T := (List.replicate 3 (word3 n)).flatten.take (1 + n % 8).toNat
theorem letL_is {i : Nat} (h : i < 26) : isLet (letL.getD i 0) = true ∧ letL.getD i 0 = 97 + i := by
  have : letL.getD i 0 = 97 + i := by
    unfold letL
    rw [List.getD_eq_getElem?_getD, List.getElem?_map, List.getElem?_range h]; rfl
  rw [this]
  refine ⟨?_, rfl⟩
  unfold isLet; simp; omega
theorem letAt_is (n d : Int) : isLet (letAt n d) = true := (letL_is (by have := Int.emod_lt_of_pos (n.fdiv d) (show (0 : Int) < 26 by decide); have := Int.emod_nonneg (n.fdiv d) (show (26 : Int) ≠ 0 by decide); omega)).1
theorem wordF_ok (n : Int) (h : 0 ≤ n) : WName (wordF n) := by
  have hl : (List.replicate 3 (word3 n)).flatten.length = 9 := rfl
  have h1 : 0 ≤ n % 8 ∧ n % 8 < 8 := by omega
  have hw : (wordF n).length = (1 + n % 8).toNat := by unfold wordF; rw [List.length_take, hl]; omega
  refine ⟨fun z => ?_, by omega, fun c hc => ?_⟩
  · rw [z] at hw; simp at hw; omega
  · have hc := List.mem_of_mem_take hc
    have : c ∈ word3 n := by
      have : (List.replicate 3 (word3 n)).flatten = word3 n ++ (word3 n ++ (word3 n ++ [])) := rfl
      rw [this] at hc; simpa using hc
    unfold word3 at this
    simp only [List.mem_cons, List.not_mem_nil, or_false] at this
    rcases this with rfl | rfl | rfl <;> exact letAt_is _ _
def pickGo (found : List T) : Nat → Nat → T → T
  | 0, _, w => w
  | f + 1, k, w => if w ∈ found then pickGo found f (k + 1) [letL.getD k 0] else w
def pickN (found : List T) (w : T) : T := pickGo found 26 0 w
theorem nodup_le {α : Type} [DecidableEq α] : ∀ (l m : List α), l.Nodup → (∀ x ∈ l, x ∈ m) → l.length ≤ m.length
  | [], _, _, _ => by simp
  | x :: l, m, hn, h => by
    have hx := h x List.mem_cons_self
    have ih := nodup_le l (m.erase x) (List.nodup_cons.mp hn).2 fun y hy => by
      have : y ≠ x := fun z => (List.nodup_cons.mp hn).1 (z ▸ hy)
      exact (List.mem_erase_of_ne this).mpr (h y (List.mem_cons_of_mem _ hy))
    rw [List.length_erase_of_mem hx] at ih
    have := List.length_pos_of_mem hx
    simp; omega
/-- the letters tried are few -/
theorem tried_le {found : List T} {k : Nat} (h : ∀ i, i < k → [letL.getD i 0] ∈ found) (hk : k ≤ 26) : k ≤ found.length := by
  have := nodup_le ((List.range k).map fun i => [letL.getD i 0]) found ?_ ?_
  · simpa using this
  · show List.Pairwise _ _
    rw [List.pairwise_map]
    refine List.Pairwise.imp_of_mem (fun {a b} ha hb hne e => hne ?_) (List.nodup_range (n := k))
    rw [List.mem_range] at ha hb
    have h1 := (letL_is (i := a) (by omega)).2
    have h2 := (letL_is (i := b) (by omega)).2
    have : letL.getD a 0 = letL.getD b 0 := by simpa using e
    omega
  · intro x hx
    obtain ⟨i, hi, rfl⟩ := List.mem_map.mp hx
    exact h i (List.mem_range.mp hi)
theorem pickGo_ok {found : List T} (hl : found.length < 26) : ∀ (f k : Nat) (w : T), f + k = 26 → (∀ i, i < k → [letL.getD i 0] ∈ found) → WName w → WName (pickGo found f k w) ∧ pickGo found f k w ∉ found
  | 0, k, w, hf, h, _ => by
    have := tried_le (k := k) h (by omega); omega
  | f + 1, k, w, hf, h, hw => by
    unfold pickGo
    by_cases hm : w ∈ found
    · rw [if_pos hm]
      by_cases hk : [letL.getD k 0] ∈ found
      · refine pickGo_ok hl f (k + 1) _ (by omega) (fun i hi => ?_) ⟨by simp, by simp, fun c hc => ?_⟩
        · by_cases z : i = k
          · subst z; exact hk
          · exact h i (by omega)
        · obtain rfl := List.mem_singleton.mp hc; exact (letL_is (by omega)).1
      · have hn : pickGo found f (k + 1) [letL.getD k 0] = [letL.getD k 0] := by
          cases f with
          | zero => rfl
          | succ f => unfold pickGo; rw [if_neg hk]
        rw [hn]
        exact ⟨⟨by simp, by simp, fun c hc => by obtain rfl := List.mem_singleton.mp hc; exact (letL_is (by omega)).1⟩, hk⟩
    · rw [if_neg hm]; exact ⟨hw, hm⟩
def nameStep (found : List T) (n : Int) : List T := found ++ [pickN found (wordF n)]
def namesF (ns : List Int) : List T := ns.foldl nameStep []
structure NamesOk (ws : List T) : Prop where
  w : ∀ x ∈ ws, WName x
  n : ws.Nodup
theorem nameStep_ok {ws : List T} (h : NamesOk ws) (hl : ws.length < 26) {n : Int} (hn : 0 ≤ n) : NamesOk (nameStep ws n) := by
  obtain ⟨h1, h2⟩ := pickGo_ok hl 26 0 (wordF n) rfl (fun i hi => by omega) (wordF_ok n hn)
  refine ⟨fun x hx => ?_, ?_⟩
  · rcases List.mem_append.mp hx with hx | hx
    · exact h.w x hx
    · obtain rfl := List.mem_singleton.mp hx; exact h1
  · exact List.nodup_append.mpr ⟨h.n, by simp, fun a ha b hb z => by
      obtain rfl := List.mem_singleton.mp hb
      subst z; exact h2 ha⟩
theorem namesFold_ok : ∀ (ns : List Int) (ws : List T), NamesOk ws → ws.length + ns.length < 26 → (∀ x ∈ ns, 0 ≤ x) → NamesOk (ns.foldl nameStep ws) ∧ (ns.foldl nameStep ws).length = ws.length + ns.length
  | [], ws, h, _, _ => ⟨h, rfl⟩
  | n :: ns, ws, h, hl, hp => by
    rw [List.foldl_cons]
    have h1 := nameStep_ok h (by simp at hl; omega) (hp n List.mem_cons_self)
    have h2 : (nameStep ws n).length = ws.length + 1 := by unfold nameStep; simp
    obtain ⟨h3, h4⟩ := namesFold_ok ns _ h1 (by rw [h2]; simp at hl; omega) fun x hx => hp x (List.mem_cons_of_mem _ hx)
    exact ⟨h3, by rw [h4, h2]; simp; omega⟩
theorem namesF_ok {ns : List Int} (hl : ns.length < 26) (hp : ∀ x ∈ ns, 0 ≤ x) : NamesOk (namesF ns) ∧ (namesF ns).length = ns.length := by
  have := namesFold_ok ns [] ⟨fun x h => by simp at h, by simp⟩ (by simpa using hl) hp
  simpa [namesF] using this
/-! ### trees, with what the law keeps of them: powers of names in top and bottom, and a size -/
def ms : Ep → Int × Int × Int
  | .num n => (0, 0, if n < 1000 then 3 else 30)
  | .name _ => (1, 0, 1)
  | .two s l r => let a := ms l; let b := ms r
    if s = 43 ∨ s = 45 then (max (a.1 + b.2.1) (b.1 + a.2.1), a.2.1 + b.2.1, a.2.2 + b.2.2 + 1) else if s = 42 then (a.1 + b.1, a.2.1 + b.2.1, a.2.2 + b.2.2) else (a.1 + b.2.1, a.2.1 + b.1, a.2.2 + b.2.2)
  | .pow b n => let a := ms b; (a.1 * n, a.2.1 * n, a.2.2 * max 1 (n : Int))
  | .less e => ms e
theorem ms_add {s : Nat} {l r : Ep} (h : s = 43 ∨ s = 45) : ms (.two s l r) = (max ((ms l).1 + (ms r).2.1) ((ms r).1 + (ms l).2.1), (ms l).2.1 + (ms r).2.1, (ms l).2.2 + (ms r).2.2 + 1) := by
  show (if s = 43 ∨ s = 45 then _ else _) = _
  rw [if_pos h]
theorem ms_mul {s : Nat} {l r : Ep} (h : s = 42) : ms (.two s l r) = ((ms l).1 + (ms r).1, (ms l).2.1 + (ms r).2.1, (ms l).2.2 + (ms r).2.2) := by
  subst h; rfl
theorem ms_div {s : Nat} {l r : Ep} (h : ¬ (s = 43 ∨ s = 45)) (h2 : ¬ s = 42) : ms (.two s l r) = ((ms l).1 + (ms r).2.1, (ms l).2.1 + (ms r).1, (ms l).2.2 + (ms r).2.2) := by
  show (if s = 43 ∨ s = 45 then _ else _) = _
  rw [if_neg h, if_neg h2]
def lt (e : Ep) : Ep × Int × Int × Int := (e, ms e)
def fitsF (e : Ep) (most : Int) : Bool := decide (max (ms e).1 (ms e).2.1 ≤ most) && decide ((ms e).2.2 ≤ 150)
def signs4 : T := [43, 45, 42, 47]
def leafF (n : Int) (names : List T) : Ep :=
  if n % 5 < 3 ∧ names ≠ [] then .name (names.getD ((n / 5).fmod names.length).toNat [])
  else if n % 5 = 4 ∧ n / 5 % 8 = 0 then .num ((n + 1) * 100000000000000000000 + n * 7919).toNat
  else .num ((n / 5).fmod ([13, 3, 1000].getD (n / 200 % 3).toNat 1)).toNat
def exps (r : Int) : Int := [2, 3, 0, 1, r / 5 % 13].getD (r % 5).toNat 0
def stepF (st : List Ep) (n : Int) (names : List T) (most : Int) : List Ep :=
  let way := n % 8
  let rest := n / 8
  let a := st.getD (st.length - 2) (.num 0)
  let b := st.getD (st.length - 1) (.num 0)
  let two := Ep.two (signs4.getD (rest % 4).toNat 0) a b
  let pow := Ep.pow b (exps rest).toNat
  if (2 < way ∧ way < 6 ∧ 1 < st.length) ∧ fitsF two most then st.take (st.length - 2) ++ [two]
  else if (way = 6 ∧ st ≠ []) ∧ fitsF pow most then st.take (st.length - 1) ++ [pow]
  else if way = 7 ∧ st ≠ [] then st.take (st.length - 1) ++ [.less b]
  else st ++ [leafF rest names]
def growGo (len : Int) (most : Int) (st : List Ep) (found : Ep) (k : Nat) : Ep :=
  let made := Ep.two (signs4.getD ((len + k) % 4).toNat 0) found (st.getD k (.num 0))
  if fitsF made most then made else found
def grownF (ns : List Int) (names : List T) (most : Int) : Ep :=
  let st := ns.foldl (fun st n => stepF st n names most) []
  (List.range (st.length - 1)).foldl (fun f i => growGo ns.length most st f (i + 1)) (st.getD 0 (.num 0))
/-- what the text's length stays below -/
def wgt : Ep → Nat
  | .num _ => 30
  | .name _ => 30
  | .two _ l r => wgt l + wgt r + 7
  | .pow b _ => wgt b + 7
  | .less e => wgt e + 7
def totalW (st : List Ep) : Nat := (st.map wgt).sum
def total (st : List Ep) : Nat := (st.map size).sum
/-- a good tree -/
structure Gd (most : Int) (names : List T) (e : Ep) : Prop where
  w : Wf e
  f : (ms e).1 ≤ most ∧ (ms e).2.1 ≤ most ∧ (ms e).2.2 ≤ 150
  p : 0 ≤ (ms e).1 ∧ 0 ≤ (ms e).2.1 ∧ 1 ≤ (ms e).2.2
theorem fits_iff {e : Ep} {most : Int} : fitsF e most = true ↔ (ms e).1 ≤ most ∧ (ms e).2.1 ≤ most ∧ (ms e).2.2 ≤ 150 := by
  unfold fitsF
  rw [Bool.and_eq_true, decide_eq_true_eq, decide_eq_true_eq]
  omega
theorem ms_pos : ∀ e : Ep, 0 ≤ (ms e).1 ∧ 0 ≤ (ms e).2.1 ∧ 1 ≤ (ms e).2.2
  | .num n => by
    refine ⟨Int.le_refl _, Int.le_refl _, ?_⟩
    show 1 ≤ (if n < 1000 then (3 : Int) else 30)
    split <;> omega
  | .name _ => ⟨by show (0 : Int) ≤ 1; decide, by show (0 : Int) ≤ 0; decide, by show (1 : Int) ≤ 1; decide⟩
  | .two s l r => by
    obtain ⟨a1, a2, a3⟩ := ms_pos l
    obtain ⟨b1, b2, b3⟩ := ms_pos r
    unfold ms; dsimp only
    by_cases h : s = 43 ∨ s = 45
    · rw [if_pos h]; dsimp only; omega
    · rw [if_neg h]
      by_cases h2 : s = 42
      · rw [if_pos h2]; dsimp only; omega
      · rw [if_neg h2]; dsimp only; omega
  | .pow b n => by
    obtain ⟨a1, a2, a3⟩ := ms_pos b
    have h1 : (1 : Int) ≤ max 1 (n : Int) := by omega
    refine ⟨Int.mul_nonneg a1 (by omega), Int.mul_nonneg a2 (by omega), ?_⟩
    show 1 ≤ (ms b).2.2 * max 1 (n : Int)
    have := Int.mul_le_mul a3 h1 (by decide) (by omega)
    simpa using this
  | .less e => ms_pos e
theorem leaf_gd {n : Int} {names : List T} {most : Int} (hn : 0 ≤ n ∧ n < 1000000) (hw : NamesOk names) (hm : 1 ≤ most) : Gd most names (leafF n names) ∧ size (leafF n names) = 1 := by
  unfold leafF
  by_cases h1 : n % 5 < 3 ∧ names ≠ []
  · rw [if_pos h1]
    have hl : 0 < names.length := List.length_pos_iff.mpr h1.2
    have hx : ((n / 5).fmod names.length).toNat < names.length := by
      rw [Int.fmod_eq_emod_of_nonneg _ (by omega)]
      have := Int.emod_lt_of_pos (n / 5) (show (0 : Int) < names.length by omega)
      have := Int.emod_nonneg (n / 5) (show (names.length : Int) ≠ 0 by omega)
      omega
    refine ⟨⟨?_, ⟨hm, by show (0 : Int) ≤ _; omega, by show (1 : Int) ≤ 150; decide⟩, ms_pos _⟩, rfl⟩
    show WName _
    rw [List.getD_eq_getElem?_getD, List.getElem?_eq_getElem hx]
    exact hw.w _ (List.getElem_mem hx)
  · rw [if_neg h1]
    have num : ∀ m : Nat, m < 10 ^ 30 → (m < 1000 ∨ True) → Gd most names (.num m) ∧ size (.num m) = 1 := fun m hm' _ => by
      refine ⟨⟨TL.numL_len (by decide) hm', ⟨by show (0 : Int) ≤ _; omega, by show (0 : Int) ≤ _; omega, ?_⟩, ms_pos _⟩, rfl⟩
      show (if m < 1000 then (3 : Int) else 30) ≤ 150
      split <;> decide
    by_cases h2 : n % 5 = 4 ∧ n / 5 % 8 = 0
    · rw [if_pos h2]
      exact num _ (by have : ((n + 1) * 100000000000000000000 + n * 7919) < 10 ^ 30 := by omega
                      have : (10 : Int) ^ 30 = ((10 ^ 30 : Nat) : Int) := by norm_cast
                      omega) (.inr trivial)
    · rw [if_neg h2]
      refine num _ ?_ (.inr trivial)
      have hd : ∃ d : Int, d = [13, 3, 1000].getD (n / 200 % 3).toNat 1 ∧ 0 < d ∧ d ≤ 1000 := by
        have : n / 200 % 3 = 0 ∨ n / 200 % 3 = 1 ∨ n / 200 % 3 = 2 := by omega
        rcases this with h | h | h <;> rw [h] <;> exact ⟨_, rfl, by decide, by decide⟩
      obtain ⟨d, hd, h0, h3⟩ := hd
      rw [← hd, Int.fmod_eq_emod_of_nonneg _ (by omega)]
      have := Int.emod_lt_of_pos (n / 5) h0
      have : ((n / 5) % d).toNat < 1000 := by omega
      exact Nat.lt_of_lt_of_le this (by decide)
theorem exps_le (r : Int) : 0 ≤ exps r ∧ exps r ≤ 12 := by
  unfold exps
  have h : r % 5 = 0 ∨ r % 5 = 1 ∨ r % 5 = 2 ∨ r % 5 = 3 ∨ r % 5 = 4 := by omega
  have : 0 ≤ r / 5 % 13 ∧ r / 5 % 13 ≤ 12 := by omega
  rcases h with h | h | h | h | h <;> rw [h] <;> simp <;> omega
theorem signs4_ok (x : Int) : (let s := signs4.getD (x % 4).toNat 0; s = 43 ∨ s = 45 ∨ s = 42 ∨ s = 47) := by
  have h : x % 4 = 0 ∨ x % 4 = 1 ∨ x % 4 = 2 ∨ x % 4 = 3 := by omega
  rcases h with h | h | h | h <;> rw [h] <;> simp [signs4]
theorem total_take (st : List Ep) : ∀ k, total (st.take k) + total (st.drop k) = total st := fun k => by
  unfold total
  rw [← List.sum_append, ← List.map_append, List.take_append_drop]
theorem total_app (a b : List Ep) : total (a ++ b) = total a + total b := by unfold total; simp
theorem totalW_take (st : List Ep) : ∀ k, totalW (st.take k) + totalW (st.drop k) = totalW st := fun k => by
  unfold totalW
  rw [← List.sum_append, ← List.map_append, List.take_append_drop]
theorem totalW_app (a b : List Ep) : totalW (a ++ b) = totalW a + totalW b := by unfold totalW; simp
theorem drop_last2 {st : List Ep} (h : 1 < st.length) : st.drop (st.length - 2) = [st.getD (st.length - 2) (.num 0), st.getD (st.length - 1) (.num 0)] := by
  have h1 : st.length - 2 < st.length := by omega
  have h2 : st.length - 2 + 1 < st.length := by omega
  rw [List.drop_eq_getElem_cons h1, List.drop_eq_getElem_cons h2, List.drop_of_length_le (by omega), List.getD_eq_getElem?_getD, List.getD_eq_getElem?_getD, List.getElem?_eq_getElem h1, List.getElem?_eq_getElem (by omega : st.length - 1 < st.length)]
  have : st.length - 2 + 1 = st.length - 1 := by omega
  simp [this]
theorem drop_last1 {st : List Ep} (h : st ≠ []) : st.drop (st.length - 1) = [st.getD (st.length - 1) (.num 0)] := by
  have := List.length_pos_iff.mpr h
  have h1 : st.length - 1 < st.length := by omega
  rw [List.drop_eq_getElem_cons h1, List.drop_of_length_le (by omega), List.getD_eq_getElem?_getD, List.getElem?_eq_getElem h1]; rfl
structure StOk (most : Int) (names : List T) (n : Nat) (st : List Ep) : Prop where
  g : ∀ e ∈ st, Gd most names e
  t : total st ≤ n
  v : totalW st ≤ 30 * n
  l : st.length ≤ n
  z : 0 < n → st ≠ []
theorem getD_mem {st : List Ep} {i : Nat} (h : i < st.length) : st.getD i (.num 0) ∈ st := by
  rw [List.getD_eq_getElem?_getD, List.getElem?_eq_getElem h]; exact List.getElem_mem h
theorem step_ok {most : Int} {names : List T} {st : List Ep} {n : Nat} {x : Int} (h : StOk most names n st) (hx : 0 ≤ x ∧ x < 1000000) (hw : NamesOk names) (hm : 1 ≤ most) : StOk most names (n + 1) (stepF st x names most) := by
  unfold stepF
  dsimp only
  have keep : ∀ (k : Nat) (e : Ep), Gd most names e → total (st.take k) + size e ≤ n + 1 → totalW (st.take k) + wgt e ≤ 30 * (n + 1) → StOk most names (n + 1) (st.take k ++ [e]) := fun k e ge ht htw => by
    refine ⟨fun y hy => ?_, by rw [total_app]; simpa [total] using ht, by rw [totalW_app]; simpa [totalW] using htw, ?_, fun _ => by simp⟩
    · rcases List.mem_append.mp hy with hy | hy
      · exact h.g y (List.mem_of_mem_take hy)
      · obtain rfl := List.mem_singleton.mp hy; exact ge
    · have := h.l; simp; omega
  by_cases h1 : (2 < x % 8 ∧ x % 8 < 6 ∧ 1 < st.length) ∧ fitsF (Ep.two (signs4.getD (x / 8 % 4).toNat 0) (st.getD (st.length - 2) (.num 0)) (st.getD (st.length - 1) (.num 0))) most = true
  · rw [if_pos h1]
    have hl := h1.1.2.2
    have ga := h.g _ (getD_mem (st := st) (i := st.length - 2) (by omega))
    have gb := h.g _ (getD_mem (st := st) (i := st.length - 1) (by omega))
    have q1 := total_take st (st.length - 2)
    rw [drop_last2 hl] at q1
    have e2 : ∀ a b : Ep, total [a, b] = size a + size b := fun a b => by simp [total]
    rw [e2] at q1
    have q2 := totalW_take st (st.length - 2)
    rw [drop_last2 hl] at q2
    have e3 : ∀ a b : Ep, totalW [a, b] = wgt a + wgt b := fun a b => by simp [totalW]
    rw [e3] at q2
    have := h.t
    have := h.v
    refine keep _ _ ⟨⟨signs4_ok (x / 8), ga.w, gb.w⟩, fits_iff.mp h1.2, ms_pos _⟩ ?_ ?_
    · show _ + (size _ + size _ + 1) ≤ _
      omega
    · show _ + (wgt _ + wgt _ + 7) ≤ _
      omega
  · rw [if_neg h1]
    by_cases h2 : (x % 8 = 6 ∧ st ≠ []) ∧ fitsF (Ep.pow (st.getD (st.length - 1) (.num 0)) (exps (x / 8)).toNat) most = true
    · rw [if_pos h2]
      have hl := List.length_pos_iff.mpr h2.1.2
      have gb := h.g _ (getD_mem (st := st) (i := st.length - 1) (by omega))
      have q1 := total_take st (st.length - 1)
      rw [drop_last1 h2.1.2] at q1
      have e1 : ∀ a : Ep, total [a] = size a := fun a => by simp [total]
      rw [e1] at q1
      have q2 := totalW_take st (st.length - 1)
      rw [drop_last1 h2.1.2] at q2
      have e2 : ∀ a : Ep, totalW [a] = wgt a := fun a => by simp [totalW]
      rw [e2] at q2
      have := h.t
      have := h.v
      refine keep _ _ ⟨⟨gb.w, by have := exps_le (x / 8); omega⟩, fits_iff.mp h2.2, ms_pos _⟩ ?_ ?_
      · show _ + (size _ + 1) ≤ _
        omega
      · show _ + (wgt _ + 7) ≤ _
        omega
    · rw [if_neg h2]
      by_cases h3 : x % 8 = 7 ∧ st ≠ []
      · rw [if_pos h3]
        have hl := List.length_pos_iff.mpr h3.2
        have gb := h.g _ (getD_mem (st := st) (i := st.length - 1) (by omega))
        have q1 := total_take st (st.length - 1)
        rw [drop_last1 h3.2] at q1
        have e1 : ∀ a : Ep, total [a] = size a := fun a => by simp [total]
        rw [e1] at q1
        have q2 := totalW_take st (st.length - 1)
        rw [drop_last1 h3.2] at q2
        have e2 : ∀ a : Ep, totalW [a] = wgt a := fun a => by simp [totalW]
        rw [e2] at q2
        have := h.t
        have := h.v
        refine keep _ _ ⟨gb.w, gb.f, gb.p⟩ ?_ ?_
        · show _ + (size _ + 1) ≤ _
          omega
        · show _ + (wgt _ + 7) ≤ _
          omega
      · rw [if_neg h3]
        obtain ⟨gl, sl⟩ := leaf_gd (n := x / 8) (most := most) (by omega) hw hm
        have wl : wgt (leafF (x / 8) names) = 30 := by unfold leafF; split; rfl; split <;> rfl
        have := keep st.length _ gl (by rw [sl, List.take_length]; have := h.t; omega) (by rw [wl, List.take_length]; have := h.v; omega)
        rwa [List.take_length] at this
theorem steps_ok {most : Int} {names : List T} (hw : NamesOk names) (hm : 1 ≤ most) : ∀ (ns : List Int) (st : List Ep) (n : Nat), StOk most names n st → (∀ x ∈ ns, 0 ≤ x ∧ x < 1000000) → StOk most names (n + ns.length) (ns.foldl (fun st n => stepF st n names most) st)
  | [], st, n, h, _ => h
  | x :: ns, st, n, h, hx => by
    rw [List.foldl_cons]
    have := steps_ok hw hm ns _ (n + 1) (step_ok h (hx x List.mem_cons_self) hw hm) fun y hy => hx y (List.mem_cons_of_mem _ hy)
    rw [List.length_cons, show n + (ns.length + 1) = n + 1 + ns.length from by omega]; exact this
def grows (len : Int) (most : Int) (st : List Ep) (n : Nat) : Ep := (List.range n).foldl (fun f i => growGo len most st f (i + 1)) (st.getD 0 (.num 0))
theorem grows_succ (len most : Int) (st : List Ep) (n : Nat) : grows len most st (n + 1) = growGo len most st (grows len most st n) (n + 1) := by
  unfold grows; rw [List.range_succ, List.foldl_append]; rfl
theorem total_succ {st : List Ep} {n : Nat} (h : n < st.length) : total (st.take (n + 1)) = total (st.take n) + size (st.getD n (.num 0)) := by
  rw [List.take_add_one, List.getElem?_eq_getElem h, List.getD_eq_getElem?_getD, List.getElem?_eq_getElem h, total_app]
  simp [total]
theorem totalW_succ {st : List Ep} {n : Nat} (h : n < st.length) : totalW (st.take (n + 1)) = totalW (st.take n) + wgt (st.getD n (.num 0)) := by
  rw [List.take_add_one, List.getElem?_eq_getElem h, List.getD_eq_getElem?_getD, List.getElem?_eq_getElem h, totalW_app]
  simp [totalW]
theorem growsW {most : Int} {st : List Ep} (len : Int) : ∀ n, n < st.length → wgt (grows len most st n) ≤ totalW (st.take (n + 1)) + 7 * n
  | 0, h => by
    rw [totalW_succ h]
    show wgt (st.getD 0 (.num 0)) ≤ _
    omega
  | n + 1, h => by
    have h2 := growsW (most := most) (st := st) len n (by omega)
    rw [grows_succ, totalW_succ h]
    generalize grows len most st n = f at h2
    unfold growGo
    dsimp only
    by_cases q : fitsF (Ep.two (signs4.getD ((len + ((n + 1 : Nat) : Int)) % 4).toNat 0) f (st.getD (n + 1) (.num 0))) most = true
    · rw [if_pos q]
      show wgt f + wgt _ + 7 ≤ _
      omega
    · rw [if_neg q]; omega
theorem grows_ok {most : Int} {names : List T} {st : List Ep} (hg : ∀ e ∈ st, Gd most names e) (len : Int) (h0 : st ≠ []) : ∀ n, n < st.length → Gd most names (grows len most st n) ∧ size (grows len most st n) ≤ total (st.take (n + 1)) + n
  | 0, h => by
    refine ⟨hg _ (getD_mem h), ?_⟩
    rw [total_succ h]
    show size (st.getD 0 (.num 0)) ≤ _
    omega
  | n + 1, h => by
    obtain ⟨h1, h2⟩ := grows_ok hg len h0 n (by omega)
    rw [grows_succ, total_succ h]
    generalize grows len most st n = f at h1 h2
    unfold growGo
    dsimp only
    by_cases q : fitsF (Ep.two (signs4.getD ((len + ((n + 1 : Nat) : Int)) % 4).toNat 0) f (st.getD (n + 1) (.num 0))) most = true
    · rw [if_pos q]
      refine ⟨⟨⟨signs4_ok _, h1.w, (hg _ (getD_mem h)).w⟩, fits_iff.mp q, ms_pos _⟩, ?_⟩
      show size f + size _ + 1 ≤ _
      omega
    · rw [if_neg q]; exact ⟨h1, by omega⟩
theorem grown_ok {ns : List Int} {names : List T} {most : Int} (hn : 0 < ns.length) (hx : ∀ x ∈ ns, 0 ≤ x ∧ x < 1000000) (hw : NamesOk names) (hm : 1 ≤ most) : Gd most names (grownF ns names most) ∧ size (grownF ns names most) < 2 * ns.length ∧ wgt (grownF ns names most) ≤ 37 * ns.length := by
  have h := steps_ok hw hm ns [] 0 ⟨fun e h => by simp at h, by simp [total], by simp [totalW], by simp, fun h => by omega⟩ hx
  rw [Nat.zero_add] at h
  unfold grownF
  dsimp only
  generalize ns.foldl (fun st n => stepF st n names most) [] = st at h
  have hl := List.length_pos_iff.mpr (h.z hn)
  obtain ⟨h1, h2⟩ := grows_ok h.g ns.length (h.z hn) (st.length - 1) (by omega)
  have e1 : st.length - 1 + 1 = st.length := by omega
  have h3 := growsW (most := most) (st := st) ns.length (st.length - 1) (by omega)
  rw [e1, List.take_length] at h2 h3
  have := h.t
  have := h.l
  have := h.v
  exact ⟨h1, by show size (grows _ _ _ _) < _; omega, by show wgt (grows _ _ _ _) ≤ _; omega⟩
/-- the text's length -/
theorem sh_wgt : ∀ e : Ep, Wf e → (sh e).length ≤ wgt e
  | .num n, w => w
  | .name w, h => by have := h.2.1; show w.length ≤ 30; omega
  | .two s l r, w => by
    have h1 := sh_wgt l w.2.1
    have h2 := sh_wgt r w.2.2
    have br_len : ∀ b l t, (br b l t).length ≤ t.length + 2 := fun b l t => by unfold br; split <;> simp
    have h3 := br_len (binds l) (bindS s) (sh l)
    have h4 := br_len (binds r) (bindS s + 1) (sh r)
    show (br _ _ _ ++ 32 :: s :: 32 :: br _ _ _).length ≤ wgt l + wgt r + 7
    rw [List.length_append, List.length_cons, List.length_cons, List.length_cons]; omega
  | .pow b n, w => by
    have h1 := sh_wgt b w.1
    have br_len : ∀ b l t, (br b l t).length ≤ t.length + 2 := fun b l t => by unfold br; split <;> simp
    have h3 := br_len (binds b) 4 (sh b)
    have h5 : (TL.numL n).length ≤ 2 := TL.numL_len (by decide) (by have := w.2; omega)
    show (br _ _ _ ++ 94 :: TL.numL n).length ≤ wgt b + 7
    rw [List.length_append, List.length_cons]; omega
  | .less e, w => by
    have h1 := sh_wgt e w
    have br_len : ∀ b l t, (br b l t).length ≤ t.length + 2 := fun b l t => by unfold br; split <;> simp
    have h3 := br_len (binds e) 2 (sh e)
    show (45 :: br _ _ _).length ≤ wgt e + 7
    rw [List.length_cons]; omega
end Xp

/-! Pw: a typed layer over HandS. Codes say how a datum stands in the heap; F is what never changes, H the whole heap. -/
namespace Pw
open PySem L2
/-! ### heaps -/
def Ex (H H' : Hp) : Prop := ∀ a o, H a = some o → H' a = some o
theorem Ex.refl (H : Hp) : Ex H H := fun _ _ h => h
theorem Ex.trans {H H1 H2 : Hp} (a : Ex H H1) (b : Ex H1 H2) : Ex H H2 := fun x o h => b x o (a x o h)
theorem Ex.new {H : Hp} {p : Addr} {o : HO} (h : H p = none) : Ex H (upd H p o) := fun a u e => by
  rw [upd_ne (ne_of_none e h)]; exact e
theorem Ex.both {F H : Hp} {p : Addr} {o : HO} (e : Ex F H) : Ex (upd F p o) (upd H p o) := fun a u h => by
  by_cases q : a = p
  · subst q; rw [upd_same] at h ⊢; exact h
  · rw [upd_ne q] at h ⊢; exact e a u h
theorem Ex.mut {F H : Hp} {p : Addr} {o : HO} (e : Ex F H) (h : F p = none) : Ex F (upd H p o) := fun a u ha => by
  rw [upd_ne (ne_of_none ha h)]; exact e a u ha
theorem Ex.free {F H : Hp} {p : Addr} (e : Ex F H) (h : H p = none) : F p = none := by
  cases q : F p with
  | none => rfl
  | some o => rw [e p o q] at h; cases h
theorem ex_rd {H H' : Hp} {a : Addr} {u : HO} (e : Ex H H') (h : Rd H a u) : Rd H' a u := by
  rcases h with h | ⟨o, h⟩
  · exact Or.inl (e a _ h)
  · exact Or.inr ⟨o, e a _ h⟩
theorem ex_l {K : PySem.W.Frag} {H H' : Hp} {a : Addr} {xs : List V} (e : Ex H H') (h : SqL K H a xs) : SqL K H' a xs := by
  rcases h with h | h
  · exact Or.inl (ex_rd e h)
  · exact Or.inr h
theorem ex_t {K : PySem.W.Frag} {H H' : Hp} {a : Addr} {xs : List V} (e : Ex H H') (h : SqT K H a xs) : SqT K H' a xs := by
  rcases h with h | h
  · exact Or.inl (ex_rd e h)
  · exact Or.inr h
/-- F' is F and what is new against H; H' is H and more -/
structure Ext (F H F' H' : Hp) : Prop where
  f : Ex F F'
  h : Ex H H'
  i : Ex F' H'
  n : ∀ a o, F' a = some o → F a = some o ∨ H a = none
theorem Ext.refl {F H : Hp} (e : Ex F H) : Ext F H F H := ⟨Ex.refl F, Ex.refl H, e, fun _ _ h => .inl h⟩
theorem Ext.trans {F H F1 H1 F2 H2 : Hp} (a : Ext F H F1 H1) (b : Ext F1 H1 F2 H2) : Ext F H F2 H2 :=
  ⟨a.f.trans b.f, a.h.trans b.h, b.i, fun x o h => by
    rcases b.n x o h with q | q
    · exact a.n x o q
    · exact .inr (a.h.free q)⟩
theorem Ext.new {F H : Hp} {p : Addr} {o : HO} (e : Ex F H) (h : H p = none) : Ext F H (upd F p o) (upd H p o) :=
  ⟨Ex.new (e.free h), Ex.new h, e.both, fun a u q => by
    by_cases z : a = p
    · subst z; exact .inr h
    · rw [upd_ne z] at q; exact .inl q⟩
/-- something new that F does not take up -/
theorem Ext.aside {F H : Hp} {p : Addr} {o : HO} (e : Ex F H) (h : H p = none) : Ext F H F (upd H p o) :=
  ⟨Ex.refl F, Ex.new h, e.trans (Ex.new h), fun _ _ q => .inl q⟩
/-! ### codes -/
structure Cod (α : Type) where
  rep : Hp → V → α → Prop
  mono : ∀ {H H' : Hp} {v : V} {d : α}, Ex H H' → rep H v d → rep H' v d
def cInt : Cod Int := ⟨fun _ v d => v = .int d, fun _ h => h⟩
def cBool : Cod Bool := ⟨fun _ v d => v = .bl d, fun _ h => h⟩
def cStr : Cod Str := ⟨fun _ v d => v = .str d, fun _ h => h⟩
def cNon : Cod Unit := ⟨fun _ v _ => v = .non, fun _ h => h⟩
/-- values one by one -/
def Reps {α : Type} (c : Cod α) (H : Hp) : List V → List α → Prop
  | [], [] => True
  | v :: vs, d :: ds => c.rep H v d ∧ Reps c H vs ds
  | _, _ => False
theorem Reps.mono {α : Type} {c : Cod α} {H H' : Hp} (e : Ex H H') : ∀ {vs : List V} {ds : List α}, Reps c H vs ds → Reps c H' vs ds
  | [], [], _ => trivial
  | _ :: _, _ :: _, h => ⟨c.mono e h.1, Reps.mono e h.2⟩
  | [], _ :: _, h => h.elim
  | _ :: _, [], h => h.elim
theorem Reps.len {α : Type} {c : Cod α} {H : Hp} : ∀ {vs : List V} {ds : List α}, Reps c H vs ds → vs.length = ds.length
  | [], [], _ => rfl
  | _ :: _, _ :: _, h => by simp [Reps.len h.2]
  | [], _ :: _, h => h.elim
  | _ :: _, [], h => h.elim
theorem Reps.get {α : Type} {c : Cod α} {H : Hp} : ∀ {vs : List V} {ds : List α} {i : Nat} {d : α}, Reps c H vs ds → ds[i]? = some d → ∃ v, vs[i]? = some v ∧ c.rep H v d
  | [], [], _, _, _, e => by simp at e
  | v :: _, _ :: _, 0, _, h, e => by simp at e; subst e; exact ⟨v, rfl, h.1⟩
  | _ :: _, _ :: _, i + 1, d, h, e => by
    obtain ⟨v, h1, h2⟩ := Reps.get (i := i) (d := d) h.2 (by simpa using e)
    exact ⟨v, by simpa using h1, h2⟩
  | [], _ :: _, _, _, h, _ => h.elim
  | _ :: _, [], _, _, h, _ => h.elim
theorem Reps.getV {α : Type} {c : Cod α} {H : Hp} {vs : List V} {ds : List α} {i : Nat} {v : V} (h : Reps c H vs ds) (e : vs[i]? = some v) : ∃ d, ds[i]? = some d ∧ c.rep H v d := by
  have hl := h.len
  have hi : i < vs.length := (List.getElem?_eq_some_iff.mp e).1
  obtain ⟨d, hd⟩ : ∃ d, ds[i]? = some d := ⟨ds[i], List.getElem?_eq_getElem (by omega)⟩
  obtain ⟨w, hw, hr⟩ := h.get hd
  rw [e] at hw; cases hw
  exact ⟨d, hd, hr⟩
theorem Reps.append {α : Type} {c : Cod α} {H : Hp} : ∀ {vs ws : List V} {ds es : List α}, Reps c H vs ds → Reps c H ws es → Reps c H (vs ++ ws) (ds ++ es)
  | [], _, [], _, _, k => k
  | _ :: _, _, _ :: _, _, h, k => ⟨h.1, Reps.append h.2 k⟩
  | [], _, _ :: _, _, h, _ => h.elim
  | _ :: _, _, [], _, h, _ => h.elim
theorem Reps.set {α : Type} {c : Cod α} {H : Hp} {v : V} {d : α} (k : c.rep H v d) : ∀ {vs : List V} {ds : List α} (i : Nat), Reps c H vs ds → Reps c H (vs.set i v) (ds.set i d)
  | [], [], _, _ => trivial
  | _ :: _, _ :: _, 0, h => ⟨k, h.2⟩
  | _ :: _, _ :: _, i + 1, h => ⟨h.1, Reps.set k i h.2⟩
  | [], _ :: _, _, h => h.elim
  | _ :: _, [], _, h => h.elim
theorem Reps.take {α : Type} {c : Cod α} {H : Hp} : ∀ {vs : List V} {ds : List α} (n : Nat), Reps c H vs ds → Reps c H (vs.take n) (ds.take n)
  | [], [], _, _ => by simp [Reps]
  | _ :: _, _ :: _, 0, _ => trivial
  | _ :: _, _ :: _, n + 1, h => ⟨h.1, Reps.take n h.2⟩
  | [], _ :: _, _, h => h.elim
  | _ :: _, [], _, h => h.elim
theorem Reps.drop {α : Type} {c : Cod α} {H : Hp} : ∀ {vs : List V} {ds : List α} (n : Nat), Reps c H vs ds → Reps c H (vs.drop n) (ds.drop n)
  | [], [], _, _ => by simp [Reps]
  | _ :: _, _ :: _, 0, h => h
  | _ :: _, _ :: _, n + 1, h => Reps.drop n h.2
  | [], _ :: _, _, h => h.elim
  | _ :: _, [], _, h => h.elim
theorem Reps.reverse {α : Type} {c : Cod α} {H : Hp} : ∀ {vs : List V} {ds : List α}, Reps c H vs ds → Reps c H vs.reverse ds.reverse
  | [], [], _ => trivial
  | _ :: _, _ :: _, h => by
    rw [List.reverse_cons, List.reverse_cons]
    exact (Reps.reverse h.2).append ⟨h.1, trivial⟩
  | [], _ :: _, h => h.elim
  | _ :: _, [], h => h.elim
theorem Reps.replicate {α : Type} {c : Cod α} {H : Hp} {v : V} {d : α} (h : c.rep H v d) : ∀ n, Reps c H (List.replicate n v) (List.replicate n d)
  | 0 => trivial
  | n + 1 => ⟨h, Reps.replicate h n⟩
/-- a list, a tuple of any length, of one kind -/
def cList {α : Type} (K : PySem.W.Frag) (c : Cod α) : Cod (List α) :=
  ⟨fun H v ds => ∃ a vs, v = .ref a ∧ SqL K H a vs ∧ Reps c H vs ds, fun e ⟨a, vs, h1, h2, h3⟩ => ⟨a, vs, h1, ex_l e h2, h3.mono e⟩⟩
def cTupL {α : Type} (K : PySem.W.Frag) (c : Cod α) : Cod (List α) :=
  ⟨fun H v ds => ∃ a vs, v = .ref a ∧ SqT K H a vs ∧ Reps c H vs ds, fun e ⟨a, vs, h1, h2, h3⟩ => ⟨a, vs, h1, ex_t e h2, h3.mono e⟩⟩
/-! ### objects that nobody else holds -/
structure CodO (α : Type) where
  rep : Hp → HO → α → Prop
  mono : ∀ {H H' : Hp} {o : HO} {d : α}, Ex H H' → rep H o d → rep H' o d
/-- a list -/
def cLst {α : Type} (c : Cod α) : CodO (List α) := ⟨fun F o ds => ∃ vs, o = .lst vs ∧ Reps c F vs ds, fun e ⟨vs, h, k⟩ => ⟨vs, h, k.mono e⟩⟩
/-! ### what is known of the slots -/
inductive Ent : Type 1 where
  | any
  | val {α : Type} (c : Cod α) (d : α)
  | ob {α : Type} (c : CodO α) (d : α)
abbrev Ent.own {α : Type} (c : Cod α) (ds : List α) : Ent := .ob (cLst c) ds
abbrev Gam := List Ent
def EntOk (F H : Hp) (s : Option V) : Ent → Prop
  | .any => True
  | .val c d => ∃ v, s = some v ∧ c.rep F v d
  | .ob c d => ∃ p o, s = some (.ref p) ∧ F p = none ∧ H p = some o ∧ c.rep F o d
def IsOwn : Option Ent → Prop
  | some (.ob _ _) => True
  | _ => False
/-- argument lists, the places of a tuple -/
structure CodA (α : Type) where
  rep : Hp → List V → α → Prop
  mono : ∀ {H H' : Hp} {v : List V} {d : α}, Ex H H' → rep H v d → rep H' v d
  env : α → Gam
  len : ∀ {H : Hp} {v : List V} {d : α}, rep H v d → v.length = (env d).length
  ok : ∀ {H : Hp} {v : List V} {d : α}, rep H v d → ∀ (i : Nat) x e G, v[i]? = some x → (env d)[i]? = some e → EntOk H G (some x) e
  no : ∀ (d : α) (i : Nat), ¬ IsOwn (env d)[i]?
def aNil : CodA Unit := ⟨fun _ vs _ => vs = [], fun _ h => h, fun _ => [], fun {H v d} h => by rw [show v = [] from h]; rfl, fun {H v d} h i x e G h1 => by rw [show v = [] from h] at h1; simp at h1, fun d i h => by simp at h; exact h⟩
def aCons {α β : Type} (c : Cod α) (r : CodA β) : CodA (α × β) :=
  ⟨fun H vs d => ∃ v ws, vs = v :: ws ∧ c.rep H v d.1 ∧ r.rep H ws d.2, fun e ⟨v, ws, h1, h2, h3⟩ => ⟨v, ws, h1, c.mono e h2, r.mono e h3⟩,
   fun d => .val c d.1 :: r.env d.2, fun {H v d} h => by obtain ⟨v, ws, rfl, h2, h3⟩ := h; simp [r.len h3],
   fun {H v d} h i x e G h1 h2 => by
     obtain ⟨v, ws, rfl, h3, h4⟩ := h
     cases i with
     | zero => simp at h1 h2; subst h1; subst h2; exact ⟨v, rfl, h3⟩
     | succ i => exact r.ok h4 i x e G (by simpa using h1) (by simpa using h2),
   fun d i h => by
     cases i with
     | zero => simp at h; exact h
     | succ i => exact r.no d.2 i (by simpa using h)⟩
/-- a tuple of kinds of its own -/
def cTup {α : Type} (K : PySem.W.Frag) (r : CodA α) : Cod α :=
  ⟨fun H v d => ∃ a vs, v = .ref a ∧ SqT K H a vs ∧ r.rep H vs d, fun e ⟨a, vs, h1, h2, h3⟩ => ⟨a, vs, h1, ex_t e h2, r.mono e h3⟩⟩
/-- another reading of a code's data -/
def cMap {α β : Type} (c : Cod α) (f : β → α) : Cod β := ⟨fun H v d => c.rep H v (f d), fun e h => c.mono e h⟩
def cPair {α β : Type} (K : PySem.W.Frag) (c : Cod α) (d : Cod β) : Cod (α × β) := cMap (cTup K (aCons c (aCons d aNil))) fun p => (p.1, p.2, ())
def cTri {α β γ : Type} (K : PySem.W.Frag) (c : Cod α) (d : Cod β) (e : Cod γ) : Cod (α × β × γ) := cMap (cTup K (aCons c (aCons d (aCons e aNil)))) fun p => (p.1, p.2.1, p.2.2, ())
/-- a fraction -/
abbrev cFr (K : PySem.W.Frag) : Cod (Int × Int) := cPair K cInt cInt
abbrev cRow (K : PySem.W.Frag) : Cod (List (Int × Int)) := cList K (cFr K)
abbrev cInts (K : PySem.W.Frag) : Cod (List Int) := cList K cInt
structure Sl (F H : Hp) (σ : L2.St) (Γ : Gam) : Prop where
  ex : Ex F H
  len : σ.length = Γ.length
  ok : ∀ (i : Nat) s e, σ[i]? = some s → Γ[i]? = some e → EntOk F H s e
  dis : ∀ (i j : Nat) p, i ≠ j → IsOwn Γ[i]? → IsOwn Γ[j]? → σ[i]? = some (some (.ref p)) → σ[j]? = some (some (.ref p)) → False
theorem EntOk.grow {F H F' H' : Hp} {s : Option V} {e : Ent} (x : Ext F H F' H') (h : EntOk F H s e) : EntOk F' H' s e := by
  cases e with
  | any => trivial
  | val c d => obtain ⟨v, h1, h2⟩ := h; exact ⟨v, h1, c.mono x.f h2⟩
  | ob c d =>
    obtain ⟨p, o, h1, h2, h3, h4⟩ := h
    refine ⟨p, o, h1, ?_, x.h p _ h3, c.mono x.f h4⟩
    cases q : F' p with
    | none => rfl
    | some o =>
      rcases x.n p o q with z | z
      · rw [h2] at z; cases z
      · rw [h3] at z; cases z
theorem Sl.grow {F H F' H' : Hp} {σ : L2.St} {Γ : Gam} (h : Sl F H σ Γ) (x : Ext F H F' H') : Sl F' H' σ Γ :=
  ⟨x.i, h.len, fun i s e h1 h2 => (h.ok i s e h1 h2).grow x, h.dis⟩
theorem Sl.var {F H : Hp} {σ : L2.St} {Γ : Gam} {i : Nat} {α : Type} {c : Cod α} {d : α} (h : Sl F H σ Γ) (e : Γ[i]? = some (.val c d)) : ∃ v, σ[i]? = some (some v) ∧ c.rep F v d := by
  have hi : i < σ.length := by rw [h.len]; exact (List.getElem?_eq_some_iff.mp e).1
  obtain ⟨v, h1, h2⟩ := h.ok i σ[i] _ (List.getElem?_eq_getElem hi) e
  exact ⟨v, by rw [List.getElem?_eq_getElem hi, h1], h2⟩
theorem Sl.obj {F H : Hp} {σ : L2.St} {Γ : Gam} {i : Nat} {α : Type} {c : CodO α} {d : α} (h : Sl F H σ Γ) (e : Γ[i]? = some (.ob c d)) :
    ∃ p o, σ[i]? = some (some (.ref p)) ∧ F p = none ∧ H p = some o ∧ c.rep F o d := by
  have hi : i < σ.length := by rw [h.len]; exact (List.getElem?_eq_some_iff.mp e).1
  obtain ⟨p, o, h1, h2⟩ := h.ok i σ[i] _ (List.getElem?_eq_getElem hi) e
  exact ⟨p, o, by rw [List.getElem?_eq_getElem hi, h1], h2⟩
theorem Sl.owned {F H : Hp} {σ : L2.St} {Γ : Gam} {i : Nat} {α : Type} {c : Cod α} {ds : List α} (h : Sl F H σ Γ) (e : Γ[i]? = some (.own c ds)) :
    ∃ p vs, σ[i]? = some (some (.ref p)) ∧ F p = none ∧ H p = some (.lst vs) ∧ Reps c F vs ds := by
  obtain ⟨p, o, h1, h2, h3, vs, rfl, h4⟩ := h.obj e
  exact ⟨p, vs, h1, h2, h3, h4⟩
/-- a slot is set to a value of the lasting kind -/
theorem Sl.set {F H : Hp} {σ : L2.St} {Γ : Gam} {i : Nat} {s : Option V} {e : Ent} (h : Sl F H σ Γ) (ho : ¬ IsOwn (some e)) (k : EntOk F H s e) : Sl F H (σ.set i s) (Γ.set i e) := by
  refine ⟨h.ex, by simp [h.len], fun j t f h1 h2 => ?_, fun a b p hab oa ob h1 h2 => ?_⟩
  · rw [List.getElem?_set] at h1 h2
    by_cases hj : i = j
    · subst hj
      by_cases hl : i < σ.length
      · have hl2 : i < Γ.length := h.len ▸ hl
        rw [if_pos rfl, if_pos hl] at h1; rw [if_pos rfl, if_pos hl2] at h2
        cases h1; cases h2; exact k
      · rw [if_pos rfl, if_neg hl] at h1; cases h1
    · rw [if_neg hj] at h1 h2; exact h.ok j t f h1 h2
  · have na : i ≠ a := fun q => by
      subst q; rw [List.getElem?_set] at oa
      by_cases hl : i < Γ.length
      · rw [if_pos rfl, if_pos hl] at oa; exact ho oa
      · rw [if_pos rfl, if_neg hl] at oa; exact oa
    have nb : i ≠ b := fun q => by
      subst q; rw [List.getElem?_set] at ob
      by_cases hl : i < Γ.length
      · rw [if_pos rfl, if_pos hl] at ob; exact ho ob
      · rw [if_pos rfl, if_neg hl] at ob; exact ob
    rw [List.getElem?_set_ne na] at oa h1; rw [List.getElem?_set_ne nb] at ob h2
    exact h.dis a b p hab oa ob h1 h2
/-- a slot takes an object of its own -/
theorem Sl.setOb {F H : Hp} {σ : L2.St} {Γ : Gam} {i : Nat} {p : Addr} {o : HO} {α : Type} {c : CodO α} {ds : α} (h : Sl F H σ Γ) (h1 : F p = none) (h2 : H p = some o) (h3 : c.rep F o ds)
    (hd : ∀ j, j ≠ i → IsOwn Γ[j]? → σ[j]? ≠ some (some (.ref p))) : Sl F H (σ.set i (some (.ref p))) (Γ.set i (.ob c ds)) := by
  refine ⟨h.ex, by simp [h.len], fun j t f e1 e2 => ?_, fun a b q hab oa ob e1 e2 => ?_⟩
  · rw [List.getElem?_set] at e1 e2
    by_cases hj : i = j
    · subst hj
      by_cases hl : i < σ.length
      · have hl2 : i < Γ.length := h.len ▸ hl
        rw [if_pos rfl, if_pos hl] at e1; rw [if_pos rfl, if_pos hl2] at e2
        cases e1; cases e2; exact ⟨p, o, rfl, h1, h2, h3⟩
      · rw [if_pos rfl, if_neg hl] at e1; cases e1
    · rw [if_neg hj] at e1 e2; exact h.ok j t f e1 e2
  · by_cases ha : i = a
    · subst ha
      have hb : i ≠ b := hab
      rw [List.getElem?_set_ne hb] at ob e2
      rw [List.getElem?_set] at e1
      by_cases hl : i < σ.length
      · rw [if_pos rfl, if_pos hl] at e1; cases e1; exact hd b (Ne.symm hb) ob e2
      · rw [if_pos rfl, if_neg hl] at e1; cases e1
    · rw [List.getElem?_set_ne ha] at oa e1
      by_cases hb : i = b
      · subst hb
        rw [List.getElem?_set] at e2
        by_cases hl : i < σ.length
        · rw [if_pos rfl, if_pos hl] at e2; cases e2; exact hd a (Ne.symm ha) oa e1
        · rw [if_pos rfl, if_neg hl] at e2; cases e2
      · rw [List.getElem?_set_ne hb] at ob e2; exact h.dis a b q hab oa ob e1 e2
theorem Sl.setOwn {F H : Hp} {σ : L2.St} {Γ : Gam} {i : Nat} {p : Addr} {vs : List V} {α : Type} {c : Cod α} {ds : List α} (h : Sl F H σ Γ) (h1 : F p = none) (h2 : H p = some (.lst vs)) (h3 : Reps c F vs ds)
    (hd : ∀ j, j ≠ i → IsOwn Γ[j]? → σ[j]? ≠ some (some (.ref p))) : Sl F H (σ.set i (some (.ref p))) (Γ.set i (.own c ds)) := h.setOb h1 h2 (c := cLst c) ⟨vs, rfl, h3⟩ hd
/-- an object of one's own changes -/
theorem Sl.writeOb {F H : Hp} {σ : L2.St} {Γ : Gam} {i : Nat} {p : Addr} {w : HO} {α β : Type} {c0 : CodO β} {ds0 : β} {c : CodO α} {ds : α} (h : Sl F H σ Γ) (e : Γ[i]? = some (.ob c0 ds0)) (hp : σ[i]? = some (some (.ref p))) (h1 : F p = none) (h3 : c.rep F w ds) :
    Sl F (upd H p w) σ (Γ.set i (.ob c ds)) := by
  refine ⟨h.ex.mut h1, by simp [h.len], fun j t f e1 e2 => ?_, fun a b q hab oa ob => h.dis a b q hab ?_ ?_⟩
  · rw [List.getElem?_set] at e2
    by_cases hj : i = j
    · subst hj
      have hl2 : i < Γ.length := (List.getElem?_eq_some_iff.mp e).1
      rw [if_pos rfl, if_pos hl2] at e2
      cases e2; rw [hp] at e1; cases e1
      exact ⟨p, w, rfl, h1, upd_same, h3⟩
    · rw [if_neg hj] at e2
      have k := h.ok j t f e1 e2
      cases f with
      | any => trivial
      | val c d => exact k
      | ob c ds =>
        obtain ⟨p2, vs2, k1, k2, k3, k4⟩ := k
        subst k1
        refine ⟨p2, vs2, rfl, k2, ?_, k4⟩
        have np : p2 ≠ p := fun z => by
          subst z
          exact h.dis i j p2 hj (by rw [e]; trivial) (by rw [e2]; trivial) hp e1
        rw [upd_ne np]; exact k3
  · rw [List.getElem?_set] at oa
    by_cases z : i = a
    · subst z; rw [e]; trivial
    · rw [if_neg z] at oa; exact oa
  · rw [List.getElem?_set] at ob
    by_cases z : i = b
    · subst z; rw [e]; trivial
    · rw [if_neg z] at ob; exact ob
theorem Sl.write {F H : Hp} {σ : L2.St} {Γ : Gam} {i : Nat} {p : Addr} {vs : List V} {α β : Type} {c0 : Cod β} {ds0 : List β} {c : Cod α} {ds : List α} (h : Sl F H σ Γ) (e : Γ[i]? = some (.own c0 ds0)) (hp : σ[i]? = some (some (.ref p))) (h1 : F p = none) (h3 : Reps c F vs ds) :
    Sl F (upd H p (.lst vs)) σ (Γ.set i (.own c ds)) := h.writeOb e hp h1 (c := cLst c) ⟨vs, rfl, h3⟩
end Pw

namespace Pw
open PySem L2
/-! ### data compared -/
structure CodD {α : Type} (K : PySem.W.Frag) (c : Cod α) where
  dat : α → PyData
  n : Nat
  dp : ∀ {H : Hp} {v : V} {d : α}, c.rep H v d → Dp K H v (dat d)
  lay : ∀ d, PyData.canLay0 (dat d) = true
  deep : ∀ d, PyData.depth (dat d) ≤ n
  dec : DecidableEq α
  eqv : ∀ a b, PyData.eqv (dat a) (dat b) = (dec a b).decide
def dInt {K : PySem.W.Frag} : CodD K cInt := ⟨fun i => .int i, 0, fun {H v d} h => by cases (show v = .int d from h); exact .int d, fun _ => rfl, fun _ => Nat.le_refl _, inferInstance, fun a b => by
  show (a == b) = decide (a = b); rfl⟩
def dBool {K : PySem.W.Frag} : CodD K cBool := ⟨fun i => .bool i, 0, fun {H v d} h => by cases (show v = .bl d from h); exact .bl d, fun _ => rfl, fun _ => Nat.le_refl _, inferInstance, fun a b => by
  show (a == b) = decide (a = b); cases a <;> cases b <;> rfl⟩
structure CodDA {α : Type} (K : PySem.W.Frag) (c : CodA α) where
  dat : α → List PyData
  n : Nat
  dp : ∀ {H : Hp} {v : List V} {d : α}, c.rep H v d → DpAll K H v (dat d)
  lay : ∀ d, PyData.canLayAll0 (dat d) = true
  deep : ∀ d, PyData.depthAll (dat d) ≤ n
  dec : DecidableEq α
  eqv : ∀ a b, PyData.eqvAll (dat a) (dat b) = (dec a b).decide
def daNil {K : PySem.W.Frag} : CodDA K aNil := ⟨fun _ => [], 0, fun {H v d} h => by cases (show v = [] from h); exact .nil, fun _ => rfl, fun _ => Nat.le_refl _, inferInstance, fun a b => rfl⟩
theorem dec_decide {α : Type} (i : DecidableEq α) (a b : α) : (i a b).decide = true ↔ a = b := by
  constructor
  · intro h; exact of_decide_eq_true h
  · intro h; exact decide_eq_true h
def daCons {α β : Type} {K : PySem.W.Frag} {c : Cod α} {r : CodA β} (x : CodD K c) (y : CodDA K r) : CodDA K (aCons c r) :=
  ⟨fun d => x.dat d.1 :: y.dat d.2, max x.n y.n, fun {H v d} h => by obtain ⟨v, ws, e, h2, h3⟩ := h; subst e; exact .cons (x.dp h2) (y.dp h3),
   fun d => by show (PyData.canLay0 _ && PyData.canLayAll0 _) = true; rw [x.lay, y.lay]; rfl,
   fun d => by show max (PyData.depth _) (PyData.depthAll _) ≤ _; have := x.deep d.1; have := y.deep d.2; omega,
   (letI := x.dec; letI := y.dec; inferInstance), fun a b => by
     show (PyData.eqv _ _ && PyData.eqvAll _ _) = _
     rw [x.eqv, y.eqv]
     refine Bool.eq_iff_iff.mpr ?_
     rw [Bool.and_eq_true, dec_decide, dec_decide, dec_decide]
     exact ⟨fun ⟨p, q⟩ => Prod.ext p q, fun h => ⟨congrArg Prod.fst h, congrArg Prod.snd h⟩⟩⟩
def dTup {α : Type} {K : PySem.W.Frag} {r : CodA α} (y : CodDA K r) : CodD K (cTup K r) :=
  ⟨fun d => .tuple (y.dat d), y.n + 1, fun {H v d} h => by obtain ⟨a, vs, e, h2, h3⟩ := h; subst e; exact .tup h2 (y.dp h3), fun d => y.lay d,
   fun d => Nat.succ_le_succ (y.deep d), y.dec, fun a b => y.eqv a b⟩
def dMap {α β : Type} {K : PySem.W.Frag} {c : Cod α} (x : CodD K c) (f : β → α) (g : α → β) (hg : ∀ b, g (f b) = b) (hd : DecidableEq β) : CodD K (cMap c f) :=
  ⟨fun d => x.dat (f d), x.n, fun h => x.dp h, fun d => x.lay _, fun d => x.deep _, hd, fun a b => by
    rw [x.eqv]; refine Bool.eq_iff_iff.mpr ?_; rw [dec_decide, dec_decide]
    exact ⟨fun h => by rw [← hg a, h, hg], fun h => congrArg f h⟩⟩
def dPair {α β : Type} {K : PySem.W.Frag} {c : Cod α} {d : Cod β} (x : CodD K c) (y : CodD K d) : CodD K (cPair K c d) :=
  dMap (dTup (daCons x (daCons y daNil))) _ (fun q => (q.1, q.2.1)) (fun _ => rfl) (letI := x.dec; letI := y.dec; inferInstance)
def dTri {α β γ : Type} {K : PySem.W.Frag} {c : Cod α} {d : Cod β} {e : Cod γ} (x : CodD K c) (y : CodD K d) (z : CodD K e) : CodD K (cTri K c d e) :=
  dMap (dTup (daCons x (daCons y (daCons z daNil)))) _ (fun q => (q.1, q.2.1, q.2.2.1)) (fun _ => rfl) (letI := x.dec; letI := y.dec; letI := z.dec; inferInstance)
theorem reps_dp {α : Type} {K : PySem.W.Frag} {c : Cod α} (x : CodD K c) {H : Hp} : ∀ {vs : List V} {ds : List α}, Reps c H vs ds → DpAll K H vs (ds.map x.dat)
  | [], [], _ => .nil
  | _ :: _, _ :: _, h => .cons (x.dp h.1) (reps_dp x h.2)
  | [], _ :: _, h => h.elim
  | _ :: _, [], h => h.elim
theorem lay_map {α : Type} {K : PySem.W.Frag} {c : Cod α} (x : CodD K c) : ∀ ds : List α, PyData.canLayAll0 (ds.map x.dat) = true
  | [] => rfl
  | d :: ds => by show (PyData.canLay0 _ && PyData.canLayAll0 _) = true; rw [x.lay, lay_map x ds]; rfl
theorem deep_map {α : Type} {K : PySem.W.Frag} {c : Cod α} (x : CodD K c) : ∀ ds : List α, PyData.depthAll (ds.map x.dat) ≤ x.n
  | [] => Nat.zero_le _
  | d :: ds => by show max (PyData.depth _) (PyData.depthAll _) ≤ _; have := x.deep d; have := deep_map x ds; omega
theorem eqv_map {α : Type} {K : PySem.W.Frag} {c : Cod α} (x : CodD K c) : ∀ as bs : List α, PyData.eqvAll (as.map x.dat) (bs.map x.dat) = true ↔ as = bs
  | [], [] => ⟨fun _ => rfl, fun _ => rfl⟩
  | a :: as, b :: bs => by
    show (PyData.eqv _ _ && PyData.eqvAll _ _) = true ↔ _
    rw [x.eqv, Bool.and_eq_true, dec_decide, eqv_map x as bs, List.cons.injEq]
  | [], _ :: _ => ⟨fun h => (by cases h), fun h => (by cases h)⟩
  | _ :: _, [] => ⟨fun h => (by cases h), fun h => (by cases h)⟩
def dList {α : Type} {K : PySem.W.Frag} {c : Cod α} (x : CodD K c) : CodD K (cList K c) :=
  ⟨fun ds => .list (ds.map x.dat), x.n + 1, fun {H v d} h => by obtain ⟨a, vs, e, h2, h3⟩ := h; subst e; exact .lst h2 (reps_dp x h3), fun ds => lay_map x ds,
   fun ds => Nat.succ_le_succ (deep_map x ds), (letI := x.dec; inferInstance), fun a b => by
     refine Bool.eq_iff_iff.mpr ?_; rw [dec_decide]; exact eqv_map x a b⟩
theorem CodD.shaped {α : Type} {K : PySem.W.Frag} {c : Cod α} (x : CodD K c) (hn : x.n ≤ 64) (d : α) : SeqAt.shaped (x.dat d) = true := by
  unfold SeqAt.shaped; rw [x.lay, decide_eq_true (Nat.le_trans (x.deep d) hn)]; rfl
/-! ### what evaluates to what -/
def Ev {α : Type} (Γ : Gam) (te : TE) (c : Cod α) (d : α) : Prop := ∀ F H σ, Sl F H σ Γ → ∀ Q : VK, (∀ v F' H', Ext F H F' H' → c.rep F' v d → Q v H') → te σ H Q
def EvN {α : Type} (Γ : Gam) (te : TE) (c : Cod α) (ds : List α) : Prop := ∀ F H σ, Sl F H σ Γ → ∀ Q : VK, (∀ p vs F' H', Ext F H F' H' → H p = none → F' p = none → H' p = some (.lst vs) → Reps c F' vs ds → Q (.ref p) H') → te σ H Q
def EvT (Γ : Gam) (tt : TT) (b : Bool) : Prop := ∀ F H σ, Sl F H σ Γ → ∀ Q : Bool → Hp → Prop, (∀ F' H', Ext F H F' H' → Q b H') → tt σ H Q
def EvA {α : Type} (Γ : Gam) (ta : TA) (c : CodA α) (d : α) : Prop := ∀ F H σ, Sl F H σ Γ → ∀ Q : List V → Hp → Prop, (∀ vs F' H', Ext F H F' H' → c.rep F' vs d → Q vs H') → ta σ H Q
/-- items of one kind -/
def EvL {α : Type} (Γ : Gam) (ta : TA) (c : Cod α) (ds : List α) : Prop := ∀ F H σ, Sl F H σ Γ → ∀ Q : List V → Hp → Prop, (∀ vs F' H', Ext F H F' H' → Reps c F' vs ds → Q vs H') → ta σ H Q
def EvO (Γ : Gam) (to : TO) (o : Option Int) : Prop := ∀ F H σ, Sl F H σ Γ → ∀ Q : Option Int → Hp → Prop, (∀ F' H', Ext F H F' H' → Q o H') → to σ H Q
section
variable {K : PySem.W.Frag} {Γ : Gam} {ta tb tc te : TE} {α β γ : Type} {c : Cod α} {d : α} {c2 : Cod β} {d2 : β}
theorem ev_is {d' : α} (h : Ev Γ te c d) (e : d = d') : Ev Γ te c d' := e ▸ h
theorem evT_is {tt : TT} {b b' : Bool} (h : EvT Γ tt b) (e : b = b') : EvT Γ tt b' := e ▸ h
theorem evN_is {d d' : List α} (h : EvN Γ te c d) (e : d = d') : EvN Γ te c d' := e ▸ h
theorem ev_var {i : Nat} (e : Γ[i]? = some (.val c d)) : Ev Γ (tVar i) c d := fun F H σ S Q q => by
  obtain ⟨v, h1, h2⟩ := S.var e
  exact ⟨v, h1, q v F H (Ext.refl S.ex) h2⟩
theorem ev_c {v : V} (h : ∀ F, c.rep F v d) : Ev Γ (tC v) c d := fun F H σ S Q q => q v F H (Ext.refl S.ex) (h F)
theorem ev_int {i : Int} : Ev Γ (tC (.int i)) cInt i := ev_c fun _ => rfl
theorem ev_bl {i : Bool} : Ev Γ (tC (.bl i)) cBool i := ev_c fun _ => rfl
theorem ev_str {i : Str} : Ev Γ (tC (.str i)) cStr i := ev_c fun _ => rfl
theorem ev_non : Ev Γ (tC .non) cNon () := ev_c fun _ => rfl
/-- a new list as a lasting one -/
theorem EvN.ev {ds : List α} (h : EvN Γ te c ds) : Ev Γ te (cList K c) ds := fun F H σ S Q q => h F H σ S Q fun p vs F' H' x h1 h2 h3 h4 =>
  q (.ref p) (upd F' p (.lst vs)) H' ⟨x.f.trans (Ex.new h2), x.h, fun a o e => by
    by_cases z : a = p
    · subst z; rw [upd_same] at e; cases e; exact h3
    · rw [upd_ne z] at e; exact x.i a o e, fun a o e => by
    by_cases z : a = p
    · subst z; exact .inr h1
    · rw [upd_ne z] at e; exact x.n a o e⟩ ⟨p, vs, rfl, .inl (.inl upd_same), h4.mono (Ex.new h2)⟩
theorem ev_mono_op {r : R2} {c3 : Cod γ} {d3 : γ} (h1 : Ev Γ ta c d) (h2 : Ev Γ tb c2 d2)
    (hr : ∀ F H x y, Ex F H → c.rep F x d → c2.rep F y d2 → ∀ Q : VK, (∀ v F' H', Ext F H F' H' → c3.rep F' v d3 → Q v H') → r x y H Q) : Ev Γ (tOp r ta tb) c3 d3 := fun F H σ S Q q =>
  h1 F H σ S _ fun x F1 H1 e1 r1 => h2 F1 H1 σ (S.grow e1) _ fun y F2 H2 e2 r2 => hr F2 H2 x y e2.i (c.mono e2.f r1) r2 Q fun v F' H' e3 r3 => q v F' H' ((e1.trans e2).trans e3) r3
theorem ev_mono_opN {r : R2} {c3 : Cod γ} {d3 : List γ} (h1 : Ev Γ ta c d) (h2 : Ev Γ tb c2 d2)
    (hr : ∀ F H x y, Ex F H → c.rep F x d → c2.rep F y d2 → ∀ Q : VK, (∀ p vs F' H', Ext F H F' H' → H p = none → F' p = none → H' p = some (.lst vs) → Reps c3 F' vs d3 → Q (.ref p) H') → r x y H Q) : EvN Γ (tOp r ta tb) c3 d3 := fun F H σ S Q q =>
  h1 F H σ S _ fun x F1 H1 e1 r1 => h2 F1 H1 σ (S.grow e1) _ fun y F2 H2 e2 r2 => hr F2 H2 x y e2.i (c.mono e2.f r1) r2 Q fun p vs F' H' e3 k1 k2 k3 k4 => q p vs F' H' ((e1.trans e2).trans e3) ((e1.trans e2).h.free k1) k2 k3 k4
/-- two whole numbers -/
theorem ev_ii {C : Int → Int → Prop} {k : Int → Int → Int} {i j : Int} (h1 : Ev Γ ta cInt i) (h2 : Ev Γ tb cInt j) (hc : C i j) : Ev Γ (tOp (rI C fun i j => .int (k i j)) ta tb) cInt (k i j) :=
  ev_mono_op h1 h2 fun F H x y e r1 r2 Q q => ⟨i, j, r1, r2, hc, q _ F H (Ext.refl e) rfl⟩
theorem ev_ii0 {k : Int → Int → Int} {i j : Int} (h1 : Ev Γ ta cInt i) (h2 : Ev Γ tb cInt j) : Ev Γ (tOp (rI0 fun i j => .int (k i j)) ta tb) cInt (k i j) :=
  ev_mono_op h1 h2 fun F H x y e r1 r2 Q q => ⟨i, j, r1, r2, q _ F H (Ext.refl e) rfl⟩
theorem ev_iib {k : Int → Int → Bool} {i j : Int} (h1 : Ev Γ ta cInt i) (h2 : Ev Γ tb cInt j) : Ev Γ (tOp (rI0 fun i j => .bl (k i j)) ta tb) cBool (k i j) :=
  ev_mono_op h1 h2 fun F H x y e r1 r2 Q q => ⟨i, j, r1, r2, q _ F H (Ext.refl e) rfl⟩
theorem ev_neg {i : Int} (h1 : Ev Γ ta cInt i) : Ev Γ (tUn (rU fun i => .int (-i)) ta) cInt (-i) := fun F H σ S Q q =>
  h1 F H σ S _ fun x F1 H1 e1 r1 => ⟨i, r1, q _ F1 H1 e1 rfl⟩
/-- == of scalars -/
theorem ev_eqI {i j : Int} (h1 : Ev Γ ta cInt i) (h2 : Ev Γ tb cInt j) : Ev Γ (tOp rEq ta tb) cBool (decide (i = j)) :=
  ev_mono_op h1 h2 fun F H x y e r1 r2 Q q => by
    cases (show x = .int i from r1); cases (show y = .int j from r2)
    exact ⟨rfl, q _ F H (Ext.refl e) (by show V.bl (decide (V.int i = V.int j)) = V.bl (decide (i = j)); simp)⟩
theorem ev_neI {i j : Int} (h1 : Ev Γ ta cInt i) (h2 : Ev Γ tb cInt j) : Ev Γ (tOp rNe ta tb) cBool (!decide (i = j)) :=
  ev_mono_op h1 h2 fun F H x y e r1 r2 Q q => by
    cases (show x = .int i from r1); cases (show y = .int j from r2)
    exact ⟨rfl, q _ F H (Ext.refl e) (by show V.bl (!decide (V.int i = V.int j)) = V.bl (!decide (i = j)); simp)⟩
theorem ev_eqB {i j : Bool} (h1 : Ev Γ ta cBool i) (h2 : Ev Γ tb cBool j) : Ev Γ (tOp rEq ta tb) cBool (decide (i = j)) :=
  ev_mono_op h1 h2 fun F H x y e r1 r2 Q q => by
    cases (show x = .bl i from r1); cases (show y = .bl j from r2)
    exact ⟨rfl, q _ F H (Ext.refl e) (by show V.bl (decide (V.bl i = V.bl j)) = V.bl (decide (i = j)); simp)⟩
theorem ev_neB {i j : Bool} (h1 : Ev Γ ta cBool i) (h2 : Ev Γ tb cBool j) : Ev Γ (tOp rNe ta tb) cBool (!decide (i = j)) :=
  ev_mono_op h1 h2 fun F H x y e r1 r2 Q q => by
    cases (show x = .bl i from r1); cases (show y = .bl j from r2)
    exact ⟨rfl, q _ F H (Ext.refl e) (by show V.bl (!decide (V.bl i = V.bl j)) = V.bl (!decide (i = j)); simp)⟩
theorem ev_eqS {i j : Str} (h1 : Ev Γ ta cStr i) (h2 : Ev Γ tb cStr j) : Ev Γ (tOp rEq ta tb) cBool (decide (i = j)) :=
  ev_mono_op h1 h2 fun F H x y e r1 r2 Q q => by
    cases (show x = .str i from r1); cases (show y = .str j from r2)
    exact ⟨rfl, q _ F H (Ext.refl e) (by show V.bl (decide (V.str i = V.str j)) = V.bl (decide (i = j)); simp)⟩
/-- == of data -/
theorem ev_eqD {d d2 : α} (x : CodD K c) (hn : x.n ≤ 64) (h1 : Ev Γ ta c d) (h2 : Ev Γ tb c d2) : Ev Γ (tOp (rEqD K) ta tb) cBool (x.dec d d2).decide :=
  ev_mono_op h1 h2 fun F H u v e r1 r2 Q q => ⟨x.dat d, x.dat d2, x.dp (c.mono e r1), x.dp (c.mono e r2), x.shaped hn d, x.shaped hn d2, q _ F H (Ext.refl e) (congrArg V.bl (x.eqv d d2))⟩
theorem ev_neD {d d2 : α} (x : CodD K c) (hn : x.n ≤ 64) (h1 : Ev Γ ta c d) (h2 : Ev Γ tb c d2) : Ev Γ (tOp (rNeD K) ta tb) cBool (!(x.dec d d2).decide) :=
  ev_mono_op h1 h2 fun F H u v e r1 r2 Q q => ⟨x.dat d, x.dat d2, x.dp (c.mono e r1), x.dp (c.mono e r2), x.shaped hn d, x.shaped hn d2, q _ F H (Ext.refl e) (congrArg (fun z => V.bl (!z)) (x.eqv d d2))⟩
/-! tests -/
theorem evT_test {b : Bool} (h : Ev Γ te cBool b) : EvT Γ (tTest te) b := fun F H σ S Q q => h F H σ S _ fun v F1 H1 e1 r1 => ⟨b, r1, q F1 H1 e1⟩
theorem evT_B {b : Bool} (h : Ev Γ te cBool b) : EvT Γ (tB te) b := fun F H σ S Q q => h F H σ S _ fun v F1 H1 e1 r1 => ⟨b, r1, q F1 H1 e1⟩
theorem evT_and {t u : TT} {a b : Bool} (h1 : EvT Γ t a) (h2 : a = true → EvT Γ u b) : EvT Γ (tAnd t u) (a && b) := fun F H σ S Q q => h1 F H σ S _ fun F1 H1 e1 => by
  cases a with
  | true => exact iteT (h2 rfl F1 H1 σ (S.grow e1) Q fun F2 H2 e2 => q F2 H2 (e1.trans e2))
  | false => exact iteF (q F1 H1 e1)
theorem evT_or {t u : TT} {a b : Bool} (h1 : EvT Γ t a) (h2 : a = false → EvT Γ u b) : EvT Γ (tOr t u) (a || b) := fun F H σ S Q q => h1 F H σ S _ fun F1 H1 e1 => by
  cases a with
  | true => exact iteT (q F1 H1 e1)
  | false => exact iteF (h2 rfl F1 H1 σ (S.grow e1) Q fun F2 H2 e2 => q F2 H2 (e1.trans e2))
theorem evT_not {t : TT} {a : Bool} (h1 : EvT Γ t a) : EvT Γ (tNot t) (!a) := fun F H σ S Q q => h1 F H σ S _ fun F1 H1 e1 => q F1 H1 e1
theorem ev_andV {a b : Bool} (h1 : Ev Γ ta cBool a) (h2 : a = true → Ev Γ tb cBool b) : Ev Γ (tAndV ta tb) cBool (a && b) := fun F H σ S Q q => h1 F H σ S _ fun v F1 H1 e1 r1 => ⟨a, r1, by
  cases a with
  | true => exact iteT (h2 rfl F1 H1 σ (S.grow e1) Q fun v F2 H2 e2 r2 => q v F2 H2 (e1.trans e2) r2)
  | false => exact iteF (q _ F1 H1 e1 rfl)⟩
theorem ev_orV {a b : Bool} (h1 : Ev Γ ta cBool a) (h2 : a = false → Ev Γ tb cBool b) : Ev Γ (tOrV ta tb) cBool (a || b) := fun F H σ S Q q => h1 F H σ S _ fun v F1 H1 e1 r1 => ⟨a, r1, by
  cases a with
  | true => exact iteT (q _ F1 H1 e1 rfl)
  | false => exact iteF (h2 rfl F1 H1 σ (S.grow e1) Q fun v F2 H2 e2 r2 => q v F2 H2 (e1.trans e2) r2)⟩
theorem ev_notV {a : Bool} (h1 : Ev Γ ta cBool a) : Ev Γ (tNotV ta) cBool (!a) := fun F H σ S Q q => h1 F H σ S _ fun v F1 H1 e1 r1 => ⟨a, r1, q _ F1 H1 e1 rfl⟩
theorem ev_if {t : TT} {b : Bool} {d d' : α} (h : EvT Γ t b) (h1 : b = true → Ev Γ ta c d) (h2 : b = false → Ev Γ tb c d') : Ev Γ (tIf t ta tb) c (if b = true then d else d') := fun F H σ S Q q => h F H σ S _ fun F1 H1 e1 => by
  cases b with
  | true => exact iteT (h1 rfl F1 H1 σ (S.grow e1) Q fun v F2 H2 e2 r2 => q v F2 H2 (e1.trans e2) r2)
  | false => exact iteF (h2 rfl F1 H1 σ (S.grow e1) Q fun v F2 H2 e2 r2 => q v F2 H2 (e1.trans e2) r2)
/-! arguments, tuples, lists -/
theorem ea_nil : EvA Γ tNil aNil () := fun F H σ S Q q => q [] F H (Ext.refl S.ex) rfl
theorem ea_cons {tr : TA} {r : CodA β} {ds : β} (h : Ev Γ ta c d) (hr : EvA Γ tr r ds) : EvA Γ (tCons ta tr) (aCons c r) (d, ds) := fun F H σ S Q q =>
  h F H σ S _ fun v F1 H1 e1 r1 => hr F1 H1 σ (S.grow e1) _ fun vs F2 H2 e2 r2 => q _ F2 H2 (e1.trans e2) ⟨v, vs, rfl, c.mono e2.f r1, r2⟩
theorem el_nil : EvL Γ tNil c [] := fun F H σ S Q q => q [] F H (Ext.refl S.ex) trivial
theorem el_cons {tr : TA} {ds : List α} (h : Ev Γ ta c d) (hr : EvL Γ tr c ds) : EvL Γ (tCons ta tr) c (d :: ds) := fun F H σ S Q q =>
  h F H σ S _ fun v F1 H1 e1 r1 => hr F1 H1 σ (S.grow e1) _ fun vs F2 H2 e2 r2 => q _ F2 H2 (e1.trans e2) ⟨c.mono e2.f r1, r2⟩
theorem aRep_len {α : Type} {tr : TA} {r : CodA α} {ds : α} {n : Nat} (h : ∀ F vs, r.rep F vs ds → vs.length = n) : ∀ F vs, r.rep F vs ds → vs.length = n := h
theorem sz_of {n : Nat} (h : n ≤ 1000000) : n ≤ sizeLine := Nat.le_trans h (by decide)
theorem sz_lt {n : Nat} (h : n < 1000000) : n < sizeLine := Nat.lt_of_lt_of_le h (by decide)
theorem ev_tup {tr : TA} {r : CodA α} {ds : α} (h : EvA Γ tr r ds) (n : Nat) (hl : ∀ F vs, r.rep F vs ds → vs.length = n) (hn : n ≤ 1000000) : Ev Γ (tTup tr) (cTup K r) ds := fun F H σ S Q q =>
  h F H σ S _ fun vs F1 H1 e1 r1 => ⟨by rw [hl _ _ r1]; exact sz_of hn, fun p hp => q _ _ _ (e1.trans (Ext.new e1.i hp)) ⟨p, vs, rfl, .inl (.inl upd_same), r.mono (Ex.new (e1.i.free hp)) r1⟩⟩
theorem ev_pair {c : Cod α} {c2 : Cod β} {d : α} {d2 : β} (h1 : Ev Γ ta c d) (h2 : Ev Γ tb c2 d2) : Ev Γ (tTup (tCons ta (tCons tb tNil))) (cPair K c c2) (d, d2) :=
  ev_tup (ea_cons h1 (ea_cons h2 ea_nil)) 2 (fun _ _ h => by obtain ⟨_, _, rfl, _, _, _, rfl, _, h⟩ := h; cases (show _ = [] from h); rfl) (by decide)
theorem ev_tri {c : Cod α} {c2 : Cod β} {c3 : Cod γ} {d : α} {d2 : β} {d3 : γ} (h1 : Ev Γ ta c d) (h2 : Ev Γ tb c2 d2) (h3 : Ev Γ tc c3 d3) : Ev Γ (tTup (tCons ta (tCons tb (tCons tc tNil)))) (cTri K c c2 c3) (d, d2, d3) :=
  ev_tup (ea_cons h1 (ea_cons h2 (ea_cons h3 ea_nil))) 3 (fun _ _ h => by obtain ⟨_, _, rfl, _, _, _, rfl, _, _, _, rfl, _, h⟩ := h; cases (show _ = [] from h); rfl) (by decide)
theorem evN_lst {tr : TA} {ds : List α} (h : EvL Γ tr c ds) (hn : ds.length ≤ 1000000) : EvN Γ (tLst tr) c ds := fun F H σ S Q q =>
  h F H σ S _ fun vs F1 H1 e1 r1 => ⟨by rw [r1.len]; exact sz_of hn, fun p hp => q p vs F1 _ (e1.trans (Ext.aside e1.i hp)) (e1.h.free hp) (e1.i.free hp) upd_same r1⟩
/-! places -/
theorem atI_nat' {α : Type} {xs : List α} {j : Nat} {x : α} (h : xs[j]? = some x) : atI xs (j : Int) = some x := by
  have hj : j < xs.length := (List.getElem?_eq_some_iff.mp h).1
  unfold atI ixN
  rw [if_pos (by omega), if_pos (by omega)]
  simpa using h
theorem atI_reps {F : Hp} {vs : List V} {ds : List α} {i : Int} {x : α} (h : Reps c F vs ds) (e : atI ds i = some x) : ∃ v, atI vs i = some v ∧ c.rep F v x := by
  unfold atI at e ⊢
  rw [h.len]
  cases q : ixN ds.length i with
  | none => rw [q] at e; cases e
  | some j =>
    rw [q] at e
    exact h.get (show ds[j]? = some x from e)
theorem ev_ixL {ds : List α} {i : Int} {x : α} (h1 : Ev Γ ta (cList K c) ds) (h2 : Ev Γ tb cInt i) (e : atI ds i = some x) : Ev Γ (tOp (rIxL K) ta tb) c x :=
  ev_mono_op h1 h2 fun F H u v ex r1 r2 Q q => by
    obtain ⟨a, vs, rfl, hs, hr⟩ := r1
    obtain ⟨w, hw, rw⟩ := atI_reps hr e
    exact ⟨a, vs, i, w, rfl, r2, ex_l ex hs, hw, q _ F H (Ext.refl ex) rw⟩
/-- a place of one's own list -/
theorem ev_ixO {ds : List α} {i : Int} {x : α} {k : Nat} (h1 : Γ[k]? = some (.own c ds)) (h2 : Ev Γ tb cInt i) (e : atI ds i = some x) : Ev Γ (tOp (rIxL K) (tVar k) tb) c x := fun F H σ S Q q => by
  obtain ⟨p, vs, k1, k2, k3, k4⟩ := S.owned h1
  refine ⟨.ref p, k1, h2 F H σ S _ fun y F1 H1 e1 r1 => ?_⟩
  obtain ⟨w, hw, rw⟩ := atI_reps k4 e
  exact ⟨p, vs, i, w, rfl, r1, .inl (.inl (e1.h p _ k3)), hw, q _ F1 H1 e1 (c.mono e1.f rw)⟩
theorem ev_ixTL {ds : List α} {i : Int} {x : α} (h1 : Ev Γ ta (cTupL K c) ds) (h2 : Ev Γ tb cInt i) (e : atI ds i = some x) : Ev Γ (tOp (rIxT K) ta tb) c x :=
  ev_mono_op h1 h2 fun F H u v ex r1 r2 Q q => by
    obtain ⟨a, vs, rfl, hs, hr⟩ := r1
    obtain ⟨w, hw, rw⟩ := atI_reps hr e
    exact ⟨a, vs, i, w, rfl, r2, ex_t ex hs, hw, q _ F H (Ext.refl ex) rw⟩
/-- a tuple's places -/
theorem ev_p0 {c : Cod α} {c2 : Cod β} {d : α × β} (h1 : Ev Γ ta (cPair K c c2) d) : Ev Γ (tOp (rIxT K) ta (tC (.int 0))) c d.1 :=
  ev_mono_op h1 ev_int fun F H u v ex r1 r2 Q q => by
    obtain ⟨a, vs, rfl, hs, x, _, rfl, hx, y, _, rfl, hy, h⟩ := r1
    cases (show _ = [] from h); cases r2
    exact ⟨a, _, 0, x, rfl, rfl, ex_t ex hs, rfl, q _ F H (Ext.refl ex) hx⟩
theorem ev_p1 {c : Cod α} {c2 : Cod β} {d : α × β} (h1 : Ev Γ ta (cPair K c c2) d) : Ev Γ (tOp (rIxT K) ta (tC (.int 1))) c2 d.2 :=
  ev_mono_op h1 ev_int fun F H u v ex r1 r2 Q q => by
    obtain ⟨a, vs, rfl, hs, x, _, rfl, hx, y, _, rfl, hy, h⟩ := r1
    cases (show _ = [] from h); cases r2
    exact ⟨a, _, 1, y, rfl, rfl, ex_t ex hs, rfl, q _ F H (Ext.refl ex) hy⟩
theorem ev_t0 {c : Cod α} {c2 : Cod β} {c3 : Cod γ} {d : α × β × γ} (h1 : Ev Γ ta (cTri K c c2 c3) d) : Ev Γ (tOp (rIxT K) ta (tC (.int 0))) c d.1 :=
  ev_mono_op h1 ev_int fun F H u v ex r1 r2 Q q => by
    obtain ⟨a, vs, rfl, hs, x, _, rfl, hx, y, _, rfl, hy, z, _, rfl, hz, h⟩ := r1
    cases (show _ = [] from h); cases r2
    exact ⟨a, _, 0, x, rfl, rfl, ex_t ex hs, rfl, q _ F H (Ext.refl ex) hx⟩
theorem ev_t1 {c : Cod α} {c2 : Cod β} {c3 : Cod γ} {d : α × β × γ} (h1 : Ev Γ ta (cTri K c c2 c3) d) : Ev Γ (tOp (rIxT K) ta (tC (.int 1))) c2 d.2.1 :=
  ev_mono_op h1 ev_int fun F H u v ex r1 r2 Q q => by
    obtain ⟨a, vs, rfl, hs, x, _, rfl, hx, y, _, rfl, hy, z, _, rfl, hz, h⟩ := r1
    cases (show _ = [] from h); cases r2
    exact ⟨a, _, 1, y, rfl, rfl, ex_t ex hs, rfl, q _ F H (Ext.refl ex) hy⟩
theorem ev_t2 {c : Cod α} {c2 : Cod β} {c3 : Cod γ} {d : α × β × γ} (h1 : Ev Γ ta (cTri K c c2 c3) d) : Ev Γ (tOp (rIxT K) ta (tC (.int 2))) c3 d.2.2 :=
  ev_mono_op h1 ev_int fun F H u v ex r1 r2 Q q => by
    obtain ⟨a, vs, rfl, hs, x, _, rfl, hx, y, _, rfl, hy, z, _, rfl, hz, h⟩ := r1
    cases (show _ = [] from h); cases r2
    exact ⟨a, _, 2, z, rfl, rfl, ex_t ex hs, rfl, q _ F H (Ext.refl ex) hz⟩
/-! calls of built-ins -/
def rOne (g : V → Hp → VK → Prop) : List V → Hp → VK → Prop := fun xs H Q => ∃ x, xs = [x] ∧ g x H Q
theorem ev_cb1 {r : List V → Hp → VK → Prop} (h1 : Ev Γ ta c d) (hr : ∀ F H x, Ex F H → c.rep F x d → ∀ Q : VK, (∀ v F' H', Ext F H F' H' → c2.rep F' v d2 → Q v H') → r [x] H Q) : Ev Γ (tCB r (tCons ta tNil)) c2 d2 := fun F H σ S Q q =>
  h1 F H σ S _ fun x F1 H1 e1 r1 => hr F1 H1 x e1.i r1 Q fun v F2 H2 e2 r2 => q v F2 H2 (e1.trans e2) r2
theorem ev_cb1N {r : List V → Hp → VK → Prop} {ds : List β} (h1 : Ev Γ ta c d) (hr : ∀ F H x, Ex F H → c.rep F x d → ∀ Q : VK, (∀ p vs F' H', Ext F H F' H' → H p = none → F' p = none → H' p = some (.lst vs) → Reps c2 F' vs ds → Q (.ref p) H') → r [x] H Q) : EvN Γ (tCB r (tCons ta tNil)) c2 ds := fun F H σ S Q q =>
  h1 F H σ S _ fun x F1 H1 e1 r1 => hr F1 H1 x e1.i r1 Q fun p vs F2 H2 e2 k1 k2 k3 k4 => q p vs F2 H2 (e1.trans e2) (e1.h.free k1) k2 k3 k4
theorem ev_abs {i : Int} (h1 : Ev Γ ta cInt i) : Ev Γ (tCB (fun xs H Q => ∃ i, xs = [.int i] ∧ Q (.int (if i < 0 then -i else i)) H) (tCons ta tNil)) cInt (i.natAbs : Int) :=
  ev_cb1 h1 fun F H x e r1 Q q => by
    cases (show x = .int i from r1)
    exact ⟨i, rfl, q _ F H (Ext.refl e) (congrArg V.int (by split <;> omega))⟩
def rMaxI : List V → Hp → VK → Prop := fun xs H Q => ∃ i j, xs = [.int i, .int j] ∧ Q (.int (if j > i then j else i)) H
def rMinI : List V → Hp → VK → Prop := fun xs H Q => ∃ i j, xs = [.int i, .int j] ∧ Q (.int (if j < i then j else i)) H
theorem ev_max {i j : Int} (h1 : Ev Γ ta cInt i) (h2 : Ev Γ tb cInt j) : Ev Γ (tCB (fun xs H Q => ∃ i j, xs = [.int i, .int j] ∧ Q (.int (if j > i then j else i)) H) (tCons ta (tCons tb tNil))) cInt (max i j) := fun F H σ S Q q =>
  h1 F H σ S _ fun x F1 H1 e1 r1 => h2 F1 H1 σ (S.grow e1) _ fun y F2 H2 e2 r2 => by
    cases (show x = .int i from r1); cases (show y = .int j from r2)
    exact ⟨i, j, rfl, q _ F2 H2 (e1.trans e2) (congrArg V.int (by split <;> omega))⟩
theorem ev_min {i j : Int} (h1 : Ev Γ ta cInt i) (h2 : Ev Γ tb cInt j) : Ev Γ (tCB (fun xs H Q => ∃ i j, xs = [.int i, .int j] ∧ Q (.int (if j < i then j else i)) H) (tCons ta (tCons tb tNil))) cInt (min i j) := fun F H σ S Q q =>
  h1 F H σ S _ fun x F1 H1 e1 r1 => h2 F1 H1 σ (S.grow e1) _ fun y F2 H2 e2 r2 => by
    cases (show x = .int i from r1); cases (show y = .int j from r2)
    exact ⟨i, j, rfl, q _ F2 H2 (e1.trans e2) (congrArg V.int (by split <;> omega))⟩
/-- len of a list, of a list of one's own, of a tuple -/
abbrev rLenQ (K : PySem.W.Frag) : List V → Hp → VK → Prop := fun xs H Q => ∃ p ys, xs = [.ref p] ∧ (SqL K H p ys ∨ SqT K H p ys) ∧ Q (.int ys.length) H
theorem ev_len {ds : List α} (h1 : Ev Γ ta (cList K c) ds) : Ev Γ (tCB (rLenQ K) (tCons ta tNil)) cInt (ds.length : Int) :=
  ev_cb1 h1 fun F H x e r1 Q q => by
    obtain ⟨a, vs, rfl, hs, hr⟩ := r1
    exact ⟨a, vs, rfl, .inl (ex_l e hs), q _ F H (Ext.refl e) (by rw [hr.len]; rfl)⟩
theorem ev_lenO {ds : List α} {k : Nat} (h1 : Γ[k]? = some (.own c ds)) : Ev Γ (tCB (rLenQ K) (tCons (tVar k) tNil)) cInt (ds.length : Int) := fun F H σ S Q q => by
  obtain ⟨p, vs, k1, k2, k3, k4⟩ := S.owned h1
  exact ⟨.ref p, k1, p, vs, rfl, .inl (.inl (.inl k3)), q _ F H (Ext.refl S.ex) (by rw [k4.len]; rfl)⟩
theorem ev_lenT {r : CodA α} {d : α} (n : Nat) (hl : ∀ F vs, r.rep F vs d → vs.length = n) (h1 : Ev Γ ta (cTup K r) d) : Ev Γ (tCB (rLenQ K) (tCons ta tNil)) cInt (n : Int) :=
  ev_cb1 h1 fun F H x e r1 Q q => by
    obtain ⟨a, vs, rfl, hs, hr⟩ := r1
    exact ⟨a, vs, rfl, .inr (ex_t e hs), q _ F H (Ext.refl e) (by rw [hl _ _ hr]; rfl)⟩
theorem ev_lenP {c : Cod α} {c2 : Cod β} {d : α × β} (h1 : Ev Γ ta (cPair K c c2) d) : Ev Γ (tCB (rLenQ K) (tCons ta tNil)) cInt 2 :=
  ev_cb1 h1 fun F H x e r1 Q q => by
    obtain ⟨a, vs, rfl, hs, x, _, rfl, hx, y, _, rfl, hy, h⟩ := r1
    cases (show _ = [] from h)
    exact ⟨a, _, rfl, .inr (ex_t e hs), q _ F H (Ext.refl e) rfl⟩
theorem ev_len3 {c : Cod α} {c2 : Cod β} {c3 : Cod γ} {d : α × β × γ} (h1 : Ev Γ ta (cTri K c c2 c3) d) : Ev Γ (tCB (rLenQ K) (tCons ta tNil)) cInt 3 :=
  ev_cb1 h1 fun F H x e r1 Q q => by
    obtain ⟨a, vs, rfl, hs, x, _, rfl, hx, y, _, rfl, hy, z, _, rfl, hz, h⟩ := r1
    cases (show _ = [] from h)
    exact ⟨a, _, rfl, .inr (ex_t e hs), q _ F H (Ext.refl e) rfl⟩
/-- list(x) -/
abbrev rListQ (K : PySem.W.Frag) : List V → Hp → VK → Prop := fun xs H Q => ∃ p ys, xs = [.ref p] ∧ (SqL K H p ys ∨ SqT K H p ys) ∧ ∀ l, H l = none → Q (.ref l) (upd H l (.lst ys))
theorem evN_list {ds : List α} (h1 : Ev Γ ta (cList K c) ds) : EvN Γ (tCB (rListQ K) (tCons ta tNil)) c ds :=
  ev_cb1N h1 fun F H x e r1 Q q => by
    obtain ⟨a, vs, rfl, hs, hr⟩ := r1
    exact ⟨a, vs, rfl, .inl (ex_l e hs), fun l hl => q l vs F _ (Ext.aside e hl) hl (e.free hl) upd_same hr⟩
/-- tuple(a list) -/
abbrev rTupQ (K : PySem.W.Frag) : List V → Hp → VK → Prop := fun xs H Q => ∃ p ys, xs = [.ref p] ∧ ((SqL K H p ys ∧ ∀ l, H l = none → Q (.ref l) (upd H l (.tup ys))) ∨ (SqT K H p ys ∧ Q (.ref p) H))
theorem ev_tupL {ds : List α} (h1 : Ev Γ ta (cList K c) ds) : Ev Γ (tCB (rTupQ K) (tCons ta tNil)) (cTupL K c) ds :=
  ev_cb1 h1 fun F H x e r1 Q q => by
    obtain ⟨a, vs, rfl, hs, hr⟩ := r1
    exact ⟨a, vs, rfl, .inl ⟨ex_l e hs, fun l hl => q _ _ _ (Ext.new e hl) ⟨l, vs, rfl, .inl (.inl upd_same), hr.mono (Ex.new (e.free hl))⟩⟩⟩
/-- a tuple of three alike as such -/
theorem ev_tri_of {a b x : α} (h : Ev Γ te (cTupL K c) [a, b, x]) : Ev Γ te (cTri K c c c) (a, b, x) := fun F H σ S Q q => h F H σ S Q fun v F1 H1 e1 r1 => by
  obtain ⟨p, vs, rfl, hs, hr⟩ := r1
  match vs, hr with
  | [u, v, w], hr => exact q _ F1 H1 e1 ⟨p, _, rfl, hs, u, _, rfl, hr.1, v, _, rfl, hr.2.1, w, _, rfl, hr.2.2.1, rfl⟩
/-- slices -/
theorem eo_none : EvO Γ tNoPart none := fun F H σ S Q q => q F H (Ext.refl S.ex)
theorem eo_some {i : Int} (h : Ev Γ te cInt i) : EvO Γ (tPart te) (some i) := fun F H σ S Q q => h F H σ S _ fun v F1 H1 e1 r1 => ⟨i, r1, q F1 H1 e1⟩
def cutD {α : Type} (xs : List α) (lo hi : Option Int) : List α := (xs.drop (HT.sIx xs.length 0 lo)).take (HT.sIx xs.length xs.length hi - HT.sIx xs.length 0 lo)
theorem reps_cut {F : Hp} {vs : List V} {ds : List α} {lo hi : Option Int} (h : Reps c F vs ds) : Reps c F (cutV vs lo hi) (cutD ds lo hi) := by
  unfold cutV cutD; rw [h.len]; exact (h.drop _).take _
theorem evN_sl {tl th : TO} {ds : List α} {lo hi : Option Int} (h : Ev Γ ta (cList K c) ds) (h1 : EvO Γ tl lo) (h2 : EvO Γ th hi) : EvN Γ (tSl (rSlL K) ta tl th) c (cutD ds lo hi) := fun F H σ S Q q =>
  h F H σ S _ fun v F1 H1 e1 r1 => h1 F1 H1 σ (S.grow e1) _ fun F2 H2 e2 => h2 F2 H2 σ (S.grow (e1.trans e2)) _ fun F3 H3 e3 => by
    obtain ⟨a, vs, rfl, hs, hr⟩ := (cList K c).mono (e2.trans e3).f r1
    exact ⟨a, vs, rfl, ex_l e3.i hs, fun l hl => q l _ F3 _ (((e1.trans e2).trans e3).trans (Ext.aside e3.i hl)) (((e1.trans e2).trans e3).h.free hl) (e3.i.free hl) upd_same (reps_cut hr)⟩
/-- + and * of new lists -/
theorem evN_cat {ds es : List α} (h1 : EvN Γ ta c ds) (h2 : EvN Γ tb c es) (hl : ds.length + es.length ≤ 1000000) : EvN Γ (tOp rCat ta tb) c (ds ++ es) := fun F H σ S Q q =>
  h1 F H σ S _ fun p vs F1 H1 e1 k1 k2 k3 k4 => h2 F1 H1 σ (S.grow e1) _ fun p2 vs2 F2 H2 e2 m1 m2 m3 m4 =>
    ⟨p, p2, vs, vs2, rfl, rfl, e2.h p _ k3, m3, by rw [k4.len, m4.len]; exact sz_of hl, fun l hl => q l _ F2 _ ((e1.trans e2).trans (Ext.aside e2.i hl)) ((e1.trans e2).h.free hl) (e2.i.free hl) upd_same ((k4.mono e2.f).append m4)⟩
theorem evN_catO {ds es : List α} {k : Nat} (h1 : Γ[k]? = some (.own c ds)) (h2 : EvN Γ tb c es) (hl : ds.length + es.length ≤ 1000000) : EvN Γ (tOp rCat (tVar k) tb) c (ds ++ es) := fun F H σ S Q q => by
  obtain ⟨p, vs, k1, k2, k3, k4⟩ := S.owned h1
  exact ⟨.ref p, k1, h2 F H σ S _ fun p2 vs2 F2 H2 e2 m1 m2 m3 m4 => ⟨p, p2, vs, vs2, rfl, rfl, e2.h p _ k3, m3, by rw [k4.len, m4.len]; exact sz_of hl,
    fun l hl => q l _ F2 _ (e2.trans (Ext.aside e2.i hl)) (e2.h.free hl) (e2.i.free hl) upd_same ((k4.mono e2.f).append m4)⟩⟩
theorem reps_rep {F : Hp} {vs : List V} {ds : List α} (h : Reps c F vs ds) : ∀ n, Reps c F (List.replicate n vs).flatten (List.replicate n ds).flatten
  | 0 => trivial
  | n + 1 => by
    rw [List.replicate_succ, List.replicate_succ, List.flatten_cons, List.flatten_cons]
    exact h.append (reps_rep h n)
theorem evN_rep {ds : List α} {i : Int} (h1 : EvN Γ ta c ds) (h2 : Ev Γ tb cInt i) (hb : -100000 ≤ i) (hi : i ≤ 100000) (hl : ds.length ≤ 10) : EvN Γ (tOp rRep ta tb) c (List.replicate i.toNat ds).flatten := fun F H σ S Q q =>
  h1 F H σ S _ fun p vs F1 H1 e1 k1 k2 k3 k4 => h2 F1 H1 σ (S.grow e1) _ fun y F2 H2 e2 r2 => by
    cases (show y = .int i from r2)
    exact ⟨p, i, vs, rfl, rfl, e2.h p _ k3, by omega, by omega, by rw [k4.len]; exact sz_of (Nat.le_trans (Nat.mul_le_mul hl (show i.toNat ≤ 100000 by omega)) (by decide)), fun l hl => q l _ F2 _ ((e1.trans e2).trans (Ext.aside e2.i hl)) ((e1.trans e2).h.free hl) (e2.i.free hl) upd_same (reps_rep (k4.mono e2.f) _)⟩
end
end Pw

namespace Pw
open PySem L2
/-! ### what a def promises -/
def SpF {α β : Type} (ca : CodA α) (pre : α → Prop) (c : Cod β) (f : α → β) : Sp := fun vs H Q _ => ∃ F a, Ex F H ∧ ca.rep F vs a ∧ pre a ∧ ∀ v F' H', Ext F H F' H' → c.rep F' v (f a) → Q v H'
/-- .. a new list -/
def SpN {α β : Type} (ca : CodA α) (pre : α → Prop) (c : Cod β) (f : α → List β) : Sp := fun vs H Q _ => ∃ F a, Ex F H ∧ ca.rep F vs a ∧ pre a ∧
  ∀ p vs' F' H', Ext F H F' H' → H p = none → F' p = none → H' p = some (.lst vs') → Reps c F' vs' (f a) → Q (.ref p) H'
/-- .. or an error of the class at C -/
def SpX {α β : Type} (ca : CodA α) (pre : α → Prop) (c : Cod β) (f : α → Option β) (C : Addr) : Sp := fun vs H Q E => ∃ F a, Ex F H ∧ ca.rep F vs a ∧ pre a ∧
  (∀ b v F' H', f a = some b → Ext F H F' H' → c.rep F' v b → Q v H') ∧ (f a = none → ∀ F' H', Ext F H F' H' → E (.ref C) none H')
section
variable {K : PySem.W.Frag} {Γ : Gam} {ta tb tc te : TE} {α β γ : Type} {c : Cod α} {d : α} {c2 : Cod β} {d2 : β}
theorem ev_call {ca : CodA α} {a : α} {pre : α → Prop} {f : α → β} {tr : TA} {E : XK} (h : EvA Γ tr ca a) (hp : pre a) : Ev Γ (tCall (SpF ca pre c2 f) [] E tr) c2 (f a) := fun F H σ S Q q =>
  h F H σ S _ fun vs F1 H1 e1 r1 => ⟨F1, a, e1.i, by rw [List.append_nil]; exact r1, hp, fun v F' H' e2 r2 => q v F' H' (e1.trans e2) r2⟩
theorem evN_call {ca : CodA α} {a : α} {pre : α → Prop} {f : α → List β} {tr : TA} {E : XK} (h : EvA Γ tr ca a) (hp : pre a) : EvN Γ (tCall (SpN ca pre c2 f) [] E tr) c2 (f a) := fun F H σ S Q q =>
  h F H σ S _ fun vs F1 H1 e1 r1 => ⟨F1, a, e1.i, by rw [List.append_nil]; exact r1, hp, fun p vs' F' H' e2 k1 k2 k3 k4 => q p vs' F' H' (e1.trans e2) (e1.h.free k1) k2 k3 k4⟩
theorem ev_callX {ca : CodA α} {a : α} {pre : α → Prop} {f : α → Option β} {b : β} {tr : TA} {E : XK} {C : Addr} (h : EvA Γ tr ca a) (hp : pre a) (hb : f a = some b) : Ev Γ (tCall (SpX ca pre c2 f C) [] E tr) c2 b := fun F H σ S Q q =>
  h F H σ S _ fun vs F1 H1 e1 r1 => ⟨F1, a, e1.i, by rw [List.append_nil]; exact r1, hp, fun b' v F' H' e e2 r2 => q v F' H' (e1.trans e2) (by rw [hb] at e; cases e; exact r2), fun e => by rw [hb] at e; cases e⟩
end
/-! ### statements -/
structure Stt (F0 H0 F H : Hp) (σ : L2.St) (Γ : Gam) : Prop where
  sl : Sl F H σ Γ
  f : Ex F0 F
  h : Ex H0 H
  n : ∀ a o, F a = some o → F0 a = some o ∨ H0 a = none
  own : ∀ (i : Nat) p, IsOwn Γ[i]? → σ[i]? = some (some (.ref p)) → H0 p = none
theorem Stt.grow {F0 H0 F H F' H' : Hp} {σ : L2.St} {Γ : Gam} (S : Stt F0 H0 F H σ Γ) (e : Ext F H F' H') : Stt F0 H0 F' H' σ Γ :=
  ⟨S.sl.grow e, S.f.trans e.f, S.h.trans e.h, fun a o q => by
    rcases e.n a o q with z | z
    · exact S.n a o z
    · exact .inr (S.h.free z), S.own⟩
theorem Stt.ext {F0 H0 F H : Hp} {σ : L2.St} {Γ : Gam} (S : Stt F0 H0 F H σ Γ) : Ext F0 H0 F H := ⟨S.f, S.h, S.sl.ex, S.n⟩
theorem Stt.set {F0 H0 F H : Hp} {σ : L2.St} {Γ : Gam} {i : Nat} {s : Option V} {e : Ent} (S : Stt F0 H0 F H σ Γ) (ho : ¬ IsOwn (some e)) (k : EntOk F H s e) : Stt F0 H0 F H (σ.set i s) (Γ.set i e) :=
  ⟨S.sl.set ho k, S.f, S.h, S.n, fun j p oj hj => by
    by_cases q : i = j
    · subst q
      rw [List.getElem?_set] at oj
      by_cases hl : i < Γ.length
      · rw [if_pos rfl, if_pos hl] at oj; exact (ho oj).elim
      · rw [if_pos rfl, if_neg hl] at oj; exact oj.elim
    · rw [List.getElem?_set_ne q] at oj hj; exact S.own j p oj hj⟩
theorem Stt.setOb {F0 H0 F H : Hp} {σ : L2.St} {Γ : Gam} {i : Nat} {p : Addr} {o : HO} {α : Type} {c : CodO α} {ds : α} (S : Stt F0 H0 F H σ Γ) (h0 : H0 p = none) (h1 : F p = none) (h2 : H p = some o) (h3 : c.rep F o ds)
    (hd : ∀ j, j ≠ i → IsOwn Γ[j]? → σ[j]? ≠ some (some (.ref p))) : Stt F0 H0 F H (σ.set i (some (.ref p))) (Γ.set i (.ob c ds)) :=
  ⟨S.sl.setOb h1 h2 h3 hd, S.f, S.h, S.n, fun j q oj hj => by
    by_cases z : i = j
    · subst z
      rw [List.getElem?_set] at hj
      by_cases hl : i < σ.length
      · rw [if_pos rfl, if_pos hl] at hj; cases hj; exact h0
      · rw [if_pos rfl, if_neg hl] at hj; cases hj
    · rw [List.getElem?_set_ne z] at oj hj; exact S.own j q oj hj⟩
theorem Stt.setOwn {F0 H0 F H : Hp} {σ : L2.St} {Γ : Gam} {i : Nat} {p : Addr} {vs : List V} {α : Type} {c : Cod α} {ds : List α} (S : Stt F0 H0 F H σ Γ) (h0 : H0 p = none) (h1 : F p = none) (h2 : H p = some (.lst vs)) (h3 : Reps c F vs ds)
    (hd : ∀ j, j ≠ i → IsOwn Γ[j]? → σ[j]? ≠ some (some (.ref p))) : Stt F0 H0 F H (σ.set i (some (.ref p))) (Γ.set i (.own c ds)) := S.setOb h0 h1 h2 (c := cLst c) ⟨vs, rfl, h3⟩ hd
theorem Stt.writeOb {F0 H0 F H : Hp} {σ : L2.St} {Γ : Gam} {i : Nat} {p : Addr} {w : HO} {α β : Type} {c0 : CodO β} {ds0 : β} {c : CodO α} {ds : α} (S : Stt F0 H0 F H σ Γ) (e : Γ[i]? = some (.ob c0 ds0)) (hp : σ[i]? = some (some (.ref p))) (h1 : F p = none) (h3 : c.rep F w ds) :
    Stt F0 H0 F (upd H p w) σ (Γ.set i (.ob c ds)) := by
  have h0 : H0 p = none := S.own i p (by rw [e]; trivial) hp
  refine ⟨S.sl.writeOb e hp h1 h3, S.f, S.h.mut h0, S.n, fun j q oj hj => S.own j q ?_ hj⟩
  rw [List.getElem?_set] at oj
  by_cases z : i = j
  · subst z; rw [e]; trivial
  · rw [if_neg z] at oj; exact oj
theorem Stt.write {F0 H0 F H : Hp} {σ : L2.St} {Γ : Gam} {i : Nat} {p : Addr} {vs : List V} {α β : Type} {c0 : Cod β} {ds0 : List β} {c : Cod α} {ds : List α} (S : Stt F0 H0 F H σ Γ) (e : Γ[i]? = some (.own c0 ds0)) (hp : σ[i]? = some (some (.ref p))) (h1 : F p = none) (h3 : Reps c F vs ds) :
    Stt F0 H0 F (upd H p (.lst vs)) σ (Γ.set i (.own c ds)) := S.writeOb e hp h1 (c := cLst c) ⟨vs, rfl, h3⟩
/-- an object of one's own is given up as a lasting thing of the code c2 -/
theorem Stt.freezeOb {F0 H0 F H : Hp} {σ : L2.St} {Γ : Gam} {i : Nat} {α β : Type} {c : CodO α} {d : α} {c2 : Cod β} {d2 : β} (S : Stt F0 H0 F H σ Γ) (e : Γ[i]? = some (.ob c d)) (hc : ∀ F p o, F p = some o → c.rep F o d → c2.rep F (.ref p) d2) :
    ∃ F', Ex F F' ∧ Stt F0 H0 F' H σ (Γ.set i (.val c2 d2)) := by
  obtain ⟨p, vs, k1, k2, k3, k4⟩ := S.sl.obj e
  have h0 : H0 p = none := S.own i p (by rw [e]; trivial) k1
  refine ⟨upd F p vs, Ex.new k2, ?_⟩
  have hF : Ex F (upd F p vs) := Ex.new k2
  have hFH : Ex (upd F p vs) H := fun a o q => by
    by_cases z : a = p
    · subst z; rw [upd_same] at q; cases q; exact k3
    · rw [upd_ne z] at q; exact S.sl.ex a o q
  refine ⟨⟨hFH, by simp [S.sl.len], fun j s f e1 e2 => ?_, fun a b q hab oa ob => S.sl.dis a b q hab ?_ ?_⟩, S.f.trans hF, S.h, fun a o q => ?_, fun j q oj => S.own j q ?_⟩
  · rw [List.getElem?_set] at e2
    by_cases hj : i = j
    · subst hj
      have hl2 : i < Γ.length := (List.getElem?_eq_some_iff.mp e).1
      rw [if_pos rfl, if_pos hl2] at e2
      cases e2; rw [k1] at e1; cases e1
      exact ⟨.ref p, rfl, hc _ p vs upd_same (c.mono hF k4)⟩
    · rw [if_neg hj] at e2
      have k := S.sl.ok j s f e1 e2
      cases f with
      | any => trivial
      | val c d => obtain ⟨v, z1, z2⟩ := k; exact ⟨v, z1, c.mono hF z2⟩
      | ob c d =>
        obtain ⟨p2, vs2, z1, z2, z3, z4⟩ := k
        refine ⟨p2, vs2, z1, ?_, z3, c.mono hF z4⟩
        have np : p2 ≠ p := fun z => by
          subst z; subst z1
          exact S.sl.dis i j p2 hj (by rw [e]; trivial) (by rw [e2]; trivial) k1 e1
        rw [upd_ne np]; exact z2
  · rw [List.getElem?_set] at oa
    by_cases z : i = a
    · subst z; rw [e]; trivial
    · rw [if_neg z] at oa; exact oa
  · rw [List.getElem?_set] at ob
    by_cases z : i = b
    · subst z; rw [e]; trivial
    · rw [if_neg z] at ob; exact ob
  · by_cases z : a = p
    · subst z; exact .inr h0
    · rw [upd_ne z] at q; exact S.n a o q
  · rw [List.getElem?_set] at oj
    by_cases z : i = j
    · subst z; rw [e]; trivial
    · rw [if_neg z] at oj; exact oj
/-- a list of one's own is given up as a lasting one -/
theorem Stt.freeze {F0 H0 F H : Hp} {σ : L2.St} {Γ : Gam} {i : Nat} {α : Type} {c : Cod α} {ds : List α} (K : PySem.W.Frag) (S : Stt F0 H0 F H σ Γ) (e : Γ[i]? = some (.own c ds)) :
    ∃ F', Ex F F' ∧ Stt F0 H0 F' H σ (Γ.set i (.val (cList K c) ds)) := S.freezeOb e fun F p o h k => by
  obtain ⟨vs, rfl, k⟩ := k
  exact ⟨p, vs, rfl, .inl (.inl h), k⟩
theorem Sl.setV {F H : Hp} {σ : L2.St} {Γ : Gam} {i : Nat} {v : V} {α : Type} {c : Cod α} {d : α} (S : Sl F H σ Γ) (k : c.rep F v d) : Sl F H (σ.set i (some v)) (Γ.set i (.val c d)) :=
  S.set (e := .val c d) (fun h => h) ⟨v, rfl, k⟩
theorem Stt.setV {F0 H0 F H : Hp} {σ : L2.St} {Γ : Gam} {i : Nat} {v : V} {α : Type} {c : Cod α} {d : α} (S : Stt F0 H0 F H σ Γ) (k : c.rep F v d) : Stt F0 H0 F H (σ.set i (some v)) (Γ.set i (.val c d)) :=
  S.set (e := .val c d) (fun h => h) ⟨v, rfl, k⟩
theorem Sl.setA {F H : Hp} {σ : L2.St} {Γ : Gam} {i : Nat} {s : Option V} (S : Sl F H σ Γ) : Sl F H (σ.set i s) (Γ.set i .any) := S.set (e := .any) (fun h => h) trivial
theorem Reps.one {α : Type} {c : Cod α} {F : Hp} {v : V} {d : α} (k : c.rep F v d) : Reps c F [v] [d] := ⟨k, trivial⟩
/-- less is known -/
inductive Wk : Gam → Gam → Prop where
  | nil : Wk [] []
  | same {e : Ent} {Γ Γ' : Gam} : Wk Γ Γ' → Wk (e :: Γ) (e :: Γ')
  | any {e : Ent} {Γ Γ' : Gam} : Wk Γ Γ' → Wk (e :: Γ) (.any :: Γ')
theorem Wk.refl : ∀ Γ : Gam, Wk Γ Γ
  | [] => .nil
  | _ :: Γ => .same (Wk.refl Γ)
theorem Wk.len {Γ Γ' : Gam} (w : Wk Γ Γ') : Γ.length = Γ'.length := by
  induction w with
  | nil => rfl
  | same _ ih => simp [ih]
  | any _ ih => simp [ih]
theorem Wk.at {Γ Γ' : Gam} (w : Wk Γ Γ') : ∀ (i : Nat) e, Γ'[i]? = some e → Γ[i]? = some e ∨ e = .any := by
  induction w with
  | nil => intro i e h; simp at h
  | same _ ih => intro i e h; cases i with
    | zero => left; simpa using h
    | succ i => simpa using ih i e (by simpa using h)
  | any _ ih => intro i e h; cases i with
    | zero => right; simpa using h.symm
    | succ i => simpa using ih i e (by simpa using h)
theorem Wk.own {Γ Γ' : Gam} (w : Wk Γ Γ') {i : Nat} (h : IsOwn Γ'[i]?) : IsOwn Γ[i]? := by
  cases q : Γ'[i]? with
  | none => rw [q] at h; exact h.elim
  | some e =>
    rcases w.at i e q with z | z
    · rw [z]; rw [q] at h; exact h
    · subst z; rw [q] at h; exact h.elim
theorem Stt.wk {F0 H0 F H : Hp} {σ : L2.St} {Γ Γ' : Gam} (S : Stt F0 H0 F H σ Γ) (w : Wk Γ Γ') : Stt F0 H0 F H σ Γ' :=
  ⟨⟨S.sl.ex, by rw [S.sl.len, w.len], fun i s e h1 h2 => by
      rcases w.at i e h2 with z | z
      · exact S.sl.ok i s e h1 z
      · subst z; trivial, fun i j p hij oi oj => S.sl.dis i j p hij (w.own oi) (w.own oj)⟩, S.f, S.h, S.n, fun i p oi => S.own i p (w.own oi)⟩
/-- how a def ends -/
abbrev RR (β : Type) := Hp → Hp → Hp → V → β → Prop
def rVal {β : Type} (c : Cod β) : RR β := fun _ F _ v d => c.rep F v d
def rNew {β : Type} (c : Cod β) : RR (List β) := fun H0 F H v ds => ∃ p vs, v = .ref p ∧ H0 p = none ∧ F p = none ∧ H p = some (.lst vs) ∧ Reps c F vs ds
structure Pst (β : Type) where
  nx : Gam → Prop
  rt : β → Prop
  bk : Gam → Prop
  ct : Gam → Prop
  /-- what is wished of an error, and which may come -/
  E : XK := E0
  ex : Addr → Prop := fun _ => False
structure Ob {β : Type} (R : RR β) (P : Pst β) (F0 H0 : Hp) (D : Ends) : Prop where
  nx : ∀ F H σ Γ, Stt F0 H0 F H σ Γ → P.nx Γ → D.nx σ H
  rt : ∀ F H v d, Ext F0 H0 F H → R H0 F H v d → P.rt d → D.rt v H
  bk : ∀ F H σ Γ, Stt F0 H0 F H σ Γ → P.bk Γ → D.bk σ H
  ct : ∀ F H σ Γ, Stt F0 H0 F H σ Γ → P.ct Γ → D.ct σ H
  ex : ∀ C F H, P.ex C → Ext F0 H0 F H → P.E (.ref C) none H
def SW {β : Type} (R : RR β) (Γ : Gam) (t : TS) (P : Pst β) : Prop := ∀ F0 H0 F H σ D, Stt F0 H0 F H σ Γ → Ob R P F0 H0 D → t D σ H
section
variable {K : PySem.W.Frag} {Γ : Gam} {ta tb tc te : TE} {α β γ ρ : Type} {c : Cod α} {d : α} {c2 : Cod β} {d2 : β} {R : RR ρ} {P : Pst ρ} {t u tz : TS} {i j : Nat}
theorem Ob.seq {F0 H0 : Hp} {D : Ends} (o : Ob R P F0 H0 D) : Ob R { P with nx := fun Γ' => SW R Γ' u P } F0 H0 { D with nx := u D } :=
  ⟨fun F H σ Γ S h => h F0 H0 F H σ D S o, o.rt, o.bk, o.ct, o.ex⟩
theorem sw_seq (h : SW R Γ t { P with nx := fun Γ' => SW R Γ' u P }) : SW R Γ (tSeq t u) P := fun F0 H0 F H σ D S o => h F0 H0 F H σ _ S o.seq
theorem sw_next (h : P.nx Γ) : SW R Γ tNext P := fun F0 H0 F H σ D S o => o.nx F H σ Γ S h
theorem sw_wk {Γ' : Gam} (w : Wk Γ Γ') (h : SW R Γ' t P) : SW R Γ t P := fun F0 H0 F H σ D S o => h F0 H0 F H σ D (S.wk w) o
theorem sw_freeze (K : PySem.W.Frag) {ds : List α} (i : Nat) (e : Γ[i]? = some (.own c ds)) (h : SW R (Γ.set i (.val (cList K c) ds)) t P) : SW R Γ t P := fun F0 H0 F H σ D S o => by
  obtain ⟨F', _, S'⟩ := S.freeze K e
  exact h F0 H0 F' H σ D S' o
/-- name = e -/
theorem sw_asg (h : Ev Γ te c d) (k : P.nx (Γ.set i (.val c d))) : SW R Γ (tAsg te (gName i)) P := fun F0 H0 F H σ D S o =>
  h F H σ S.sl _ fun v F1 H1 e1 r1 => o.nx F1 H1 _ _ ((S.grow e1).setV (r1)) k
theorem q_asg (h : Ev Γ te c d) (k : ∀ x, x = d → SW R (Γ.set i (.val c x)) tz P) : SW R Γ (tSeq (tAsg te (gName i)) tz) P := sw_seq (sw_asg h (k d rfl))
theorem q_asg' (h : Ev Γ te c d) (k : SW R (Γ.set i (.val c d)) tz P) : SW R Γ (tSeq (tAsg te (gName i)) tz) P := sw_seq (sw_asg h k)
theorem sw_asgN {ds : List α} (h : EvN Γ te c ds) (k : P.nx (Γ.set i (.own c ds))) : SW R Γ (tAsg te (gName i)) P := fun F0 H0 F H σ D S o =>
  h F H σ S.sl _ fun p vs F1 H1 e1 k1 k2 k3 k4 => o.nx F1 H1 _ _ ((S.grow e1).setOwn (S.h.free k1) k2 k3 k4 fun j _ oj hj => by
    cases q : Γ[j]? with
    | none => rw [q] at oj; exact oj
    | some e =>
      cases e with
      | any => rw [q] at oj; exact oj
      | val _ _ => rw [q] at oj; exact oj
      | ob c' ds' =>
        obtain ⟨p', vs', z1, z2, z3, z4⟩ := S.sl.obj q
        rw [z1] at hj; cases hj
        rw [k1] at z3; cases z3) k
theorem q_asgN {ds : List α} (h : EvN Γ te c ds) (k : ∀ xs, xs = ds → SW R (Γ.set i (.own c xs)) tz P) : SW R Γ (tSeq (tAsg te (gName i)) tz) P := sw_seq (sw_asgN h (k ds rfl))
theorem q_asgN' {ds : List α} (h : EvN Γ te c ds) (k : SW R (Γ.set i (.own c ds)) tz P) : SW R Γ (tSeq (tAsg te (gName i)) tz) P := sw_seq (sw_asgN h k)
/-- a, b = e, f -/
theorem sw_par (h1 : Ev Γ ta c d) (h2 : Ev Γ tb c2 d2) (k : P.nx ((Γ.set i (.val c d)).set j (.val c2 d2))) : SW R Γ (tPar i j (tCons ta (tCons tb tNil))) P := fun F0 H0 F H σ D S o =>
  h1 F H σ S.sl _ fun v F1 H1 e1 r1 => h2 F1 H1 σ (S.grow e1).sl _ fun w F2 H2 e2 r2 => ⟨v, w, rfl, o.nx F2 H2 _ _ ((((S.grow e1).grow e2).setV (c.mono e2.f r1)).setV (r2)) k⟩
theorem q_par (h1 : Ev Γ ta c d) (h2 : Ev Γ tb c2 d2) (k : ∀ x y, x = d → y = d2 → SW R ((Γ.set i (.val c x)).set j (.val c2 y)) tz P) : SW R Γ (tSeq (tPar i j (tCons ta (tCons tb tNil))) tz) P := sw_seq (sw_par h1 h2 (k d d2 rfl rfl))
/-- a, b = a pair -/
theorem sw_un2 {p : α × β} (h : Ev Γ te (cPair K c c2) p) (k : P.nx ((Γ.set i (.val c p.1)).set j (.val c2 p.2))) : SW R Γ (tAsg te (gTup K 2 (gCons (gName i) (gCons (gName j) gNil)))) P := fun F0 H0 F H σ D S o =>
  h F H σ S.sl _ fun v F1 H1 e1 r1 => by
    obtain ⟨a, vs, rfl, hs, x, _, rfl, hx, y, _, rfl, hy, h⟩ := r1
    cases (show _ = [] from h)
    exact ⟨a, _, rfl, ex_t e1.i hs, rfl, x, _, rfl, y, _, rfl, rfl, o.nx F1 H1 _ _ (((S.grow e1).setV (hx)).setV (hy)) k⟩
theorem q_un2 {p : α × β} (h : Ev Γ te (cPair K c c2) p) (k : ∀ x y, x = p.1 → y = p.2 → SW R ((Γ.set i (.val c x)).set j (.val c2 y)) tz P) : SW R Γ (tSeq (tAsg te (gTup K 2 (gCons (gName i) (gCons (gName j) gNil)))) tz) P := sw_seq (sw_un2 h (k _ _ rfl rfl))
theorem sw_un3 {l : Nat} {c3 : Cod γ} {p : α × β × γ} (h : Ev Γ te (cTri K c c2 c3) p) (k : P.nx (((Γ.set i (.val c p.1)).set j (.val c2 p.2.1)).set l (.val c3 p.2.2))) : SW R Γ (tAsg te (gTup K 3 (gCons (gName i) (gCons (gName j) (gCons (gName l) gNil))))) P := fun F0 H0 F H σ D S o =>
  h F H σ S.sl _ fun v F1 H1 e1 r1 => by
    obtain ⟨a, vs, rfl, hs, x, _, rfl, hx, y, _, rfl, hy, z, _, rfl, hz, h⟩ := r1
    cases (show _ = [] from h)
    exact ⟨a, _, rfl, ex_t e1.i hs, rfl, x, _, rfl, y, _, rfl, z, _, rfl, rfl, o.nx F1 H1 _ _ ((((S.grow e1).setV (hx)).setV (hy)).setV (hz)) k⟩
theorem q_un3 {l : Nat} {c3 : Cod γ} {p : α × β × γ} (h : Ev Γ te (cTri K c c2 c3) p) (k : ∀ x y z, x = p.1 → y = p.2.1 → z = p.2.2 → SW R (((Γ.set i (.val c x)).set j (.val c2 y)).set l (.val c3 z)) tz P) : SW R Γ (tSeq (tAsg te (gTup K 3 (gCons (gName i) (gCons (gName j) (gCons (gName l) gNil))))) tz) P := sw_seq (sw_un3 h (k _ _ _ rfl rfl rfl))
/-- return -/
theorem sw_ret {c : Cod ρ} {P : Pst ρ} {d : ρ} (h : Ev Γ te c d) (k : P.rt d) : SW (rVal c) Γ (tRet te) P := fun F0 H0 F H σ D S o => h F H σ S.sl _ fun v F1 H1 e1 r1 => o.rt F1 H1 v d (S.grow e1).ext r1 k
theorem sw_retN {c : Cod ρ} {P : Pst (List ρ)} {ds : List ρ} (h : EvN Γ te c ds) (k : P.rt ds) : SW (rNew c) Γ (tRet te) P := fun F0 H0 F H σ D S o => h F H σ S.sl _ fun p vs F1 H1 e1 k1 k2 k3 k4 =>
  o.rt F1 H1 _ ds (S.grow e1).ext ⟨p, vs, rfl, S.h.free k1, k2, k3, k4⟩ k
/-- return a list of one's own -/
theorem sw_retO {c : Cod ρ} {P : Pst (List ρ)} {ds : List ρ} (e : Γ[i]? = some (.own c ds)) (k : P.rt ds) : SW (rNew c) Γ (tRet (tVar i)) P := fun F0 H0 F H σ D S o => by
  obtain ⟨p, vs, k1, k2, k3, k4⟩ := S.sl.owned e
  exact ⟨.ref p, k1, o.rt F H _ ds S.ext ⟨p, vs, rfl, S.own i p (by rw [e]; trivial) k1, k2, k3, k4⟩ k⟩
theorem sw_if {tt : TT} {b : Bool} (h : EvT Γ tt b) (h1 : b = true → SW R Γ t P) (h2 : b = false → SW R Γ u P) : SW R Γ (tIfS tt t u) P := fun F0 H0 F H σ D S o => h F H σ S.sl _ fun F1 H1 e1 => by
  cases b with
  | true => exact iteT (h1 rfl F0 H0 F1 H1 σ D (S.grow e1) o)
  | false => exact iteF (h2 rfl F0 H0 F1 H1 σ D (S.grow e1) o)
theorem q_if {tt : TT} {b : Bool} (h : EvT Γ tt b) (h1 : b = true → SW R Γ t { P with nx := fun Γ' => SW R Γ' tz P }) (h2 : b = false → SW R Γ u { P with nx := fun Γ' => SW R Γ' tz P }) : SW R Γ (tSeq (tIfS tt t u) tz) P := sw_seq (sw_if h h1 h2)
/-- an if without else -/
theorem q_when {tt : TT} {b : Bool} (h : EvT Γ tt b) (h1 : b = true → SW R Γ t { P with nx := fun Γ' => SW R Γ' tz P }) (h2 : b = false → SW R Γ tz P) : SW R Γ (tSeq (tIfS tt t tNext) tz) P := sw_seq (sw_if h h1 fun e => sw_next (h2 e))
theorem sw_when {tt : TT} {b : Bool} (h : EvT Γ tt b) (h1 : b = true → SW R Γ t P) (h2 : b = false → P.nx Γ) : SW R Γ (tIfS tt t tNext) P := sw_if h h1 fun e => sw_next (h2 e)
/-- x += e -/
theorem sw_aug {f : Int → Int → Int} {a b : Int} (hx : Γ[i]? = some (.val cInt a)) (h : Ev Γ te cInt b) (k : P.nx (Γ.set i (.val cInt (f a b)))) : SW R Γ (tAug i te (ipI f)) P := fun F0 H0 F H σ D S o => by
  obtain ⟨v, h1, h2⟩ := S.sl.var hx
  exact ⟨v, h1, h F H σ S.sl _ fun w F1 H1 e1 r1 => ⟨a, b, h2, r1, o.nx F1 H1 _ _ ((S.grow e1).setV (rfl)) k⟩⟩
/-- xs.append(e) -/
abbrev tApp (K : PySem.W.Frag) (i : Nat) (te : TE) : TS := tDrop (tBM K "list" rAppend (tVar i) (tCons te tNil))
theorem sw_app {ds : List α} (e : Γ[i]? = some (.own c ds)) (h : Ev Γ te c d) (hz : ds.length < 1000000) (k : P.nx (Γ.set i (.own c (ds ++ [d])))) : SW R Γ (tApp K i te) P := fun F0 H0 F H σ D S o => by
  obtain ⟨p, vs, k1, k2, k3, k4⟩ := S.sl.owned e
  refine ⟨.ref p, k1, .inl ⟨rfl, vs, .inl (.inl k3)⟩, h F H σ S.sl _ fun v F1 H1 e1 r1 => ⟨p, vs, v, rfl, rfl, e1.h p _ k3, by rw [k4.len]; exact sz_lt hz, ?_⟩⟩
  have S1 := S.grow e1
  obtain ⟨p', vs', z1, z2, z3, z4⟩ := S1.sl.owned e
  rw [k1] at z1; cases z1
  exact o.nx F1 _ σ _ (S1.write e k1 z2 ((k4.mono e1.f).append (Reps.one r1))) k
theorem q_app {ds : List α} (e : Γ[i]? = some (.own c ds)) (h : Ev Γ te c d) (hz : ds.length < 1000000) (k : SW R (Γ.set i (.own c (ds ++ [d]))) tz P) : SW R Γ (tSeq (tApp K i te) tz) P := sw_seq (sw_app e h hz k)
/-- xs[j] = e -/
theorem sw_set {ds : List α} {x : Int} {n : Nat} (e : Γ[i]? = some (.own c ds)) (h : Ev Γ te c d) (hi : Ev Γ tb cInt x) (hj : ixN ds.length x = some n) (k : P.nx (Γ.set i (.own c (ds.set n d)))) : SW R Γ (tAsg te (gSub (tVar i) tb rSetL)) P := fun F0 H0 F H σ D S o => by
  obtain ⟨p, vs, k1, k2, k3, k4⟩ := S.sl.owned e
  refine h F H σ S.sl _ fun v F1 H1 e1 r1 => ⟨.ref p, k1, hi F1 H1 σ (S.grow e1).sl _ fun y F2 H2 e2 r2 => ?_⟩
  have S2 := (S.grow e1).grow e2
  obtain ⟨p', vs', z1, z2, z3, z4⟩ := S2.sl.owned e
  rw [k1] at z1; cases z1
  exact ⟨p, vs, x, n, rfl, r2, e2.h p _ (e1.h p _ k3), by rw [k4.len]; exact hj, o.nx F2 _ σ _ (S2.write e k1 z2 (Reps.set (c.mono e2.f r1) n (k4.mono (e1.trans e2).f))) k⟩
theorem q_set {ds : List α} {x : Int} {n : Nat} (e : Γ[i]? = some (.own c ds)) (h : Ev Γ te c d) (hi : Ev Γ tb cInt x) (hj : ixN ds.length x = some n) (k : SW R (Γ.set i (.own c (ds.set n d))) tz P) : SW R Γ (tSeq (tAsg te (gSub (tVar i) tb rSetL)) tz) P := sw_seq (sw_set e h hi hj k)
/-- a statement's value dropped -/
theorem sw_drop (h : Ev Γ te c d) (k : P.nx Γ) : SW R Γ (tDrop te) P := fun F0 H0 F H σ D S o => h F H σ S.sl _ fun v F1 H1 e1 r1 => o.nx F1 H1 σ _ (S.grow e1) k
/-! ### loops -/
theorem Ob.turn {F0 H0 F1 H1 : Hp} {D : Ends} (o : Ob R P F0 H0 D) {σ : L2.St} {Γ : Gam} (S : Stt F0 H0 F1 H1 σ Γ) {N : L2.St → Hp → Prop} {I : Gam → Prop} (hN : ∀ F H σ Γ, Stt F0 H0 F H σ Γ → Ex F1 F → I Γ → N σ H) :
    Ob R { P with nx := I, ct := I, bk := P.nx } F1 H0 { D with nx := N, ct := N, bk := D.nx } := by
  have up : ∀ {F H σ Γ}, Stt F1 H0 F H σ Γ → Stt F0 H0 F H σ Γ := fun T => ⟨T.sl, S.f.trans T.f, T.h, fun a o q => by
    rcases T.n a o q with z | z
    · exact S.n a o z
    · exact .inr z, T.own⟩
  refine ⟨fun F H σ Γ T h => hN F H σ Γ (up T) T.f h, fun F H v d e r h => o.rt F H v d ⟨S.f.trans e.f, e.h, e.i, fun a o q => ?_⟩ r h, fun F H σ Γ T h => o.nx F H σ Γ (up T) h, fun F H σ Γ T h => hN F H σ Γ (up T) T.f h, fun C F H h e => o.ex C F H h ⟨S.f.trans e.f, e.h, e.i, fun a o q => ?_⟩⟩
  all_goals
    rcases e.n a o q with z | z
    · exact S.n a o z
    · exact .inr z
theorem Stt.base {F0 H0 F H : Hp} {σ : L2.St} {Γ : Gam} (S : Stt F0 H0 F H σ Γ) : Stt F H0 F H σ Γ := ⟨S.sl, Ex.refl F, S.h, fun _ _ q => .inl q, S.own⟩
/-- while, over a datum of one's own -/
theorem sw_while {ι : Type} (G : ι → Gam) (I : ι → Prop) (μ : ι → Nat) (b : ι → Bool) (x0 : ι) (hG : Wk Γ (G x0)) (h0 : I x0) {tt : TT} (ht : ∀ x, I x → EvT (G x) tt (b x))
    (hb : ∀ x, I x → b x = true → SW R (G x) t { P with nx := fun Γ' => ∃ y, Wk Γ' (G y) ∧ I y ∧ μ y < μ x, ct := fun Γ' => ∃ y, Wk Γ' (G y) ∧ I y ∧ μ y < μ x, bk := P.nx })
    (hd : ∀ x, I x → b x = false → P.nx (G x)) : SW R Γ (tWhile tt t) P := fun F0 H0 F H σ D S o => by
  refine ⟨fun m σ H => ∃ F x, Stt F0 H0 F H σ (G x) ∧ I x ∧ m = μ x, ⟨μ x0, F, x0, S.wk hG, h0, rfl⟩, fun m σ H ⟨F, x, S, hI, hm⟩ => ht x hI F H σ S.sl _ fun F1 H1 e1 => ?_⟩
  have S1 := S.grow e1
  cases hx : b x with
  | true =>
    refine iteT ⟨fun σ' H' => ∃ F y, Stt F0 H0 F H' σ' (G y) ∧ I y ∧ μ y < μ x, fun σ' H' ⟨F, y, T, hy, hl⟩ => ⟨μ y, by omega, F, y, T, hy, rfl⟩, ?_⟩
    refine hb x hI hx F1 H0 F1 H1 σ _ S1.base (o.turn S1 fun F H σ Γ T _ h => ?_)
    obtain ⟨y, hw, hy, hl⟩ := h
    exact ⟨F, y, T.wk hw, hy, hl⟩
  | false => exact iteF (o.nx F1 H1 σ _ S1 (hd x hI hx))
theorem q_while {ι : Type} (G : ι → Gam) (I : ι → Prop) (μ : ι → Nat) (b : ι → Bool) (x0 : ι) (hG : Wk Γ (G x0)) (h0 : I x0) {tt : TT} (ht : ∀ x, I x → EvT (G x) tt (b x))
    (hb : ∀ x, I x → b x = true → SW R (G x) t { P with nx := fun Γ' => ∃ y, Wk Γ' (G y) ∧ I y ∧ μ y < μ x, ct := fun Γ' => ∃ y, Wk Γ' (G y) ∧ I y ∧ μ y < μ x, bk := fun Γ' => SW R Γ' tz P })
    (hd : ∀ x, I x → b x = false → SW R (G x) tz P) : SW R Γ (tSeq (tWhile tt t) tz) P := sw_seq (sw_while (P := { P with nx := fun Γ' => SW R Γ' tz P }) G I μ b x0 hG h0 ht hb hd)
/-- for over a list; I: what holds behind so many turns -/
theorem sw_forL {ds : List α} (h : Ev Γ te (cList K c) ds) (I : Nat → Gam → Prop) (h0 : I 0 Γ)
    (hb : ∀ n d Γ', ds[n]? = some d → I n Γ' → SW R (Γ'.set j (.val c d)) t { P with nx := I (n + 1), ct := I (n + 1), bk := P.nx }) (hd : ∀ Γ', I ds.length Γ' → P.nx Γ') : SW R Γ (tFor (iList K te) (gName j) t) P := fun F0 H0 F H σ D S o =>
  h F H σ S.sl _ fun v F1 H1 e1 r1 => by
    obtain ⟨a, vs, rfl, hs, hr⟩ := r1
    have S1 := S.grow e1
    refine ⟨a, rfl, ⟨vs, ex_l S1.sl.ex hs⟩, for_list (xs := vs) (fun n σ H => ∃ F Γ', Stt F0 H0 F H σ Γ' ∧ Ex F1 F ∧ I n Γ') ⟨F1, Γ, S1, Ex.refl _, h0⟩ (fun n σ H _ ⟨F, Γ', T, e, _⟩ => ex_l (e.trans T.sl.ex) hs) ?_ ?_⟩
    · rintro n x σ H hx ⟨F, Γ', T, e, hI⟩
      obtain ⟨d, hd1, hd2⟩ := hr.getV hx
      have T1 : Stt F0 H0 F H (σ.set j (some x)) (Γ'.set j (.val c d)) := T.setV (c.mono e hd2)
      exact hb n d Γ' hd1 hI F H0 F H _ _ T1.base (o.turn T1 fun F2 H2 σ2 Γ2 U e2 h2 => ⟨F2, Γ2, U, e.trans e2, h2⟩)
    · rintro σ H ⟨F, Γ', T, e, hI⟩
      exact o.nx F H σ Γ' T (hd Γ' (hr.len ▸ hI))
theorem q_forL {ds : List α} (h : Ev Γ te (cList K c) ds) (I : Nat → Gam → Prop) (h0 : I 0 Γ)
    (hb : ∀ n d Γ', ds[n]? = some d → I n Γ' → SW R (Γ'.set j (.val c d)) t { P with nx := I (n + 1), ct := I (n + 1), bk := fun Γ' => SW R Γ' tz P }) (hd : ∀ Γ', I ds.length Γ' → SW R Γ' tz P) : SW R Γ (tSeq (tFor (iList K te) (gName j) t) tz) P :=
  sw_seq (sw_forL (P := { P with nx := fun Γ' => SW R Γ' tz P }) h I h0 hb hd)
theorem sw_forT {ds : List α} (h : Ev Γ te (cTupL K c) ds) (I : Nat → Gam → Prop) (h0 : I 0 Γ)
    (hb : ∀ n d Γ', ds[n]? = some d → I n Γ' → SW R (Γ'.set j (.val c d)) t { P with nx := I (n + 1), ct := I (n + 1), bk := P.nx }) (hd : ∀ Γ', I ds.length Γ' → P.nx Γ') : SW R Γ (tFor (iTup K te) (gName j) t) P := fun F0 H0 F H σ D S o =>
  h F H σ S.sl _ fun v F1 H1 e1 r1 => by
    obtain ⟨a, vs, rfl, hs, hr⟩ := r1
    have S1 := S.grow e1
    refine ⟨a, rfl, ⟨vs, ex_t S1.sl.ex hs⟩, for_tup (xs := vs) (fun n σ H => ∃ F Γ', Stt F0 H0 F H σ Γ' ∧ Ex F1 F ∧ I n Γ') ⟨F1, Γ, S1, Ex.refl _, h0⟩ (fun n σ H _ ⟨F, Γ', T, e, _⟩ => ex_t (e.trans T.sl.ex) hs) ?_ ?_⟩
    · rintro n x σ H hx ⟨F, Γ', T, e, hI⟩
      obtain ⟨d, hd1, hd2⟩ := hr.getV hx
      have T1 : Stt F0 H0 F H (σ.set j (some x)) (Γ'.set j (.val c d)) := T.setV (c.mono e hd2)
      exact hb n d Γ' hd1 hI F H0 F H _ _ T1.base (o.turn T1 fun F2 H2 σ2 Γ2 U e2 h2 => ⟨F2, Γ2, U, e.trans e2, h2⟩)
    · rintro σ H ⟨F, Γ', T, e, hI⟩
      exact o.nx F H σ Γ' T (hd Γ' (hr.len ▸ hI))
theorem sw_forR1 {m : Int} (h : Ev Γ ta cInt m) (hm : m ≤ 2 ^ 60) (hm0 : -(2 ^ 60) ≤ m) (I : Nat → Gam → Prop) (h0 : I 0 Γ)
    (hb : ∀ (n : Nat) Γ', (n : Int) < m → I n Γ' → SW R (Γ'.set j (.val cInt (n : Int))) t { P with nx := I (n + 1), ct := I (n + 1), bk := P.nx }) (hd : ∀ Γ', I m.toNat Γ' → P.nx Γ') : SW R Γ (tFor (iRng1 (tCons ta tNil)) (gName j) t) P := fun F0 H0 F H σ D S o =>
  h F H σ S.sl _ fun v F1 H1 e1 r1 => by
    have S1 := S.grow e1
    cases (show v = .int m from r1)
    refine ⟨m, rfl, by omega, by omega, for_range (lo := 0) (n := m.toNat) (fun n σ H => ∃ F Γ', Stt F0 H0 F H σ Γ' ∧ I n Γ') ⟨F1, Γ, S1, h0⟩ ?_ ?_⟩
    · rintro n σ H hn ⟨F, Γ', T, hI⟩
      have T1 : Stt F0 H0 F H (σ.set j (some (.int (0 + (n : Int))))) (Γ'.set j (.val cInt (n : Int))) := T.setV (by rw [Int.zero_add]; rfl)
      exact hb n Γ' (by omega) hI F H0 F H _ _ T1.base (o.turn T1 fun F2 H2 σ2 Γ2 U e2 h2 => ⟨F2, Γ2, U, h2⟩)
    · rintro σ H ⟨F, Γ', T, hI⟩
      exact o.nx F H σ Γ' T (hd Γ' hI)
theorem q_forR1 {m : Int} (h : Ev Γ ta cInt m) (hm : m ≤ 2 ^ 60) (hm0 : -(2 ^ 60) ≤ m) (I : Nat → Gam → Prop) (h0 : I 0 Γ)
    (hb : ∀ (n : Nat) Γ', (n : Int) < m → I n Γ' → SW R (Γ'.set j (.val cInt (n : Int))) t { P with nx := I (n + 1), ct := I (n + 1), bk := fun Γ' => SW R Γ' tz P }) (hd : ∀ Γ', I m.toNat Γ' → SW R Γ' tz P) : SW R Γ (tSeq (tFor (iRng1 (tCons ta tNil)) (gName j) t) tz) P :=
  sw_seq (sw_forR1 (P := { P with nx := fun Γ' => SW R Γ' tz P }) h hm hm0 I h0 hb hd)
theorem sw_forR2 {l m : Int} (hl : Ev Γ ta cInt l) (h : Ev Γ tb cInt m) (hl1 : -(2 ^ 60) ≤ l ∧ l ≤ 2 ^ 60) (hm : -(2 ^ 60) ≤ m ∧ m ≤ 2 ^ 60) (I : Nat → Gam → Prop) (h0 : I 0 Γ)
    (hb : ∀ (n : Nat) Γ', l + (n : Int) < m → I n Γ' → SW R (Γ'.set j (.val cInt (l + (n : Int)))) t { P with nx := I (n + 1), ct := I (n + 1), bk := P.nx }) (hd : ∀ Γ', I (m - l).toNat Γ' → P.nx Γ') : SW R Γ (tFor (iRng2 (tCons ta (tCons tb tNil))) (gName j) t) P := fun F0 H0 F H σ D S o =>
  hl F H σ S.sl _ fun v F1 H1 e1 r1 => h F1 H1 σ (S.grow e1).sl _ fun w F2 H2 e2 r2 => by
    have S1 := (S.grow e1).grow e2
    cases (show v = .int l from r1); cases (show w = .int m from r2)
    refine ⟨l, m, rfl, ⟨by omega, by omega, by omega, by omega⟩, for_range (lo := l) (n := (m - l).toNat) (fun n σ H => ∃ F Γ', Stt F0 H0 F H σ Γ' ∧ I n Γ') ⟨F2, Γ, S1, h0⟩ ?_ ?_⟩
    · rintro n σ H hn ⟨F, Γ', T, hI⟩
      have T1 : Stt F0 H0 F H (σ.set j (some (.int (l + (n : Int))))) (Γ'.set j (.val cInt (l + (n : Int)))) := T.setV (rfl)
      exact hb n Γ' (by omega) hI F H0 F H _ _ T1.base (o.turn T1 fun F2 H2 σ2 Γ2 U e2 h2 => ⟨F2, Γ2, U, h2⟩)
    · rintro σ H ⟨F, Γ', T, hI⟩
      exact o.nx F H σ Γ' T (hd Γ' hI)
theorem q_forR2 {l m : Int} (hl : Ev Γ ta cInt l) (h : Ev Γ tb cInt m) (hl1 : -(2 ^ 60) ≤ l ∧ l ≤ 2 ^ 60) (hm : -(2 ^ 60) ≤ m ∧ m ≤ 2 ^ 60) (I : Nat → Gam → Prop) (h0 : I 0 Γ)
    (hb : ∀ (n : Nat) Γ', l + (n : Int) < m → I n Γ' → SW R (Γ'.set j (.val cInt (l + (n : Int)))) t { P with nx := I (n + 1), ct := I (n + 1), bk := fun Γ' => SW R Γ' tz P }) (hd : ∀ Γ', I (m - l).toNat Γ' → SW R Γ' tz P) : SW R Γ (tSeq (tFor (iRng2 (tCons ta (tCons tb tNil))) (gName j) t) tz) P :=
  sw_seq (sw_forR2 (P := { P with nx := fun Γ' => SW R Γ' tz P }) hl h hl1 hm I h0 hb hd)
end
/-! ### comprehensions -/
theorem sl_wipe {F H : Hp} {σ : L2.St} {Γ : Gam} (S : Sl F H σ Γ) : ∀ vs : List Nat, Sl F H (wipe σ vs) (vs.foldr (fun v G => G.set v .any) Γ)
  | [] => S
  | v :: vs => by
    show Sl F H ((wipe σ vs).set v none) _
    exact (sl_wipe S vs).setA
section
variable {K : PySem.W.Frag} {Γ : Gam} {ta tb tc te : TE} {α β γ : Type} {c : Cod α} {d : α} {c2 : Cod β} {d2 : β}
theorem wipe1 {j : Nat} (σ : L2.St) (x : V) : wipe ((wipe σ [j]).set j (some x)) [j] = wipe σ [j] := by
  show (((σ.set j none).set j (some x)).set j none) = σ.set j none
  rw [List.set_set, List.set_set]
/-- which turns give, and what -/
def gvn {α β : Type} (f : α → Bool) (g : α → β) (ds : List α) : List β := (ds.filter f).map g
/-- [e for x in xs if t]; G: the block's slots -/
theorem evN_lcL {ds : List α} {j : Nat} {vs : List Nat} {tt : TT} (h : Ev Γ ta (cList K c) ds) (f : α → Bool) (g : α → β) (hz : ds.length ≤ 1000000) (hw : ∀ (σ : L2.St) x, wipe ((wipe σ vs).set j (some x)) vs = wipe σ vs)
    (ht : ∀ d ∈ ds, EvT ((vs.foldr (fun v G => G.set v .any) Γ).set j (.val c d)) tt (f d)) (he : ∀ d ∈ ds, f d = true → Ev ((vs.foldr (fun v G => G.set v .any) Γ).set j (.val c d)) te c2 (g d)) :
    EvN Γ (tLc (iList K ta) (gName j) tt te vs) c2 (gvn f g ds) := fun F H σ S Q q => h F H σ S _ fun v F1 H1 e1 r1 => by
  obtain ⟨a, us, rfl, hs, hr⟩ := r1
  refine ⟨a, rfl, ⟨us, ex_l e1.i hs⟩, fun D hD => lc_list (xs := us) (fun i H' => ∃ F' acc, Ext F1 H1 F' H' ∧ F' D = none ∧ H' D = some (.lst acc) ∧ Reps c2 F' acc (gvn f g (ds.take i)))
    ⟨F1, [], Ext.aside e1.i hD, e1.i.free hD, upd_same, trivial⟩ (fun i H' _ ⟨F', acc, x, _⟩ => ex_l (x.f.trans x.i) hs) (fun i x H' hx ⟨F', acc, e2, k1, k2, k3⟩ => ⟨hw _ _, ?_⟩) (fun H' ⟨F', acc, e2, k1, k2, k3⟩ => ?_)⟩
  · obtain ⟨d, hd1, hd2⟩ := hr.getV hx
    have hm : d ∈ ds := List.mem_of_getElem? hd1
    have hlen : (gvn f g (ds.take i)).length ≤ ds.length := by
      unfold gvn; rw [List.length_map]
      exact Nat.le_trans (List.length_filter_le _ _) (by rw [List.length_take]; exact Nat.min_le_right _ _)
    have hi : i < ds.length := (List.getElem?_eq_some_iff.mp hd1).1
    have hlen2 : (gvn f g (ds.take i)).length ≤ i := by
      unfold gvn; rw [List.length_map]
      exact Nat.le_trans (List.length_filter_le _ _) (by rw [List.length_take]; exact Nat.min_le_left _ _)
    have etake : ds.take (i + 1) = ds.take i ++ [d] := by rw [List.take_add_one, hd1]; rfl
    have S2 : Sl F' H' ((wipe σ vs).set j (some x)) ((vs.foldr (fun v G => G.set v .any) Γ).set j (.val c d)) := (sl_wipe (S.grow (e1.trans e2)) vs).setV (c.mono e2.f hd2)
    refine ht d hm F' H' _ S2 _ fun F3 H3 e3 => ?_
    have k1' : F3 D = none := by
      cases q : F3 D with
      | none => rfl
      | some o =>
        rcases e3.n D o q with z | z
        · rw [k1] at z; cases z
        · rw [k2] at z; cases z
    cases hf : f d with
    | true =>
      refine iteT (he d hm hf F3 H3 _ (S2.grow e3) _ fun y F4 H4 e4 r4 => ⟨acc, e4.h D _ (e3.h D _ k2), by rw [k3.len]; exact sz_lt (by omega), F4, acc ++ [y], ?_⟩)
      have k1'' : F4 D = none := by
        cases q : F4 D with
        | none => rfl
        | some o =>
          rcases e4.n D o q with z | z
          · rw [k1'] at z; cases z
          · rw [e3.h D _ k2] at z; cases z
      have x := (e2.trans e3).trans e4
      refine ⟨⟨x.f, fun b o q => ?_, x.i.mut k1'', x.n⟩, k1'', upd_same, ?_⟩
      · rw [upd_ne (ne_of_none q hD)]; exact x.h b o q
      · rw [etake]; unfold gvn; rw [List.filter_append, List.map_append, List.filter_cons, if_pos hf]
        exact (k3.mono (e3.trans e4).f).append (Reps.one r4)
    | false =>
      refine iteF ⟨F3, acc, e2.trans e3, k1', e3.h D _ k2, ?_⟩
      rw [etake]; unfold gvn; rw [List.filter_append, List.map_append, List.filter_cons, if_neg (by rw [hf]; decide)]
      show Reps c2 F3 acc (_ ++ [])
      rw [List.append_nil]; exact k3.mono e3.f
  · rw [hr.len, List.take_length] at k3
    exact q D acc F' H' (e1.trans e2) (e1.h.free hD) k1 k2 k3
theorem evT_yes : EvT Γ tYes true := fun F H σ S Q q => q F H (Ext.refl S.ex)
theorem gvn_all {α β : Type} (g : α → β) (ds : List α) : gvn (fun _ => true) g ds = ds.map g := by unfold gvn; rw [List.filter_eq_self.mpr (fun _ _ => rfl)]
/-- without a test -/
theorem evN_lcLm {ds : List α} {j : Nat} {vs : List Nat} (h : Ev Γ ta (cList K c) ds) (g : α → β) (hz : ds.length ≤ 1000000) (hw : ∀ (σ : L2.St) x, wipe ((wipe σ vs).set j (some x)) vs = wipe σ vs)
    (he : ∀ d ∈ ds, Ev ((vs.foldr (fun v G => G.set v .any) Γ).set j (.val c d)) te c2 (g d)) : EvN Γ (tLc (iList K ta) (gName j) tYes te vs) c2 (ds.map g) :=
  evN_is (evN_lcL h (fun _ => true) g hz hw (fun _ _ => evT_yes) fun d hm _ => he d hm) (gvn_all g ds)
/-- [e for x in xs if t]; G: the block's slots -/
theorem evN_lcT {ds : List α} {j : Nat} {vs : List Nat} {tt : TT} (h : Ev Γ ta (cTupL K c) ds) (f : α → Bool) (g : α → β) (hz : ds.length ≤ 1000000) (hw : ∀ (σ : L2.St) x, wipe ((wipe σ vs).set j (some x)) vs = wipe σ vs)
    (ht : ∀ d ∈ ds, EvT ((vs.foldr (fun v G => G.set v .any) Γ).set j (.val c d)) tt (f d)) (he : ∀ d ∈ ds, f d = true → Ev ((vs.foldr (fun v G => G.set v .any) Γ).set j (.val c d)) te c2 (g d)) :
    EvN Γ (tLc (iTup K ta) (gName j) tt te vs) c2 (gvn f g ds) := fun F H σ S Q q => h F H σ S _ fun v F1 H1 e1 r1 => by
  obtain ⟨a, us, rfl, hs, hr⟩ := r1
  refine ⟨a, rfl, ⟨us, ex_t e1.i hs⟩, fun D hD => lc_tup (xs := us) (fun i H' => ∃ F' acc, Ext F1 H1 F' H' ∧ F' D = none ∧ H' D = some (.lst acc) ∧ Reps c2 F' acc (gvn f g (ds.take i)))
    ⟨F1, [], Ext.aside e1.i hD, e1.i.free hD, upd_same, trivial⟩ (fun i H' _ ⟨F', acc, x, _⟩ => ex_t (x.f.trans x.i) hs) (fun i x H' hx ⟨F', acc, e2, k1, k2, k3⟩ => ⟨hw _ _, ?_⟩) (fun H' ⟨F', acc, e2, k1, k2, k3⟩ => ?_)⟩
  · obtain ⟨d, hd1, hd2⟩ := hr.getV hx
    have hm : d ∈ ds := List.mem_of_getElem? hd1
    have hlen : (gvn f g (ds.take i)).length ≤ ds.length := by
      unfold gvn; rw [List.length_map]
      exact Nat.le_trans (List.length_filter_le _ _) (by rw [List.length_take]; exact Nat.min_le_right _ _)
    have hi : i < ds.length := (List.getElem?_eq_some_iff.mp hd1).1
    have hlen2 : (gvn f g (ds.take i)).length ≤ i := by
      unfold gvn; rw [List.length_map]
      exact Nat.le_trans (List.length_filter_le _ _) (by rw [List.length_take]; exact Nat.min_le_left _ _)
    have etake : ds.take (i + 1) = ds.take i ++ [d] := by rw [List.take_add_one, hd1]; rfl
    have S2 : Sl F' H' ((wipe σ vs).set j (some x)) ((vs.foldr (fun v G => G.set v .any) Γ).set j (.val c d)) := (sl_wipe (S.grow (e1.trans e2)) vs).setV (c.mono e2.f hd2)
    refine ht d hm F' H' _ S2 _ fun F3 H3 e3 => ?_
    have k1' : F3 D = none := by
      cases q : F3 D with
      | none => rfl
      | some o =>
        rcases e3.n D o q with z | z
        · rw [k1] at z; cases z
        · rw [k2] at z; cases z
    cases hf : f d with
    | true =>
      refine iteT (he d hm hf F3 H3 _ (S2.grow e3) _ fun y F4 H4 e4 r4 => ⟨acc, e4.h D _ (e3.h D _ k2), by rw [k3.len]; exact sz_lt (by omega), F4, acc ++ [y], ?_⟩)
      have k1'' : F4 D = none := by
        cases q : F4 D with
        | none => rfl
        | some o =>
          rcases e4.n D o q with z | z
          · rw [k1'] at z; cases z
          · rw [e3.h D _ k2] at z; cases z
      have x := (e2.trans e3).trans e4
      refine ⟨⟨x.f, fun b o q => ?_, x.i.mut k1'', x.n⟩, k1'', upd_same, ?_⟩
      · rw [upd_ne (ne_of_none q hD)]; exact x.h b o q
      · rw [etake]; unfold gvn; rw [List.filter_append, List.map_append, List.filter_cons, if_pos hf]
        exact (k3.mono (e3.trans e4).f).append (Reps.one r4)
    | false =>
      refine iteF ⟨F3, acc, e2.trans e3, k1', e3.h D _ k2, ?_⟩
      rw [etake]; unfold gvn; rw [List.filter_append, List.map_append, List.filter_cons, if_neg (by rw [hf]; decide)]
      show Reps c2 F3 acc (_ ++ [])
      rw [List.append_nil]; exact k3.mono e3.f
  · rw [hr.len, List.take_length] at k3
    exact q D acc F' H' (e1.trans e2) (e1.h.free hD) k1 k2 k3
theorem evN_lcTm {ds : List α} {j : Nat} {vs : List Nat} (h : Ev Γ ta (cTupL K c) ds) (g : α → β) (hz : ds.length ≤ 1000000) (hw : ∀ (σ : L2.St) x, wipe ((wipe σ vs).set j (some x)) vs = wipe σ vs)
    (he : ∀ d ∈ ds, Ev ((vs.foldr (fun v G => G.set v .any) Γ).set j (.val c d)) te c2 (g d)) : EvN Γ (tLc (iTup K ta) (gName j) tYes te vs) c2 (ds.map g) :=
  evN_is (evN_lcT h (fun _ => true) g hz hw (fun _ _ => evT_yes) fun d hm _ => he d hm) (gvn_all g ds)
/-- a tuple of alike things as such -/
theorem ev_l_tri {a b x : α} (h : Ev Γ te (cTri K c c c) (a, b, x)) : Ev Γ te (cTupL K c) [a, b, x] := fun F H σ S Q q => h F H σ S Q fun v F1 H1 e1 r1 => by
  obtain ⟨p, vs, rfl, hs, x, _, rfl, hx, y, _, rfl, hy, z, _, rfl, hz, h⟩ := r1
  cases (show _ = [] from h)
  exact q _ F1 H1 e1 ⟨p, _, rfl, hs, hx, hy, hz, trivial⟩
theorem ev_l_pair {a b : α} (h : Ev Γ te (cPair K c c) (a, b)) : Ev Γ te (cTupL K c) [a, b] := fun F H σ S Q q => h F H σ S Q fun v F1 H1 e1 r1 => by
  obtain ⟨p, vs, rfl, hs, x, _, rfl, hx, y, _, rfl, hy, h⟩ := r1
  cases (show _ = [] from h)
  exact q _ F1 H1 e1 ⟨p, _, rfl, hs, hx, hy, trivial⟩
/-- [e for k in range(n)] -/
theorem evN_lcR1 {m : Int} {j : Nat} {vs : List Nat} (h : Ev Γ ta cInt m) (g : Nat → β) (hm : m ≤ 1000000) (hm0 : -(2 ^ 60) ≤ m) (hw : ∀ (σ : L2.St) x, wipe ((wipe σ vs).set j (some x)) vs = wipe σ vs)
    (he : ∀ n : Nat, (n : Int) < m → Ev ((vs.foldr (fun v G => G.set v .any) Γ).set j (.val cInt (n : Int))) te c2 (g n)) : EvN Γ (tLc (iRng1 (tCons ta tNil)) (gName j) tYes te vs) c2 ((List.range m.toNat).map g) := fun F H σ S Q q => h F H σ S _ fun v F1 H1 e1 r1 => by
  cases (show v = .int m from r1)
  refine ⟨m, rfl, by omega, by omega, fun D hD => lc_range (lo := 0) (n := m.toNat) (fun i H' => ∃ F' acc, Ext F1 H1 F' H' ∧ F' D = none ∧ H' D = some (.lst acc) ∧ Reps c2 F' acc ((List.range i).map g))
    ⟨F1, [], Ext.aside e1.i hD, e1.i.free hD, upd_same, trivial⟩ (fun i H' hi ⟨F', acc, e2, k1, k2, k3⟩ => ⟨hw _ _, ?_⟩) (fun H' ⟨F', acc, e2, k1, k2, k3⟩ => q D acc F' H' (e1.trans e2) (e1.h.free hD) k1 k2 k3)⟩
  have S2 : Sl F' H' ((wipe σ vs).set j (some (.int (0 + (i : Int))))) ((vs.foldr (fun v G => G.set v .any) Γ).set j (.val cInt (i : Int))) := (sl_wipe (S.grow (e1.trans e2)) vs).setV (by rw [Int.zero_add]; rfl)
  unfold tYes; dsimp only
  rw [if_pos rfl]
  refine he i (by omega) F' H' _ S2 _ fun y F4 H4 e4 r4 => ⟨acc, e4.h D _ k2, by rw [k3.len, List.length_map, List.length_range]; exact sz_lt (by omega), F4, acc ++ [y], ?_⟩
  have k1'' : F4 D = none := by
    cases q : F4 D with
    | none => rfl
    | some o =>
      rcases e4.n D o q with z | z
      · rw [k1] at z; cases z
      · rw [k2] at z; cases z
  have x := e2.trans e4
  refine ⟨⟨x.f, fun b o q => ?_, x.i.mut k1'', x.n⟩, k1'', upd_same, ?_⟩
  · rw [upd_ne (ne_of_none q hD)]; exact x.h b o q
  · rw [List.range_succ, List.map_append]
    exact (k3.mono e4.f).append (Reps.one r4)
end
/-! ### a def's body -/
theorem Stt.start {F H : Hp} {σ : L2.St} {Γ : Gam} (S : Sl F H σ Γ) (ho : ∀ i : Nat, ¬ IsOwn Γ[i]?) : Stt F H F H σ Γ := ⟨S, Ex.refl _, Ex.refl _, fun _ _ q => .inl q, fun i p o => (ho i o).elim⟩
def noOwn : Gam → Bool
  | [] => true
  | .ob _ _ :: _ => false
  | _ :: Γ => noOwn Γ
theorem noOwn_ok : ∀ {Γ : Gam}, noOwn Γ = true → ∀ i : Nat, ¬ IsOwn Γ[i]?
  | [], _, i, h => by simp at h; exact h
  | e :: Γ, q, 0, h => by cases e <;> first | exact h | (exact (by simp [noOwn] at q))
  | e :: Γ, q, i + 1, h => by
    have q' : noOwn Γ = true := by cases e <;> first | exact q | (simp [noOwn] at q)
    exact noOwn_ok q' i (by simpa using h)
/-- the slots at the start, from the values -/
theorem Sl.of {F H : Hp} (e : Ex F H) : ∀ {σ : L2.St} {Γ : Gam}, noOwn Γ = true → (∀ i : Nat, i < max σ.length Γ.length → ∃ s g, σ[i]? = some s ∧ Γ[i]? = some g ∧ EntOk F H s g) → Sl F H σ Γ := fun {σ Γ} hn h => by
  refine ⟨e, ?_, fun i s g h1 h2 => ?_, fun i j p _ oi => (noOwn_ok hn i oi).elim⟩
  · rcases Nat.lt_trichotomy σ.length Γ.length with z | z | z
    · obtain ⟨s, g, h1, _⟩ := h σ.length (by omega)
      have := (List.getElem?_eq_some_iff.mp h1).1; omega
    · exact z
    · obtain ⟨s, g, _, h1, _⟩ := h Γ.length (by omega)
      have := (List.getElem?_eq_some_iff.mp h1).1; omega
  · have hi := (List.getElem?_eq_some_iff.mp h1).1
    obtain ⟨s', g', k1, k2, k3⟩ := h i (by omega)
    rw [h1] at k1; rw [h2] at k2; cases k1; cases k2; exact k3
end Pw

namespace Pw
open PySem L2 PyProof.Rows
/-! ### a body keeps a promise -/
def PF {β : Type} (d : β) : Pst β := ⟨fun _ => False, fun x => x = d, fun _ => False, fun _ => False, E0, fun _ => False⟩
/-- a value, or an error of the class at C -/
def PX {β : Type} (d : Option β) (C : Addr) (E : XK) : Pst β := ⟨fun _ => False, fun x => d = some x, fun _ => False, fun _ => False, E, fun D => D = C ∧ d = none⟩
theorem sl_start {α : Type} {ca : CodA α} {a : α} {F H : Hp} {vs : List V} {N : List Str} (e : Ex F H) (r : ca.rep F vs a) (m : Nat) (hN : N.length = (ca.env a).length + m) : Sl F H (start N vs) (ca.env a ++ List.replicate m .any) := by
  have hl := ca.len r
  have h1 : start N vs = vs.map some ++ List.replicate m none := by unfold L2.start; rw [hN, hl, Nat.add_sub_cancel_left]
  rw [h1]
  refine ⟨e, by simp [hl], fun i s g k1 k2 => ?_, fun i j p _ oi => ?_⟩
  · rw [List.getElem?_append] at k1 k2
    by_cases hi : i < vs.length
    · rw [if_pos (by simpa using hi)] at k1
      rw [if_pos (by omega)] at k2
      rw [List.getElem?_map] at k1
      cases q : vs[i]? with
      | none => rw [q] at k1; cases k1
      | some x => rw [q] at k1; cases k1; exact ca.ok r i x g H q k2
    · rw [if_neg (by omega)] at k2
      have : g = .any := by
        have := List.mem_of_getElem? k2
        exact List.eq_of_mem_replicate this
      subst this; trivial
  · rw [List.getElem?_append] at oi
    by_cases hi : i < (ca.env a).length
    · rw [if_pos hi] at oi; exact (ca.no a i oi).elim
    · rw [if_neg hi] at oi
      cases q : (List.replicate m Ent.any)[i - (ca.env a).length]? with
      | none => rw [q] at oi; exact oi.elim
      | some g =>
        have : g = .any := List.eq_of_mem_replicate (List.mem_of_getElem? q)
        subst this; rw [q] at oi; exact oi.elim
theorem stt_start {α : Type} {ca : CodA α} {a : α} {F H : Hp} {vs : List V} {N : List Str} (e : Ex F H) (r : ca.rep F vs a) (m : Nat) (hN : N.length = (ca.env a).length + m) : Stt F H F H (start N vs) (ca.env a ++ List.replicate m .any) := by
  have S := sl_start (N := N) e r m hN
  refine ⟨S, Ex.refl _, Ex.refl _, fun _ _ q => .inl q, fun i p oi => ?_⟩
  rw [List.getElem?_append] at oi
  by_cases hi : i < (ca.env a).length
  · rw [if_pos hi] at oi; exact (ca.no a i oi).elim
  · rw [if_neg hi] at oi
    cases q : (List.replicate m Ent.any)[i - (ca.env a).length]? with
    | none => rw [q] at oi; exact oi.elim
    | some g =>
      have : g = .any := List.eq_of_mem_replicate (List.mem_of_getElem? q)
      subst this; rw [q] at oi; exact oi.elim
section
variable {α β : Type} {ca : CodA α} {pre : α → Prop} {c : Cod β} {t : TS} {vs : List V} {H : Hp} {Q : VK} {E : XK} {N : List Str}
abbrev ends (Q : VK) : Ends := { nx := fun _ H' => Q .non H', rt := Q }
theorem body_F {f : α → β} (m : Nat) (h : ∀ a, pre a → SW (rVal c) (ca.env a ++ List.replicate m .any) t (PF (f a))) (hN : ∀ a, N.length = (ca.env a).length + m) (hs : SpF ca pre c f vs H Q E) : t (ends Q) (start N vs) H := by
  obtain ⟨F, a, e, r, hp, q⟩ := hs
  exact h a hp F H F H _ _ (stt_start e r m (hN a)) ⟨fun _ _ _ _ _ z => z.elim, fun F' H' v d x r z => by subst z; exact q v F' H' x r, fun _ _ _ _ _ z => z.elim, fun _ _ _ _ _ z => z.elim, fun _ _ _ z => z.elim⟩
theorem body_N {f : α → List β} (m : Nat) (h : ∀ a, pre a → SW (rNew c) (ca.env a ++ List.replicate m .any) t (PF (f a))) (hN : ∀ a, N.length = (ca.env a).length + m) (hs : SpN ca pre c f vs H Q E) : t (ends Q) (start N vs) H := by
  obtain ⟨F, a, e, r, hp, q⟩ := hs
  exact h a hp F H F H _ _ (stt_start e r m (hN a)) ⟨fun _ _ _ _ _ z => z.elim, fun F' H' v d x r z => by subst z; obtain ⟨p, vs, rfl, k1, k2, k3, k4⟩ := r; exact q p vs F' H' x k1 k2 k3 k4, fun _ _ _ _ _ z => z.elim, fun _ _ _ _ _ z => z.elim, fun _ _ _ z => z.elim⟩
theorem body_X {f : α → Option β} {C : Addr} (m : Nat) (h : ∀ a, pre a → SW (rVal c) (ca.env a ++ List.replicate m .any) t (PX (f a) C E)) (hN : ∀ a, N.length = (ca.env a).length + m) (hs : SpX ca pre c f C vs H Q E) : t (ends Q) (start N vs) H := by
  obtain ⟨F, a, e, r, hp, q, qx⟩ := hs
  exact h a hp F H F H _ _ (stt_start e r m (hN a)) ⟨fun _ _ _ _ _ z => z.elim, fun F' H' v d x r z => q d v F' H' z x r, fun _ _ _ _ _ z => z.elim, fun _ _ _ _ _ z => z.elim, fun D F' H' z x => by obtain ⟨z1, z2⟩ := z; subst z1; exact qx z2 F' H' x⟩
theorem len_X {f : α → Option β} {C : Addr} {n : Nat} (hn : ∀ a, (ca.env a).length = n) (hs : SpX ca pre c f C vs H Q E) : vs.length = n := by
  obtain ⟨F, a, e, r, _⟩ := hs; rw [ca.len r, hn]
theorem len_F {f : α → β} {n : Nat} (hn : ∀ a, (ca.env a).length = n) (hs : SpF ca pre c f vs H Q E) : vs.length = n := by
  obtain ⟨F, a, e, r, _⟩ := hs; rw [ca.len r, hn]
theorem len_N {f : α → List β} {n : Nat} (hn : ∀ a, (ca.env a).length = n) (hs : SpN ca pre c f vs H Q E) : vs.length = n := by
  obtain ⟨F, a, e, r, _⟩ := hs; rw [ca.len r, hn]
end
/-! ### more operators -/
def CDivX (i j : Int) : Prop := j ≠ 0 ∧ j.natAbs.log2 < 9000
section
variable {X : Cx}
theorem op_fdivX : OpR X (binaryOp .FloorDiv) (rI CDivX fun i j => .int (i.fdiv j)) := opI fun i j _ _ _ _ _ hc q => floordiv_int hc.1 q (.inl (PyProof.noPylong_of_log2 hc.2))
end
/-- sizes -/
def Bt (n : Nat) (x : Int) : Prop := x.natAbs < 2 ^ n
theorem Bt.wk {n m : Nat} {x : Int} (h : Bt n x) (k : n ≤ m) : Bt m x := Nat.lt_of_lt_of_le h (Nat.pow_le_pow_right (by decide) k)
theorem Bt.mul {n m : Nat} {x y : Int} (h : Bt n x) (k : Bt m y) : Bt (n + m) (x * y) := wide_lt h k
theorem Bt.add {n m : Nat} {x y : Int} (h : Bt n x) (k : Bt m y) : Bt (max n m + 1) (x + y) := by
  have h1 : Bt (max n m) x := h.wk (Nat.le_max_left _ _)
  have h2 : Bt (max n m) y := k.wk (Nat.le_max_right _ _)
  unfold Bt at *
  rw [Nat.pow_succ]; omega
theorem Bt.sub {n m : Nat} {x y : Int} (h : Bt n x) (k : Bt m y) : Bt (max n m + 1) (x - y) := by
  have h1 : Bt (max n m) x := h.wk (Nat.le_max_left _ _)
  have h2 : Bt (max n m) y := k.wk (Nat.le_max_right _ _)
  unfold Bt at *
  rw [Nat.pow_succ]; omega
theorem Bt.le {n : Nat} {x y : Int} (h : Bt n y) (k : x.natAbs ≤ y.natAbs) : Bt n x := Nat.lt_of_le_of_lt k h
theorem Bt.mulX {n m : Nat} {x y : Int} (h : Bt n x) (k : Bt m y) (hl : n + m ≤ 134217728) : CMulX x y := mulx_ok h k hl
theorem Bt.divX {n : Nat} {x y : Int} (h : Bt n y) (h0 : y ≠ 0) (hl : n ≤ 9000) : CDivX x y := ⟨h0, by
  have hy : 0 < n := by
    unfold Bt at h
    rcases Nat.eq_zero_or_pos n with z | z
    · subst z; simp at h; exact absurd h h0
    · exact z
  exact Nat.lt_of_lt_of_le (PySem.Flt.log2_lt_of hy h) hl⟩
section
variable {K : PySem.W.Frag} {Γ : Gam} {ta tb tc te : TE} {α β γ : Type} {c : Cod α} {d : α} {c2 : Cod β} {d2 : β}
abbrev rAbs : List V → Hp → VK → Prop := fun xs H Q => ∃ i, xs = [.int i] ∧ Q (.int (if i < 0 then -i else i)) H
abbrev rMaxI' : List V → Hp → VK → Prop := fun xs H Q => ∃ i j, xs = [.int i, .int j] ∧ Q (.int (if j > i then j else i)) H
/-- sum of a list of whole numbers -/
theorem reps_ints {F : Hp} : ∀ {vs : List V} {ds : List Int}, Reps cInt F vs ds → vs = ds.map V.int
  | [], [], _ => rfl
  | v :: vs, d :: ds, h => by rw [show v = .int d from h.1, reps_ints h.2]; rfl
  | [], _ :: _, h => h.elim
  | _ :: _, [], h => h.elim
theorem reps_bools {F : Hp} : ∀ {vs : List V} {ds : List Bool}, Reps cBool F vs ds → vs = ds.map V.bl
  | [], [], _ => rfl
  | v :: vs, d :: ds, h => by rw [show v = .bl d from h.1, reps_bools h.2]; rfl
  | [], _ :: _, h => h.elim
  | _ :: _, [], h => h.elim
theorem ev_sum {ds : List Int} (h1 : Ev Γ ta (cInts K) ds) : Ev Γ (tCB (rSum K) (tCons ta tNil)) cInt ds.sum :=
  ev_cb1 h1 fun F H x e r1 Q q => by
    obtain ⟨a, vs, rfl, hs, hr⟩ := r1
    exact ⟨a, ds, rfl, by rw [← reps_ints hr]; exact ex_l e hs, q _ F H (Ext.refl e) rfl⟩
theorem ev_all {ds : List Bool} (h1 : Ev Γ ta (cList K cBool) ds) : Ev Γ (tCB (rAll K) (tCons ta tNil)) cBool (ds.all id) :=
  ev_cb1 h1 fun F H x e r1 Q q => by
    obtain ⟨a, vs, rfl, hs, hr⟩ := r1
    exact ⟨a, ds, rfl, by rw [← reps_bools hr]; exact ex_l e hs, q _ F H (Ext.refl e) rfl⟩
/-- isinstance of a built-in class -/
theorem ty_l {H : Hp} {a : Addr} {xs : List V} (h : SqL K H a xs) : TyX K H (.ref a) (.type "list") := by
  rcases h with (h | ⟨o, h⟩) | ⟨o, its, n, h, hc, _⟩
  · exact .base (.lst h)
  · exact .base (.frz h)
  · exact .kList h hc
theorem ty_t {H : Hp} {a : Addr} {xs : List V} (h : SqT K H a xs) : TyX K H (.ref a) (.type "tuple") := by
  rcases h with (h | ⟨o, h⟩) | ⟨o, its, n, h, hc, _⟩
  · exact .base (.tup h)
  · exact .fTuple h
  · exact .kTuple h hc
theorem ev_isi {n : String} {b : Bool} {t : String} (h1 : Ev Γ ta c d) (ht : ∀ F H x, Ex F H → c.rep F x d → TyX K H x (.type t)) (hu : PySem.W.kitOne K (.type t) (.type n) = some b) : Ev Γ (tCB (rIsi K) (tCons ta (tCons (tC (.ty n)) tNil))) cBool b := fun F H σ S Q q =>
  h1 F H σ S _ fun x F1 H1 e1 r1 => ⟨x, .ty n, .type t, .type n, b, rfl, .ty n, ht F1 H1 x e1.i r1, hu, q _ F1 H1 e1 rfl⟩
theorem ev_isiI {n : String} {b : Bool} {i : Int} (h1 : Ev Γ ta cInt i) (hu : PySem.W.kitOne K (.type "int") (.type n) = some b) : Ev Γ (tCB (rIsi K) (tCons ta (tCons (tC (.ty n)) tNil))) cBool b :=
  ev_isi h1 (fun F H x e r => by cases (show x = .int i from r); exact .base (.int i)) hu
theorem ev_isiB {n : String} {b : Bool} {i : Bool} (h1 : Ev Γ ta cBool i) (hu : PySem.W.kitOne K (.type "bool") (.type n) = some b) : Ev Γ (tCB (rIsi K) (tCons ta (tCons (tC (.ty n)) tNil))) cBool b :=
  ev_isi h1 (fun F H x e r => by cases (show x = .bl i from r); exact .base (.bl i)) hu
theorem ev_isiT {r : CodA α} {n : String} {b : Bool} {d : α} (h1 : Ev Γ ta (cTup K r) d) (hu : PySem.W.kitOne K (.type "tuple") (.type n) = some b) : Ev Γ (tCB (rIsi K) (tCons ta (tCons (tC (.ty n)) tNil))) cBool b :=
  ev_isi h1 (fun F H x e r => by obtain ⟨a, vs, rfl, hs, _⟩ := r; exact ty_t (ex_t e hs)) hu
theorem ev_isiM {r : CodA α} {f : β → α} {n : String} {b : Bool} {d : β} (h1 : Ev Γ ta (cMap (cTup K r) f) d) (hu : PySem.W.kitOne K (.type "tuple") (.type n) = some b) : Ev Γ (tCB (rIsi K) (tCons ta (tCons (tC (.ty n)) tNil))) cBool b :=
  ev_isi h1 (fun F H x e r => by obtain ⟨a, vs, rfl, hs, _⟩ := r; exact ty_t (ex_t e hs)) hu
theorem ev_isiL {n : String} {b : Bool} {d : List α} (h1 : Ev Γ ta (cList K c) d) (hu : PySem.W.kitOne K (.type "list") (.type n) = some b) : Ev Γ (tCB (rIsi K) (tCons ta (tCons (tC (.ty n)) tNil))) cBool b :=
  ev_isi h1 (fun F H x e r => by obtain ⟨a, vs, rfl, hs, _⟩ := r; exact ty_l (ex_l e hs)) hu
end
end Pw

namespace Pw
open PySem L2 PyProof.Rows
abbrev oAdd : R2 := rI0 fun i j => .int (i + j)
abbrev oSub : R2 := rI0 fun i j => .int (i - j)
abbrev oMul : R2 := rI CMulX fun i j => .int (i * j)
abbrev oPow : R2 := rI CPow fun i j => .int (i ^ j.toNat)
abbrev oShr : R2 := rI (fun _ j => 0 ≤ j) fun i j => .int (i / 2 ^ j.toNat)
abbrev oDiv : R2 := rI CDiv fun i j => .int (i / j)
abbrev oDivX : R2 := rI CDivX fun i j => .int (i.fdiv j)
abbrev oMod : R2 := rI (fun _ j => 0 < j) fun i j => .int (i % j)
abbrev oModX : R2 := rI (fun _ j => j ≠ 0) fun i j => .int (i.fmod j)
abbrev oLt : R2 := rI0 fun i j => .bl (decide (i < j))
abbrev oLe : R2 := rI0 fun i j => .bl (decide (i ≤ j))
abbrev oGt : R2 := rI0 fun i j => .bl (decide (j < i))
abbrev oGe : R2 := rI0 fun i j => .bl (decide (j ≤ i))
abbrev oNeg : V → Hp → VK → Prop := rU fun i => .int (-i)
theorem Wk.set {Γ Γ' : Gam} (w : Wk Γ Γ') (i : Nat) (e : Ent) : Wk (Γ.set i e) (Γ'.set i e) := by
  induction w generalizing i with
  | nil => exact .nil
  | same w ih => cases i with
    | zero => exact .same w
    | succ i => exact .same (ih i)
  | any w ih => cases i with
    | zero => exact .same w
    | succ i => exact .any (ih i)
theorem Wk.trans {Γ Γ' Γ'' : Gam} (w : Wk Γ Γ') (u : Wk Γ' Γ'') : Wk Γ Γ'' := by
  induction w generalizing Γ'' with
  | nil => exact u
  | same w ih => cases u with
    | same u => exact .same (ih u)
    | any u => exact .any (ih u)
  | any w ih => cases u with
    | same u => exact .any (ih u)
    | any u => exact .any (ih u)
section
variable {K : PySem.W.Frag} {Γ : Gam} {ta tb tc te : TE} {α β γ ρ : Type} {c : Cod α} {d : α} {c2 : Cod β} {d2 : β} {R : RR ρ} {P : Pst ρ} {t u tz : TS} {i j : Nat}
/-- loops by a row of slots: what is known behind n turns -/
theorem q_forR1G {m : Int} (G : Nat → Gam) (h : Ev Γ ta cInt m) (hm : m ≤ 2 ^ 60) (hm0 : -(2 ^ 60) ≤ m) (h0 : Wk Γ (G 0))
    (hb : ∀ n : Nat, (n : Int) < m → SW R ((G n).set j (.val cInt (n : Int))) t { P with nx := fun Γ' => Wk Γ' (G (n + 1)), ct := fun Γ' => Wk Γ' (G (n + 1)), bk := fun Γ' => SW R Γ' tz P }) (hd : SW R (G m.toNat) tz P) : SW R Γ (tSeq (tFor (iRng1 (tCons ta tNil)) (gName j) t) tz) P :=
  q_forR1 h hm hm0 (fun n Γ' => Wk Γ' (G n)) h0 (fun n Γ' hn w => sw_wk (w.set j _) (hb n hn)) fun Γ' w => sw_wk w hd
theorem q_forR2G {l m : Int} (G : Nat → Gam) (hl : Ev Γ ta cInt l) (h : Ev Γ tb cInt m) (hl1 : -(2 ^ 60) ≤ l ∧ l ≤ 2 ^ 60) (hm : -(2 ^ 60) ≤ m ∧ m ≤ 2 ^ 60) (h0 : Wk Γ (G 0))
    (hb : ∀ n : Nat, l + (n : Int) < m → SW R ((G n).set j (.val cInt (l + (n : Int)))) t { P with nx := fun Γ' => Wk Γ' (G (n + 1)), ct := fun Γ' => Wk Γ' (G (n + 1)), bk := fun Γ' => SW R Γ' tz P }) (hd : SW R (G (m - l).toNat) tz P) : SW R Γ (tSeq (tFor (iRng2 (tCons ta (tCons tb tNil))) (gName j) t) tz) P :=
  q_forR2 hl h hl1 hm (fun n Γ' => Wk Γ' (G n)) h0 (fun n Γ' hn w => sw_wk (w.set j _) (hb n hn)) fun Γ' w => sw_wk w hd
theorem q_forLG {ds : List α} (G : Nat → Gam) (h : Ev Γ te (cList K c) ds) (h0 : Wk Γ (G 0))
    (hb : ∀ n d, ds[n]? = some d → SW R ((G n).set j (.val c d)) t { P with nx := fun Γ' => Wk Γ' (G (n + 1)), ct := fun Γ' => Wk Γ' (G (n + 1)), bk := fun Γ' => SW R Γ' tz P }) (hd : SW R (G ds.length) tz P) : SW R Γ (tSeq (tFor (iList K te) (gName j) t) tz) P :=
  q_forL h (fun n Γ' => Wk Γ' (G n)) h0 (fun n d Γ' hn w => sw_wk (w.set j _) (hb n d hn)) fun Γ' w => sw_wk w hd
theorem sw_forR1G {m : Int} (G : Nat → Gam) (h : Ev Γ ta cInt m) (hm : m ≤ 2 ^ 60) (hm0 : -(2 ^ 60) ≤ m) (h0 : Wk Γ (G 0))
    (hb : ∀ n : Nat, (n : Int) < m → SW R ((G n).set j (.val cInt (n : Int))) t { P with nx := fun Γ' => Wk Γ' (G (n + 1)), ct := fun Γ' => Wk Γ' (G (n + 1)), bk := P.nx }) (hd : ∀ Γ', Wk Γ' (G m.toNat) → P.nx Γ') : SW R Γ (tFor (iRng1 (tCons ta tNil)) (gName j) t) P :=
  sw_forR1 h hm hm0 (fun n Γ' => Wk Γ' (G n)) h0 (fun n Γ' hn w => sw_wk (w.set j _) (hb n hn)) hd
theorem sw_forLG {ds : List α} (G : Nat → Gam) (h : Ev Γ te (cList K c) ds) (h0 : Wk Γ (G 0))
    (hb : ∀ n d, ds[n]? = some d → SW R ((G n).set j (.val c d)) t { P with nx := fun Γ' => Wk Γ' (G (n + 1)), ct := fun Γ' => Wk Γ' (G (n + 1)), bk := P.nx }) (hd : ∀ Γ', Wk Γ' (G ds.length) → P.nx Γ') : SW R Γ (tFor (iList K te) (gName j) t) P :=
  sw_forL h (fun n Γ' => Wk Γ' (G n)) h0 (fun n d Γ' hn w => sw_wk (w.set j _) (hb n d hn)) hd
/-- a statement, then the rest, with the slots between them -/
theorem q_join (Γ' : Gam) (h : SW R Γ t { P with nx := fun G => Wk G Γ' }) (k : SW R Γ' tz P) : SW R Γ (tSeq t tz) P := fun F0 H0 F H σ D S o =>
  h F0 H0 F H σ _ S ⟨fun F H σ G S h => k F0 H0 F H σ D (S.wk h) o, o.rt, o.bk, o.ct, o.ex⟩
theorem q_joinI (I : Gam → Prop) (h : SW R Γ t { P with nx := I }) (k : ∀ Γ', I Γ' → SW R Γ' tz P) : SW R Γ (tSeq t tz) P := fun F0 H0 F H σ D S o =>
  h F0 H0 F H σ _ S ⟨fun F H σ G S h => k G h F0 H0 F H σ D S o, o.rt, o.bk, o.ct, o.ex⟩
/-- a word ahead: facts about data -/
theorem sw_any (h : SW R (Γ.set i .any) t P) (hn : i < Γ.length) : SW R Γ t P := sw_wk (by
  clear h
  induction Γ generalizing i with
  | nil => exact .nil
  | cons e Γ ih => cases i with
    | zero => exact .any (Wk.refl Γ)
    | succ i => exact .same (ih (by simpa using hn))) h
theorem ev_pow {a b : Int} (h1 : Ev Γ ta cInt a) (h2 : Ev Γ tb cInt b) (hc : CPow a b) : Ev Γ (tOp oPow ta tb) cInt (a ^ b.toNat) := ev_ii (k := fun i j => i ^ j.toNat) h1 h2 hc
theorem ev_mul {a b : Int} (n m : Nat) (h1 : Ev Γ ta cInt a) (h2 : Ev Γ tb cInt b) (ha : Bt n a) (hb : Bt m b) (hl : n + m ≤ 134217728 := by decide) : Ev Γ (tOp oMul ta tb) cInt (a * b) := ev_ii (k := fun i j => i * j) h1 h2 (ha.mulX hb hl)
theorem ev_mulS {a b : Int} (h1 : Ev Γ ta cInt a) (h2 : Ev Γ tb cInt b) (ha : a.natAbs < 18446744073709551616) (hb : b.natAbs < 18446744073709551616) : Ev Γ (tOp oMul ta tb) cInt (a * b) := ev_mul 64 64 h1 h2 ha hb
theorem ev_add {a b : Int} (h1 : Ev Γ ta cInt a) (h2 : Ev Γ tb cInt b) : Ev Γ (tOp oAdd ta tb) cInt (a + b) := ev_ii0 (k := fun i j => i + j) h1 h2
theorem ev_sub {a b : Int} (h1 : Ev Γ ta cInt a) (h2 : Ev Γ tb cInt b) : Ev Γ (tOp oSub ta tb) cInt (a - b) := ev_ii0 (k := fun i j => i - j) h1 h2
theorem ev_mod {a b : Int} (h1 : Ev Γ ta cInt a) (h2 : Ev Γ tb cInt b) (hb : 0 < b) : Ev Γ (tOp oMod ta tb) cInt (a % b) := ev_ii (k := fun i j => i % j) h1 h2 hb
theorem ev_modX {a b : Int} (h1 : Ev Γ ta cInt a) (h2 : Ev Γ tb cInt b) (hb : b ≠ 0) : Ev Γ (tOp oModX ta tb) cInt (a.fmod b) := ev_ii (k := fun i j => i.fmod j) h1 h2 hb
theorem ev_div {a b : Int} (h1 : Ev Γ ta cInt a) (h2 : Ev Γ tb cInt b) (hb : 0 < b ∧ b < 1073741824) : Ev Γ (tOp oDiv ta tb) cInt (a / b) := ev_ii (C := CDiv) (k := fun i j => i / j) h1 h2 hb
theorem ev_divX {a b : Int} (n : Nat) (h1 : Ev Γ ta cInt a) (h2 : Ev Γ tb cInt b) (hb : b ≠ 0) (hn : Bt n b) (hl : n ≤ 9000 := by decide) : Ev Γ (tOp oDivX ta tb) cInt (a.fdiv b) := ev_ii (C := CDivX) (k := fun i j => i.fdiv j) h1 h2 (hn.divX hb hl)
theorem ev_shr {a b : Int} (h1 : Ev Γ ta cInt a) (h2 : Ev Γ tb cInt b) (hb : 0 ≤ b) : Ev Γ (tOp oShr ta tb) cInt (a / 2 ^ b.toNat) := ev_ii (k := fun i j => i / 2 ^ j.toNat) h1 h2 hb
theorem ev_lt {a b : Int} (h1 : Ev Γ ta cInt a) (h2 : Ev Γ tb cInt b) : Ev Γ (tOp oLt ta tb) cBool (decide (a < b)) := ev_iib (k := fun i j => decide (i < j)) h1 h2
theorem ev_le {a b : Int} (h1 : Ev Γ ta cInt a) (h2 : Ev Γ tb cInt b) : Ev Γ (tOp oLe ta tb) cBool (decide (a ≤ b)) := ev_iib (k := fun i j => decide (i ≤ j)) h1 h2
theorem ev_gt {a b : Int} (h1 : Ev Γ ta cInt a) (h2 : Ev Γ tb cInt b) : Ev Γ (tOp oGt ta tb) cBool (decide (b < a)) := ev_iib (k := fun i j => decide (j < i)) h1 h2
theorem ev_ge {a b : Int} (h1 : Ev Γ ta cInt a) (h2 : Ev Γ tb cInt b) : Ev Γ (tOp oGe ta tb) cBool (decide (b ≤ a)) := ev_iib (k := fun i j => decide (j ≤ i)) h1 h2
/-- name = 10 ** 18 and the like, by its worth -/
theorem ev_powL {a b r : Int} (h : (0 ≤ b ∧ b ≤ 1000000 ∧ a.natAbs < 2 ^ 64) ∧ a ^ b.toNat = r) : Ev Γ (tOp oPow (tC (.int a)) (tC (.int b))) cInt r := ev_is (ev_pow ev_int ev_int h.1) h.2
end
end Pw
namespace Pw
open PySem L2 PyProof.Rows
section
variable {K : PySem.W.Frag} {Γ : Gam} {ta tb tc te : TE} {α β γ : Type} {c : Cod α} {d : α}
theorem atI_getD {α : Type} {xs : List α} {i : Int} (x0 : α) (h : 0 ≤ i ∧ i < xs.length) : atI xs i = some (xs.getD i.toNat x0) := by
  obtain ⟨j, rfl⟩ : ∃ j : Nat, i = (j : Int) := ⟨i.toNat, by omega⟩
  have hj : j < xs.length := by omega
  rw [Int.toNat_natCast, List.getD_eq_getElem?_getD, List.getElem?_eq_getElem hj]
  exact atI_nat' (List.getElem?_eq_getElem hj)
theorem ev_ixG {ds : List α} {i : Int} (x0 : α) (h1 : Ev Γ ta (cList K c) ds) (h2 : Ev Γ tb cInt i) (h : 0 ≤ i ∧ i < ds.length) : Ev Γ (tOp (rIxL K) ta tb) c (ds.getD i.toNat x0) := ev_ixL h1 h2 (atI_getD x0 h)
theorem ev_ixGO {ds : List α} {i : Int} {k : Nat} (x0 : α) (h1 : Γ[k]? = some (.own c ds)) (h2 : Ev Γ tb cInt i) (h : 0 ≤ i ∧ i < ds.length) : Ev Γ (tOp (rIxL K) (tVar k) tb) c (ds.getD i.toNat x0) := ev_ixO h1 h2 (atI_getD x0 h)
end
end Pw
namespace Pw
open PySem L2 PyProof.Rows
theorem reps_of_ints {H : Hp} : ∀ ns : List Int, Reps cInt H (ns.map V.int) ns
  | [] => trivial
  | _ :: ns => ⟨rfl, reps_of_ints ns⟩
end Pw

/-! errors of the program's own classes: raised, caught, held by a name, asked for their class -/
namespace Pw
open PySem PySem.Spec PyProof.Rows L2
/-- an exception object of the class cls at a -/
def ExV (cls : Value) (d : Option Addr) (a : Addr) : HO := .ext fun h => ∃ (oe : Obj) (vs : Array Value), h.get? a = some oe ∧ Zc cls d oe ∧ oe.data = .fields vs
/-- an object that stands, untracked and not of the entry, is tracked from here on -/
theorem track {X : Cx} {pins : List (Addr × Obj)} {σ : L2.St} {H : Hp} {s : Shared} {a : Addr} {oe : Obj} {vs : Array Value} {cls : Value} {d : Option Addr} (I : Inv X pins σ H s) (e : s.heap.get? a = some oe) (z : Zc cls d oe) (hd : oe.data = .fields vs) (na : H a = none) (n0 : X.s_0.heap.get? a = none)
    (nL : a ≠ X.env.locals) (np : ∀ p ∈ X.pn ++ pins, p.1 ≠ a) : Inv X pins σ (upd H a (ExV cls d a)) s := by
  have ne : ∀ {b o}, H b = some o → b ≠ a := fun {b o} q w => by rw [w, na] at q; cases q
  refine ⟨I.ok, I.os, I.bare, ⟨I.base.keep, I.base.slot, fun b o q n hx => ?_, I.base.there, fun b xs q => ?_, fun b o u q => ?_, fun b ps q => ?_⟩, I.loc, I.cell, ?_, fun x c q => ?_, fun p hp => ?_, fun b u q => ?_, I.len⟩
  · rw [upd_ne (fun w => by rw [w, n0] at q; cases q)]; exact I.base.free b o q n hx
  · have w := I.base.tups b xs q
    rw [upd_ne (ne w)]; exact w
  · have w := I.base.frzs b o u q
    rw [upd_ne (ne w)]; exact w
  · obtain ⟨m, w⟩ := I.base.tbls b ps q
    exact ⟨m, by rw [upd_ne (ne w)]; exact w⟩
  · rw [upd_ne (Ne.symm nL)]; exact I.free
  · have nc : c ≠ a := fun w => by
      obtain ⟨v, o, ho, hc⟩ := I.cell x c q
      rw [w, e] at ho; cases ho; rw [hd] at hc; cases hc
    rw [upd_ne nc]; exact I.freeC x c q
  · obtain ⟨h1, h2, h3⟩ := I.pin p hp
    exact ⟨h1, by rw [upd_ne (np p hp)]; exact h2, h3⟩
  · by_cases hb : b = a
    · subst hb
      rw [upd_same] at q; cases q
      exact ⟨⟨oe, vs, e, z, hd⟩, ⟨oe, e⟩, fun _ _ ⟨o, v, q, r⟩ k => ⟨o, v, k o q, r⟩⟩
    · rw [upd_ne hb] at q
      exact (I.hok b u q).stay (fun _ _ _ r => r) (fun c r => by rw [upd_ne (ne r)]; exact r) fun c xs r => by rw [upd_ne (ne r)]; exact r
/-- the clause 'except x as n: suite', the exception tracked behind it -/
def wHold (K : PySem.W.Frag) (c : Value) (i : Nat) (ts : Addr → Value → Option Addr → TS) (Wout : WX) (D : Ends) : WX := fun cls d σ H =>
  ∃ b, PySem.W.exmOne K cls c = some b ∧ (b = true → ∀ a, H a = none → ts a cls d { nx := fun σ' H' => D.nx (σ'.set i none) (upd H' a (ExV cls d a)), rt := fun _ _ => False, bk := fun _ _ => False, ct := fun _ _ => False } (σ.set i (some (.ref a))) H) ∧
    (b = false → Wout cls d σ H)
section
variable {X : Cx} {x n : Str} {c : Value} {i : Nat} {body suite : List Stmt} {b₀ : Stmt} {np pos pos' : Pos} {tb : WX → TS} {ts : Addr → Value → Option Addr → TS} {Wout : WX}
theorem ps_try_hold (hs : X.stack = X.env :: X.outer) (hf : X.env.frame = some X.env.locals) (hN : X.N.Nodup) (hi : X.N[i]? = some n) (hln : X.env.kindOf n = some .local) (hc : Names X x c) (hx0 : X.ex = []) (tk : Takes X Wout)
    (hb : ∀ (W : WX) (pn : List (Addr × Obj)) (xe : Value → Shared → Prop), Takes (X.tr pn xe) W → PassesOwn (model X.prog X.w) X.A X.env xe → PSs (X.tr pn xe) body (tb W))
    (hsu : ∀ (a : Addr) (oe : Obj) (cls : Value) (d : Option Addr) (pn : List (Addr × Obj)), Zc cls d oe → (∃ vs, oe.data = .fields vs) → PSs (X.suite a ((a, oe) :: pn)) (b₀ :: suite) (ts a cls d)) :
    PS X (.Try body [.ExceptHandler (some (.Name x np)) (some n) (b₀ :: suite) pos'] [] [] pos) (fun D σ H => tb (wHold X.K c i ts Wout D) D σ H) := by
  refine ⟨fun pins s σ H D I h => ?_⟩
  have ok := I.ok
  have hfr : X.A.frames = some (X.env :: X.outer) := by rw [ok.frames, hs]
  have hloc : Loc X.env.scope n := .inl hln
  refine wpAny_Try_except ?_
  refine wpAny_mono ((hb (wHold X.K c i ts Wout D) (X.pn ++ pins) (fun e s₁ => wpAny (model X.prog X.w) X.A (noteFrame e X.env) (fun _ s₂ => wpAny (model X.prog X.w) X.A (setFlight e none) (fun _ s₃ =>
    wpAny (model X.prog X.w) X.A (handleBy e X.env [.ExceptHandler (some (.Name x np)) (some n) (b₀ :: suite) pos']) (SP X pins D) X.xe s₃) X.xe s₂) X.xe s₁) (fun u s' xx => ?_) PassesOwn.looking).run [] s σ H D (I.toTry _) h) (fun f s1 hsp => ?_) (fun e s1 he => he)
  · -- the catch
    obtain ⟨a, B, sI, pins', σ', H', cls, d, rfl, J', nb, up, sky, na, os, ag, b, hb1, hyes, hno⟩ := xx
    have J : Inv X pins σ' H' sI := J'.ofTry ok
    have sky' : Sky B (X.env :: X.outer) a (Zc cls d) X.env.locals s'.heap := by rw [← hs]; exact sky
    show wpAny (model X.prog X.w) X.A (noteFrame (.ref a) X.env) _ _ _
    refine Sky.land Zc.steady hfr hf sky' fun h3 fl3 up3 => ?_
    have J3 : Inv X pins σ' H' { s' with heap := h3 } := J.landed nb fl3.1 (up.trans up3) os ag
    obtain ⟨oe3, vs3, he3, hz3, hd3⟩ := fl3.there
    have notFr : ∀ {h : Heap} {o : Obj} {vs : Array Value}, h.FunFrames B (X.env :: X.outer) → h.get? a = some o → o.data = .fields vs → a ∉ frs (X.env :: X.outer) := fun {h o vs} ff e dd hm => by
      obtain ⟨_, o', e', hnf⟩ := ff.mem hm
      rw [e] at e'; cases e'
      exact hnf _ dd
    have nfr := notFr fl3.2.2.1 he3 hd3
    have nL : a ≠ X.env.locals := fun z => nfr (List.mem_filterMap.mpr ⟨X.env, List.mem_cons_self, by rw [hf, z]⟩)
    have nF : a ∉ X.fs := fun hm => by
      obtain ⟨e, he, q⟩ := List.mem_filterMap.mp hm
      exact nfr (List.mem_filterMap.mpr ⟨e, List.mem_cons_of_mem _ he, q⟩)
    have nI : sI.heap.get? a = none := by
      cases q : sI.heap.get? a with
      | none => rfl
      | some o =>
        have z := nb a o q (by rw [hs]; exact nfr)
        rw [fl3.2.1] at z; cases z
    have n0 : X.s_0.heap.get? a = none := by
      cases q : X.s_0.heap.get? a with
      | none => rfl
      | some o =>
        obtain ⟨o', z⟩ := J.base.there a o q (by rw [hx0]; exact fun z => nomatch z)
        rw [nI] at z; cases z
    have npin : ∀ p ∈ X.pn ++ pins, p.1 ≠ a := fun p hp z => by
      have w := (J.pin p hp).1
      rw [z, nI] at w; cases w
    have S3 := J3.suite he3 hd3 na nL nF
    refine wpAny_handleBy_cons (codeAny_handlers_test ?_) (by intro q; cases q)
    have LT : PySem.W.Looks (model X.prog X.w) h3 (typeOf (.ref a)) cls := fun A Q E s k q => wpAny_typeOf_ref (k _ _ he3) (by rw [hz3.1]; exact q)
    have LM := PySem.W.exm_one (M := model X.prog X.w) (J3.kIn) LT hb1
    have test : ∀ {Q : Value → Shared → Prop} {E : Value → Shared → Prop}, Q c { s' with heap := h3 } → wpAny (model X.prog X.w) (X.A.mark (some (.ref a))) (eval (.Name x np) X.env) Q E { s' with heap := h3 } := fun {Q E} q => by
      obtain ⟨hg, hdbg, hm | ⟨hm, hv, hnn⟩⟩ := hc
      · exact ld_glob (X := X.suite a ((a, oe3) :: (X.pn ++ pins))) S3 hg hm q hdbg
      · exact ld_blt (X := X.suite a ((a, oe3) :: (X.pn ++ pins))) S3 hg hm hv q hnn hdbg
    refine test (LM.here ?_)
    cases b with
    | true =>
      refine codeAny_handlers_suite_as ?_
      refine HandSPX.lands_againZ fl3 fun h4 fl4 up4 => ?_
      have J4 : Inv X pins σ' H' { s' with heap := h4 } := J.landed nb fl4.1 ((up.trans up3).trans up4) os ag
      obtain ⟨oe4, vs4, he4, hz4, hd4⟩ := fl4.there
      have S4 := J4.suite he4 hd4 na nL nF
      refine store_ok (X := X.suite a ((a, oe4) :: (X.pn ++ pins))) (v := .ref a) S4 hN hi hloc rfl (fun s5 S5 => ?_) (.inr hln)
      refine wpAny_mono ((hsu a oe4 cls d (X.pn ++ pins) hz4 ⟨_, hd4⟩).run [] s5 _ H' _ S5 (hyes rfl a na)) (fun f s6 hsp => ?_) (fun _ _ z => False.elim z)
      cases f with
      | next =>
        obtain ⟨σ6, H6, S6, q6⟩ := hsp
        obtain ⟨e6, n6, _⟩ := S6.pin (a, oe4) (List.mem_append.mpr (.inl List.mem_cons_self))
        have U6 := S6.unsuite ok
        have T6 := track U6 e6 hz4 hd4 n6 n0 nL npin
        exact gone_ok T6 hN hi hln fun s7 J7 => ⟨_, _, J7, q6⟩
      | brk =>
        obtain ⟨σ6, H6, S6, q6⟩ := hsp
        exact q6.elim
      | cont =>
        obtain ⟨σ6, H6, S6, q6⟩ := hsp
        exact q6.elim
      | ret u =>
        obtain ⟨v6, σ6, H6, S6, r6, q6⟩ := hsp
        exact q6.elim
    | false =>
      show wpAny _ X.A (handleBy (.ref a) X.env []) _ _ _
      refine wpAny_handleBy_nil ?_
      obtain ⟨k1, k2, k3, oe, vs, T, oT, ts', he, hz, hd, h1, hr⟩ := id fl3
      unfold PySem.passOn
      refine wpAny_bind (wpAny_field he hd h1 ?_)
      rw [if_neg (show ¬ ((Value.ref T == Value.none) = true) from by simp)]
      have fin : wpAny (model X.prog X.w) X.A (setFlight (.ref a) X.env.frame) (fun _ s4 => wpAny (model X.prog X.w) X.A (throw (.ref a) : Sem Flow) (SP X pins D) X.xe s4) X.xe { s' with heap := h3 } := by
        rw [hf]
        refine HandSPX.setFlight_upZ fl3 fun h4 hh4 up4 => wpAny_throw (tk _ _ ?_)
        exact ⟨a, B, sI, pins, σ', H', cls, d, rfl, J, nb, (up.trans up3).trans up4, .inr (.inr (by rw [hs]; exact hh4)), na, os, ag, hno rfl⟩
      first
        | exact wpAny_bind (wpAny_pure (wpAny_bind fin))
        | exact wpAny_bind fin
  · cases f with
    | next =>
      obtain ⟨σ', H', J', q⟩ := hsp
      exact wpAny_execs_nil ⟨σ', H', J'.ofTry ok, q⟩
    | brk =>
      obtain ⟨σ', H', J', q⟩ := hsp
      exact ⟨σ', H', J'.ofTry ok, q⟩
    | cont =>
      obtain ⟨σ', H', J', q⟩ := hsp
      exact ⟨σ', H', J'.ofTry ok, q⟩
    | ret u =>
      obtain ⟨v, σ', H', J', r, q⟩ := hsp
      exact ⟨v, σ', H', J'.ofTry ok, r, q⟩
end
/-- isinstance(e, c), e an exception that a name holds -/
def rIsX (K : PySem.W.Frag) : List V → Hp → VK → Prop := fun xs H Q => ∃ (a D : Addr) (c : V) (cv : Value) (b : Bool), xs = [.ref a, c] ∧ H a = some (ExV (.ref D) none a) ∧ ExcC K D ∧ (∀ u, RelV c u → u = cv) ∧ PySem.W.kitOne K (.ref D) cv = some b ∧ Q (.bl b) H
theorem call_isX {X : Cx} : CallR X (.builtin "isinstance") (rIsX X.K) := by
  intro pins s σ H xs us Q I r h
  obtain ⟨a, D, c, cv, b, rfl, ha, C, hcv, e, q⟩ := h
  cases r with
  | cons rx rr =>
    cases rr with
    | cons rt rr =>
      cases rr
      cases rx
      have ec := hcv _ rt
      subst ec
      obtain ⟨⟨oe, vs, hget, hz, hv⟩, _⟩ := I.hok a _ ha
      have J : PySem.W.InstAt s.heap a oe D none := by
        obtain ⟨oc, od, oda, osl⟩ := oe
        obtain ⟨h1, h2⟩ := hz
        dsimp only at h1 h2 hv
        subst h1 h2 hv
        exact ⟨hget, rfl, rfl, trivial⟩
      exact PySem.W.kia_one (PySem.W.handS_kitx_exc C.hg C.hk C.hs C.hd C.ha C.hn C.ht C.hm) I.kIn J e (fun z => nomatch z) fun tk => ⟨.bl b, H, I.kept (t' := tk) fun _ _ z => z, rfl, q⟩
end Pw
namespace Pw
open PySem PySem.Spec PyProof.Rows L2
/-- the classes of the refusals -/
structure ExA where
  HouseError : Addr
  NoNumber : Addr
  NoRow : Addr
  NoValue : Addr
  NoText : Addr
  NoRoot : Addr
  TooFar : Addr
  NoLine : Addr
/-- what the class D, the i-th, says of isinstance and except -/
structure ExD (K : PySem.W.Frag) (C : ExA) (D : Addr) (i : Int) : Prop where
  c : ExcC K D
  h : PySem.W.exmOne K (.ref D) (.ref C.HouseError) = some true
  v : PySem.W.kitOne K (.ref D) (.type "ValueError") = some true
  k0 : PySem.W.kitOne K (.ref D) (.ref C.NoNumber) = some (decide ((0 : Int) = i))
  k1 : PySem.W.kitOne K (.ref D) (.ref C.NoRow) = some (decide ((1 : Int) = i))
  k2 : PySem.W.kitOne K (.ref D) (.ref C.NoValue) = some (decide ((2 : Int) = i))
  k3 : PySem.W.kitOne K (.ref D) (.ref C.NoText) = some (decide ((3 : Int) = i))
  k4 : PySem.W.kitOne K (.ref D) (.ref C.NoRoot) = some (decide ((4 : Int) = i))
  k5 : PySem.W.kitOne K (.ref D) (.ref C.TooFar) = some (decide ((5 : Int) = i))
  k6 : PySem.W.kitOne K (.ref D) (.ref C.NoLine) = some (decide ((6 : Int) = i))
def cExc : Cod Addr := ⟨fun F v D => ∃ a, v = .ref a ∧ F a = some (ExV (.ref D) none a), fun e ⟨a, h1, h2⟩ => ⟨a, h1, e a _ h2⟩⟩
def tRaise (C : Addr) (E : XK) : TS := fun _ _ H => E (.ref C) none H
def tTryH (K : PySem.W.Frag) (c : Value) (i j : Nat) (sp : Sp) (ta : TA) : TS := fun D σ H => tDrop (tCallS sp (WE (wHold K c i (fun _ _ _ => tAsg (tVar i) (gName j)) (fun _ _ _ _ => False) D)) ta) D σ H
abbrev rNotN : R2 := fun x y H Q => y = .non ∧ Q (.bl (!decide (x = .non))) H
abbrev rIsN : R2 := fun x y H Q => y = .non ∧ Q (.bl (decide (x = .non))) H
section
variable {K : PySem.W.Frag} {Γ : Gam} {ta tb tc te : TE} {α β γ ρ : Type} {c : Cod α} {d : α} {c2 : Cod β} {d2 : β} {R : RR ρ} {P : Pst ρ} {t u tz : TS} {i j : Nat}
theorem sw_raise {C : Addr} {E : XK} (hE : P.E = E) (h : P.ex C) : SW R Γ (tRaise C E) P := fun F0 H0 F H σ D S o => by
  have := o.ex C F H h S.ext
  rw [hE] at this; exact this
theorem sw_tryH {ca : CodA α} {a : α} {pre : α → Prop} {f : α → Option β} {C : Addr} {cv : Value} {tr : TA} (h : EvA Γ tr ca a) (hp : pre a) (hn : f a = none) (hx : PySem.W.exmOne K (.ref C) cv = some true) (hi : i < Γ.length)
    (k : P.nx (((Γ.set i .any).set j (.val cExc C)).set i .any)) : SW R Γ (tTryH K cv i j (SpX ca pre c2 f C) tr) P := fun F0 H0 F H σ D S o =>
  h F H σ S.sl _ fun vs F1 H1 e1 r1 => ⟨F1, a, e1.i, r1, hp, fun b v F' H' e => (by rw [hn] at e; cases e), fun _ F' H' e2 => ⟨true, hx, fun _ x nx => by
    have S2 := (S.grow e1).grow e2
    have S3 := S2.grow (Ext.new (o := ExV (.ref C) none x) e2.i nx)
    have hi' : i < σ.length := by rw [S.sl.len]; exact hi
    refine ⟨.ref x, by rw [List.getElem?_set_self hi'], ?_⟩
    show D.nx (((σ.set i (some (.ref x))).set j (some (.ref x))).set i none) (upd H' x (ExV (.ref C) none x))
    refine o.nx (upd F' x (ExV (.ref C) none x)) _ _ _ ?_ k
    exact ((S3.set (e := .any) (i := i) (s := some (.ref x)) (fun h => h) trivial).setV (c := cExc) (d := C) (i := j) ⟨x, rfl, upd_same⟩).set (e := .any) (i := i) (s := none) (fun h => h) trivial, fun q => nomatch q⟩⟩
theorem q_tryH {ca : CodA α} {a : α} {pre : α → Prop} {f : α → Option β} {C : Addr} {cv : Value} {tr : TA} (h : EvA Γ tr ca a) (hp : pre a) (hn : f a = none) (hx : PySem.W.exmOne K (.ref C) cv = some true) (hi : i < Γ.length)
    (k : SW R (((Γ.set i .any).set j (.val cExc C)).set i .any) tz P) : SW R Γ (tSeq (tTryH K cv i j (SpX ca pre c2 f C) tr) tz) P := sw_seq (sw_tryH h hp hn hx hi k)
theorem ev_isX {D : Addr} {cv : V} {u : Value} {b : Bool} (h : Ev Γ te cExc D) (C : ExcC K D) (hc : ∀ w, RelV cv w → w = u) (hk : PySem.W.kitOne K (.ref D) u = some b) : Ev Γ (tCB (rIsX K) (tCons te (tCons (tC cv) tNil))) cBool b := fun F H σ S Q q =>
  h F H σ S _ fun v F1 H1 e1 r1 => by
    obtain ⟨a, rfl, ha⟩ := r1
    exact ⟨a, D, cv, u, b, rfl, e1.i a _ ha, C, hc, hk, q _ F1 H1 e1 rfl⟩
theorem ev_isXr {D C' : Addr} {b : Bool} (h : Ev Γ te cExc D) (C : ExcC K D) (hk : PySem.W.kitOne K (.ref D) (.ref C') = some b) : Ev Γ (tCB (rIsX K) (tCons te (tCons (tC (.ref C')) tNil))) cBool b := ev_isX h C (fun _ r => r) hk
theorem ev_isXt {D : Addr} {n : String} {b : Bool} (h : Ev Γ te cExc D) (C : ExcC K D) (hk : PySem.W.kitOne K (.ref D) (.type n) = some b) : Ev Γ (tCB (rIsX K) (tCons te (tCons (tC (.ty n)) tNil))) cBool b := ev_isX h C (fun _ r => r) hk
theorem ev_notNX {D : Addr} (h : Ev Γ te cExc D) : Ev Γ (tOp rNotN te (tC .non)) cBool true := fun F H σ S Q q =>
  h F H σ S _ fun v F1 H1 e1 r1 => by
    obtain ⟨a, rfl, ha⟩ := r1
    exact ⟨rfl, q _ F1 H1 e1 rfl⟩
end
/-- [k == n for k in range(7)] and the classes asked -/
def sortL (i : Int) : List Bool := (List.range 7).map fun k : Nat => decide ((k : Int) = i)
end Pw
namespace Pw
open PySem PySem.W L2
theorem kit_ref {K : Frag} {t : Value} {C : Addr} {b : Bool} (h2 : isClsIn K C = true) (h3 : typeIn K (.ref C) = some (.type "type")) (s : subIn K t (.ref C) = some b) (n : (t == Value.ref C) = false) : kitOne K t (.ref C) = some b := by
  have e2 : ((clsIn K C).isSome && typeIn K (.ref C) == some (.type "type")) = true := by
    have h2' : (clsIn K C).isSome = true := h2
    rw [h2', h3] <;> rfl
  unfold kitOne kitCls
  rw [n, if_neg (by decide)]; dsimp only; rw [if_pos e2]; exact s
theorem kit_self {K : Frag} {C : Addr} : kitOne K (.ref C) (.ref C) = some true := by
  unfold kitOne; rw [if_pos (beq_self_eq_true _)]
theorem kit_bt {K : Frag} {D : Addr} {T : String} {b : Bool} (m : kitMeta T = true) (s : subIn K (.ref D) (.type T) = some b) : kitOne K (.ref D) (.type T) = some b := by
  unfold kitOne kitCls
  rw [if_neg (by intro h; cases h)]; dsimp only; rw [if_pos m]; exact s
theorem exm_up {K : Frag} {S : Addr} {D : Value} (h1 : subIn K (.ref S) (.type "BaseException") = some true) (h2 : isClsIn K S = true) (h3 : typeIn K (.ref S) = some (.type "type")) (h4 : subIn K D (.ref S) = some true) : exmOne K D (.ref S) = some true := by
  have e1 : (subIn K (.ref S) (.type "BaseException") == some true) = true := by rw [h1] <;> rfl
  have e2 : ((clsIn K S).isSome && typeIn K (.ref S) == some (.type "type")) = true := by
    have h2' : (clsIn K S).isSome = true := h2
    rw [h2', h3] <;> rfl
  unfold exmOne kitCls
  rw [if_pos e1]; dsimp only; rw [if_pos e2]; exact h4
end Pw

/-! more rules: list.count of bools, range with a step, reversed, list.reverse, list.pop -/
namespace Pw
open PySem PySem.Spec PyProof.Rows L2
def rCntB (K : PySem.W.Frag) : V → List V → Hp → VK → Prop := fun x xs H Q => ∃ (p : Addr) (bs : List Bool) (k : Bool), x = .ref p ∧ xs = [.bl k] ∧ SqL K H p (bs.map V.bl) ∧ Q (.int (bs.count k : Nat)) H
theorem cnt_bools (k : Bool) : ∀ bs : List Bool, (bs.map Value.bool).countP (isBoolOf k) = bs.count k
  | [] => rfl
  | b :: bs => by
    rw [List.map_cons, List.countP_cons, List.count_cons, cnt_bools k bs]; rfl
theorem mt_bcount {X : Cx} : MtR X "list.count" (rCntB X.K) := by
  intro pins s σ H x xs v us Q I rx rxs h
  obtain ⟨p, bs, k, rfl, rfl, hs, q⟩ := h
  cases rx
  obtain ⟨u, rfl, ru⟩ := rxs.one
  cases ru
  obtain ⟨its, rv, ⟨⟨cls, dd, data, sl⟩, n, ho, hc, hdn, hd⟩, hlen⟩ := I.list hs
  simp only at hc hd
  subst hc hd
  have hb := rv.bls
  refine call_meets PySem.F.slot_list_count ⟨_, ho, rfl⟩ PySem.F.entry_list_count (PySem.F.args_list_count_2 _ _)
    (SeqAt.list_countAt p its.toArray n dd sl (.bool k) (isBoolOf k)) ⟨ho, fun y hy => ?_, ?_⟩
  · have hy2 : y ∈ its := by simpa using hy
    rw [hb] at hy2
    obtain ⟨b, _, rfl⟩ := List.mem_map.mp hy2
    exact SeqAt.EqAt.bool_bool b k
  · have ec : its.toArray.toList.countP (isBoolOf k) = bs.count k := by rw [hb]; exact cnt_bools k bs
    refine ⟨.int (bs.count k : Nat), H, I.tok _, ⟨s.toks, ?_⟩, q⟩
    show Value.int ((its.toArray.toList.countP (isBoolOf k) : Nat) : Int) s.toks = Value.int ((bs.count k : Nat) : Int) s.toks
    rw [ec]
section
variable {K : PySem.W.Frag} {Γ : Gam} {ta tb tc te : TE} {α β γ ρ : Type} {c : Cod α} {d : α} {c2 : Cod β} {d2 : β} {R : RR ρ} {P : Pst ρ} {t u tz : TS} {i j : Nat}
theorem ev_bcount {bs : List Bool} {k : Bool} (h : Ev Γ ta (cList K cBool) bs) (h2 : Ev Γ tb cBool k) : Ev Γ (tBM K "list" (rCntB K) ta (tCons tb tNil)) cInt (bs.count k : Nat) := fun F H σ S Q q =>
  h F H σ S _ fun v F1 H1 e1 r1 => by
    obtain ⟨a, vs, rfl, hs, hr⟩ := r1
    have hv := reps_bools hr
    refine ⟨.inl ⟨rfl, vs, ex_l e1.i hs⟩, h2 F1 H1 σ (S.grow e1) _ fun w F2 H2 e2 r2 => ?_⟩
    exact ⟨a, bs, k, rfl, by rw [show w = .bl k from r2], by rw [← hv]; exact ex_l (e1.i.trans e2.h) hs, q _ F2 H2 (e1.trans e2) rfl⟩
theorem sw_forR3 {l m s : Int} {n : Nat} (hl : Ev Γ ta cInt l) (h : Ev Γ tb cInt m) (h3 : Ev Γ tc cInt s) (hr : RgC l m s n) (I : Nat → Gam → Prop) (h0 : I 0 Γ)
    (hb : ∀ (k : Nat) Γ', k < n → I k Γ' → SW R (Γ'.set j (.val cInt (l + (k : Int) * s))) t { P with nx := I (k + 1), ct := I (k + 1), bk := P.nx }) (hd : ∀ Γ', I n Γ' → P.nx Γ') : SW R Γ (tFor (iRng3 (tCons ta (tCons tb (tCons tc tNil)))) (gName j) t) P := fun F0 H0 F H σ D S o =>
  hl F H σ S.sl _ fun v F1 H1 e1 r1 => h F1 H1 σ (S.grow e1).sl _ fun w F2 H2 e2 r2 => h3 F2 H2 σ ((S.grow e1).grow e2).sl _ fun z F3 H3 e3 r3 => by
    have S1 := ((S.grow e1).grow e2).grow e3
    cases (show v = .int l from r1); cases (show w = .int m from r2); cases (show z = .int s from r3)
    refine ⟨l, m, s, n, rfl, hr, for_rangeC (lo := l) (c := s) (n := n) (fun k σ H => ∃ F Γ', Stt F0 H0 F H σ Γ' ∧ I k Γ') ⟨F3, Γ, S1, h0⟩ ?_ ?_⟩
    · rintro k σ H hk ⟨F, Γ', T, hI⟩
      have T1 : Stt F0 H0 F H (σ.set j (some (.int (l + (k : Nat) * s)))) (Γ'.set j (.val cInt (l + (k : Int) * s))) := T.setV rfl
      exact hb k Γ' hk hI F H0 F H _ _ T1.base (o.turn T1 fun F2 H2 σ2 Γ2 U e2 h2 => ⟨F2, Γ2, U, h2⟩)
    · rintro σ H ⟨F, Γ', T, hI⟩
      exact o.nx F H σ Γ' T (hd Γ' hI)
theorem q_forR3G {l m s : Int} (n : Nat) (G : Nat → Gam) (hl : Ev Γ ta cInt l) (h : Ev Γ tb cInt m) (h3 : Ev Γ tc cInt s) (hr : RgC l m s n) (h0 : Wk Γ (G 0))
    (hb : ∀ k : Nat, k < n → SW R ((G k).set j (.val cInt (l + (k : Int) * s))) t { P with nx := fun Γ' => Wk Γ' (G (k + 1)), ct := fun Γ' => Wk Γ' (G (k + 1)), bk := fun Γ' => SW R Γ' tz P }) (hd : SW R (G n) tz P) : SW R Γ (tSeq (tFor (iRng3 (tCons ta (tCons tb (tCons tc tNil)))) (gName j) t) tz) P :=
  sw_seq (sw_forR3 (P := { P with nx := fun Γ' => SW R Γ' tz P }) hl h h3 hr (fun k Γ' => Wk Γ' (G k)) h0 (fun k Γ' hk w => sw_wk (w.set j _) (hb k hk)) fun Γ' w => sw_wk w hd)
end
end Pw

/-! more rules: == of a list of one's own, list.pop, list.reverse, for over reversed(list) -/
namespace Pw
open PySem PySem.Spec PyProof.Rows L2
theorem for_rev {K : PySem.W.Frag} {a : Addr} {xs : List V} {g : TG} {tb : TS} {D : Ends} {σ : L2.St} {H : Hp} (Pv : Nat → L2.St → Hp → Prop) (h0 : Pv 0 σ H) (hl : ∀ i σ H, i ≤ xs.length → Pv i σ H → SqL K H a xs)
    (hs : ∀ i x σ H, xs.reverse[i]? = some x → Pv i σ H → g x σ H fun σ2 H2 => tb { D with nx := Pv (i + 1), ct := Pv (i + 1), bk := D.nx } σ2 H2) (hd : ∀ σ H, Pv xs.length σ H → D.nx σ H) :
    ∃ W : Nat → Nat → L2.St → Hp → Prop, (∃ m, W 0 m σ H) ∧ ∀ i m σ H, W i m σ H →
      ((Itv K a xs.length).stop i H ∧ D.nx σ H) ∨ ((Itv K a xs.length).go i H ∧ ∃ N : L2.St → Hp → Prop, (∀ σ' H', N σ' H' → ∃ m', m' < m ∧ W (i + 1) m' σ' H') ∧ ∀ x H', (Itv K a xs.length).yld i H x H' → g x σ H' fun σ2 H2 => tb { D with nx := N, ct := N, bk := D.nx } σ2 H2) := by
  refine ⟨fun i m σ H => m = xs.length - i ∧ i ≤ xs.length ∧ Pv i σ H, ⟨xs.length, by simp, Nat.zero_le _, h0⟩, ?_⟩
  rintro i m σ H ⟨rfl, hi, p⟩
  have q := hl i σ H hi p
  by_cases hlt : i < xs.length
  · have hlt2 : xs.length - 1 - i < xs.length := by omega
    refine .inr ⟨⟨hlt, xs, xs[xs.length - 1 - i], q, by simp [hlt2]⟩, Pv (i + 1), fun σ' H' p' => ⟨xs.length - (i + 1), by omega, rfl, hlt, p'⟩, fun x H' y => ?_⟩
    obtain ⟨e, y⟩ := y
    subst e
    exact hs i x σ _ (by rw [List.getElem?_reverse hlt]; exact y xs q) p
  · have e : i = xs.length := by omega
    subst e
    exact .inl ⟨Nat.le_refl _, hd σ H p⟩
section
variable {K : PySem.W.Frag} {Γ : Gam} {ta tb tc te : TE} {α β γ ρ : Type} {c : Cod α} {d : α} {c2 : Cod β} {d2 : β} {R : RR ρ} {P : Pst ρ} {t u tz : TS} {i j : Nat}
theorem ev_eqDO {ds es : List α} (x : CodD K c) (hn : (dList x).n ≤ 64) (e : Γ[i]? = some (.own c ds)) (h2 : Ev Γ tb (cList K c) es) : Ev Γ (tOp (rEqD K) (tVar i) tb) cBool ((dList x).dec ds es).decide := fun F H σ S Q q => by
  obtain ⟨p, vs, k1, k2, k3, k4⟩ := S.owned e
  refine ⟨.ref p, k1, h2 F H σ S _ fun w F1 H1 e1 r1 => ?_⟩
  exact ⟨(dList x).dat ds, (dList x).dat es, .lst (.inl (.inl (e1.h p _ k3))) (reps_dp x (k4.mono (e1.f.trans e1.i))), (dList x).dp ((cList K c).mono e1.i r1), (dList x).shaped hn ds, (dList x).shaped hn es, q _ F1 H1 e1 (congrArg V.bl ((dList x).eqv ds es))⟩
theorem ev_neDO {ds es : List α} (x : CodD K c) (hn : (dList x).n ≤ 64) (e : Γ[i]? = some (.own c ds)) (h2 : Ev Γ tb (cList K c) es) : Ev Γ (tOp (rNeD K) (tVar i) tb) cBool (!((dList x).dec ds es).decide) := fun F H σ S Q q => by
  obtain ⟨p, vs, k1, k2, k3, k4⟩ := S.owned e
  refine ⟨.ref p, k1, h2 F H σ S _ fun w F1 H1 e1 r1 => ?_⟩
  exact ⟨(dList x).dat ds, (dList x).dat es, .lst (.inl (.inl (e1.h p _ k3))) (reps_dp x (k4.mono (e1.f.trans e1.i))), (dList x).dp ((cList K c).mono e1.i r1), (dList x).shaped hn ds, (dList x).shaped hn es, q _ F1 H1 e1 (congrArg (fun z => V.bl (!z)) ((dList x).eqv ds es))⟩
theorem reps_dropLast {H : Hp} : ∀ {vs : List V} {ds : List α}, Reps c H vs ds → Reps c H vs.dropLast ds.dropLast
  | [], [], _ => trivial
  | [_], [_], _ => trivial
  | _ :: _ :: _, _ :: _ :: _, h => ⟨h.1, reps_dropLast h.2⟩
  | [], _ :: _, h => h.elim
  | _ :: _, [], h => h.elim
  | [_], _ :: _ :: _, h => h.2.elim
  | _ :: _ :: _, [_], h => h.2.elim
theorem reps_reverse {H : Hp} : ∀ {vs : List V} {ds : List α}, Reps c H vs ds → Reps c H vs.reverse ds.reverse
  | [], [], _ => trivial
  | _ :: _, _ :: _, h => by rw [List.reverse_cons, List.reverse_cons]; exact (reps_reverse h.2).append (Reps.one h.1)
  | [], _ :: _, h => h.elim
  | _ :: _, [], h => h.elim
theorem sw_popO {ds : List α} (e : Γ[i]? = some (.own c ds)) (hz : ds ≠ []) (k : P.nx (Γ.set i (.own c ds.dropLast))) : SW R Γ (tDrop (tBM0 K "list" rPop (tVar i))) P := fun F0 H0 F H σ D S o => by
  obtain ⟨p, vs, k1, k2, k3, k4⟩ := S.sl.owned e
  have hl := k4.len
  have hv : vs.length - 1 < vs.length := by
    have : ds.length ≠ 0 := fun q => hz (List.length_eq_zero_iff.mp q)
    omega
  exact ⟨.ref p, k1, .inl ⟨rfl, vs, .inl (.inl k3)⟩, p, vs, vs[vs.length - 1], rfl, rfl, k3, List.getElem?_eq_getElem hv, o.nx F _ σ _ (S.write e k1 k2 (reps_dropLast k4)) k⟩
theorem sw_revO {ds : List α} (e : Γ[i]? = some (.own c ds)) (k : P.nx (Γ.set i (.own c ds.reverse))) : SW R Γ (tDrop (tBM0 K "list" rReverse (tVar i))) P := fun F0 H0 F H σ D S o => by
  obtain ⟨p, vs, k1, k2, k3, k4⟩ := S.sl.owned e
  exact ⟨.ref p, k1, .inl ⟨rfl, vs, .inl (.inl k3)⟩, p, vs, rfl, rfl, k3, o.nx F _ σ _ (S.write e k1 k2 (reps_reverse k4)) k⟩
theorem sw_forV {ds : List α} (h : Ev Γ te (cList K c) ds) (I : Nat → Gam → Prop) (h0 : I 0 Γ)
    (hb : ∀ n d Γ', ds.reverse[n]? = some d → I n Γ' → SW R (Γ'.set j (.val c d)) t { P with nx := I (n + 1), ct := I (n + 1), bk := P.nx }) (hd : ∀ Γ', I ds.length Γ' → P.nx Γ') : SW R Γ (tFor (iRev K (tCons te tNil)) (gName j) t) P := fun F0 H0 F H σ D S o =>
  h F H σ S.sl _ fun v F1 H1 e1 r1 => by
    obtain ⟨a, vs, rfl, hs, hr⟩ := r1
    have S1 := S.grow e1
    refine ⟨a, vs, rfl, ex_l S1.sl.ex hs, for_rev (xs := vs) (fun n σ H => ∃ F Γ', Stt F0 H0 F H σ Γ' ∧ Ex F1 F ∧ I n Γ') ⟨F1, Γ, S1, Ex.refl _, h0⟩ (fun n σ H _ ⟨F, Γ', T, e, _⟩ => ex_l (e.trans T.sl.ex) hs) ?_ ?_⟩
    · rintro n x σ H hx ⟨F, Γ', T, e, hI⟩
      obtain ⟨d, hd1, hd2⟩ := (reps_reverse hr).getV hx
      have T1 : Stt F0 H0 F H (σ.set j (some x)) (Γ'.set j (.val c d)) := T.setV (c.mono e hd2)
      exact hb n d Γ' hd1 hI F H0 F H _ _ T1.base (o.turn T1 fun F2 H2 σ2 Γ2 U e2 h2 => ⟨F2, Γ2, U, e.trans e2, h2⟩)
    · rintro σ H ⟨F, Γ', T, e, hI⟩
      exact o.nx F H σ Γ' T (hd Γ' (hr.len ▸ hI))
theorem q_forV {ds : List α} (h : Ev Γ te (cList K c) ds) (I : Nat → Gam → Prop) (h0 : I 0 Γ)
    (hb : ∀ n d Γ', ds.reverse[n]? = some d → I n Γ' → SW R (Γ'.set j (.val c d)) t { P with nx := I (n + 1), ct := I (n + 1), bk := fun Γ' => SW R Γ' tz P }) (hd : ∀ Γ', I ds.length Γ' → SW R Γ' tz P) : SW R Γ (tSeq (tFor (iRev K (tCons te tNil)) (gName j) t) tz) P :=
  sw_seq (sw_forV (P := { P with nx := fun Γ' => SW R Γ' tz P }) h I h0 hb hd)
theorem q_forVG {ds : List α} (G : Nat → Gam) (h : Ev Γ te (cList K c) ds) (h0 : Wk Γ (G 0))
    (hb : ∀ n d, ds.reverse[n]? = some d → SW R ((G n).set j (.val c d)) t { P with nx := fun Γ' => Wk Γ' (G (n + 1)), ct := fun Γ' => Wk Γ' (G (n + 1)), bk := fun Γ' => SW R Γ' tz P }) (hd : SW R (G ds.length) tz P) : SW R Γ (tSeq (tFor (iRev K (tCons te tNil)) (gName j) t) tz) P :=
  q_forV h (fun n Γ' => Wk Γ' (G n)) h0 (fun n d Γ' hn w => sw_wk (w.set j _) (hb n d hn)) fun Γ' w => sw_wk w hd
end
end Pw

/-! lists of new lists, which are spoilt (appended to, turned) once they were looked at -/
namespace Pw
open PySem PySem.Spec PyProof.Rows L2
theorem wk_set_any {Γ : Gam} {j : Nat} {e : Ent} (h : Γ[j]? = some .any) : Wk (Γ.set j e) Γ := by
  induction Γ generalizing j with
  | nil => cases h
  | cons a Γ ih =>
    cases j with
    | zero => cases (Option.some.inj h : a = .any); exact .any (Wk.refl _)
    | succ j => exact .same (ih h)
theorem wk_to_any {Γ : Gam} {j : Nat} {e : Ent} : Wk (Γ.set j e) (Γ.set j .any) := by
  induction Γ generalizing j with
  | nil => exact .nil
  | cons a Γ ih =>
    cases j with
    | zero => exact .any (Wk.refl _)
    | succ j => exact .same ih
theorem ex_add {F H : Hp} {p : Addr} {o : HO} (e : Ex F H) (h : H p = some o) : Ex (upd F p o) H := fun a u ha => by
  by_cases q : a = p
  · subst q; rw [upd_same] at ha; cases ha; exact h
  · rw [upd_ne q] at ha; exact e a u ha
theorem fr_grow {F H F' H' : Hp} {p : Addr} {x : HO} (e : Ext F H F' H') (b : F p = none) (c : H p = some x) : F' p = none := by
  cases q : F' p with
  | none => rfl
  | some o => rcases e.n p o q with z | z
              · rw [b] at z; cases z
              · rw [c] at z; cases z
section
variable {K : PySem.W.Frag} {Γ : Gam} {ta tb tc te : TE} {α β γ ρ : Type} {c : Cod α} {d : α} {c2 : Cod β} {d2 : β} {R : RR ρ} {P : Pst ρ} {t u tz : TS} {i j : Nat}
/-- a part may be changed that neither the frame nor the slots hold -/
theorem spoil_base {F0 H0 F1 H1 F2 H2 : Hp} {σ1 σ2 : L2.St} {p : Addr} (S : Stt F0 H0 F1 H1 σ1 Γ) (h0 : H0 p = none) (no : ∀ l : Nat, ¬ IsOwn Γ[l]?) (U : Stt F1 (fun a => if a = p then none else H1 a) F2 H2 σ2 Γ) : Stt F0 H0 F2 H2 σ2 Γ := by
  refine ⟨U.sl, S.f.trans U.f, fun a o ha => U.h a o ?_, fun a o ha => ?_, fun l _ ho _ => (no l ho).elim⟩
  · have : a ≠ p := fun z => by rw [z, h0] at ha; cases ha
    simp only [if_neg this]; exact S.h a o ha
  · rcases U.n a o ha with z | z
    · exact S.n a o z
    · have z : (if a = p then none else H1 a) = none := z
      split at z
      · rename_i hp; rw [hp]; exact .inr h0
      · exact .inr (S.h.free z)
theorem spoil_in {F0 H0 F1 H1 : Hp} {σ1 : L2.St} {p : Addr} {vs : List V} {ds : List α} (S : Stt F0 H0 F1 H1 σ1 Γ) (no : ∀ l : Nat, ¬ IsOwn Γ[l]?) (k1 : F1 p = none) (k2 : H1 p = some (.lst vs)) (k3 : Reps c F1 vs ds) :
    Stt F1 (fun a => if a = p then none else H1 a) F1 H1 (σ1.set j (some (.ref p))) (Γ.set j (.own c ds)) := by
  have T0 : Stt F1 (fun a => if a = p then none else H1 a) F1 H1 σ1 Γ := ⟨S.sl, Ex.refl _, fun a o ha => by
    have ha : (if a = p then none else H1 a) = some o := ha
    split at ha
    · cases ha
    · exact ha, fun _ _ h => .inl h, fun l _ ho _ => (no l ho).elim⟩
  exact T0.setOwn (by simp) k1 k2 k3 fun l _ ho => (no l ho).elim
theorem spoil_keep {F1 H1 F2 H2 : Hp} {σ2 : L2.St} {Γ2 : Gam} {p p' : Addr} {x : HO} (U : Stt F1 (fun a => if a = p then none else H1 a) F2 H2 σ2 Γ2) (hn : p' ≠ p) (k1 : F1 p' = none) (k2 : H1 p' = some x) : F2 p' = none ∧ H2 p' = some x := by
  refine ⟨?_, U.h p' x (by simp only [if_neg hn]; exact k2)⟩
  cases q : F2 p' with
  | none => rfl
  | some o => rcases U.n p' o q with z | z
              · rw [k1] at z; cases z
              · simp only [if_neg hn] at z; rw [k2] at z; cases z
/-- one that may be spoilt -/
def Fre (c : Cod α) (F H0 H : Hp) (p : Addr) : Prop := F p = none ∧ H0 p = none ∧ ∃ (ws : List V) (es : List α), H p = some (.lst ws) ∧ Reps c F ws es ∧ es.length < 999999
theorem spoil_loop {L : List Addr} {q : Addr} {F0 H0 F H : Hp} {σ : L2.St} {D : Ends} (nd : L.Nodup) (he : ∀ Γ, Ev Γ te c d) (S : Stt F0 H0 F H σ Γ) (hi : σ[i]? = some (some (.ref q))) (hq : H q = some (.lst (L.map V.ref))) (hqn : ∀ p ∈ L, p ≠ q)
    (no : ∀ l : Nat, ¬ IsOwn Γ[l]?) (hj : Γ[j]? = some .any) (all : ∀ p ∈ L, Fre c F H0 H p) (o : Ob R P F0 H0 D) (k : P.nx Γ) :
    tFor (iList K (tVar i)) (gName j) (tSeq (tApp K j te) (tDrop (tBM0 K "list" rReverse (tVar j)))) D σ H := by
  refine ⟨.ref q, hi, q, rfl, ⟨_, .inl (.inl hq)⟩, for_list (xs := L.map V.ref) (fun n σ' H' => ∃ F', Stt F0 H0 F' H' σ' Γ ∧ H' q = some (.lst (L.map V.ref)) ∧ ∀ m, n ≤ m → ∀ p, L[m]? = some p → Fre c F' H0 H' p)
    ⟨F, S, hq, fun m _ p hp => all p (List.mem_of_getElem? hp)⟩ (fun n σ' H' _ ⟨F', _, h, _⟩ => .inl (.inl h)) ?_ ?_⟩
  · rintro n x σ1 H1 hx ⟨F1, S1, hq1, all1⟩
    rw [List.getElem?_map] at hx
    obtain ⟨p, hp, rfl⟩ : ∃ p, L[n]? = some p ∧ V.ref p = x := by
      rcases e : L[n]? with _ | p
      · rw [e] at hx; cases hx
      · rw [e] at hx; exact ⟨p, rfl, Option.some.inj hx⟩
    obtain ⟨k1, k0, ws, es, k2, k3, k4⟩ := all1 n (Nat.le_refl _) p hp
    have T := spoil_in (j := j) S1 no k1 k2 k3
    have hjl : j < Γ.length := (List.getElem?_eq_some_iff.mp hj).1
    have body : SW R (Γ.set j (.own c es)) (tSeq (tApp K j te) (tDrop (tBM0 K "list" rReverse (tVar j)))) { nx := fun Γ2 => Wk Γ2 Γ, rt := fun _ => False, bk := fun _ => False, ct := fun _ => False } := by
      refine q_app (List.getElem?_set_self hjl) (he _) (by omega) ?_
      refine sw_revO (ds := es ++ [d]) (by rw [List.set_set]; exact List.getElem?_set_self hjl) ?_
      rw [List.set_set, List.set_set]; exact wk_set_any hj
    refine body _ _ _ _ _ _ T ⟨fun F2 H2 σ2 Γ2 T2 w => ?_, fun _ _ _ _ _ _ z => z.elim, fun _ _ _ _ _ z => z.elim, fun _ _ _ _ _ z => z.elim, fun _ _ _ z => z.elim⟩
    have U := T2.wk w
    have hqp : q ≠ p := fun z => hqn p (List.mem_of_getElem? hp) z.symm
    refine ⟨F2, spoil_base S1 k0 no U, U.h q _ (by simp only [if_neg hqp]; exact hq1), fun m hm p' hp' => ?_⟩
    have hne : p' ≠ p := fun z => by
      subst z
      have l1 := (List.getElem?_eq_some_iff.mp hp).1
      have l2 := (List.getElem?_eq_some_iff.mp hp').1
      have := (List.getElem?_inj l1 nd).mp (hp.trans hp'.symm)
      omega
    obtain ⟨m1, m0, ws', es', m2, m3, m4⟩ := all1 m (by omega) p' hp'
    have kk := spoil_keep U hne m1 m2
    exact ⟨kk.1, m0, ws', es', kk.2, m3.mono U.f, m4⟩
  · rintro σ1 H1 ⟨F1, S1, _, _⟩
    exact o.nx F1 H1 σ1 Γ S1 k
/-- three new lists are put into a list, looked at, and spoilt one by one -/
theorem sw_spoil3 {t1 t2 t3 : TE} {ds1 ds2 ds3 : List α} {tt : TT} (h1 : EvN Γ t1 c ds1) (h2 : EvN Γ t2 c ds2) (h3 : EvN Γ t3 c ds3) (l1 : ds1.length < 999999) (l2 : ds2.length < 999999) (l3 : ds3.length < 999999)
    (ht : EvT (Γ.set i (.val (cList K (cList K c)) [ds1, ds2, ds3])) tt false) (he : ∀ Γ, Ev Γ te c d) (no : ∀ l : Nat, ¬ IsOwn Γ[l]?) (hi : Γ[i]? = some .any) (hj : Γ[j]? = some .any) (k : P.nx Γ) :
    SW R Γ (tSeq (tAsg (tLst (tCons t1 (tCons t2 (tCons t3 tNil)))) (gName i)) (tSeq (tIfS tt u tNext) (tFor (iList K (tVar i)) (gName j) (tSeq (tApp K j te) (tDrop (tBM0 K "list" rReverse (tVar j))))))) P := fun F0 H0 F H σ D S o =>
  h1 F H σ S.sl _ fun p1 vs1 F1 H1 e1 a1 b1 c1 r1 => h2 F1 H1 σ (S.grow e1).sl _ fun p2 vs2 F2 H2 e2 a2 b2 c2' r2 => h3 F2 H2 σ ((S.grow e1).grow e2).sl _ fun p3 vs3 F3 H3 e3 a3 b3 c3 r3 => ⟨sz_of (by decide : 3 ≤ 1000000), fun q hq => by
    have E3 := (e1.trans e2).trans e3
    have z1 : H3 p1 = some (.lst vs1) := e3.h _ _ (e2.h _ _ c1)
    have z2 : H3 p2 = some (.lst vs2) := e3.h _ _ c2'
    have f1 : F3 p1 = none := fr_grow (e2.trans e3) b1 c1
    have f2 : F3 p2 = none := fr_grow e3 b2 c2'
    have n1 : H p1 = none := a1
    have n2 : H p2 = none := e1.h.free a2
    have n3 : H p3 = none := (e1.trans e2).h.free a3
    have nq : H q = none := E3.h.free hq
    have p12 : p1 ≠ p2 := fun z => by rw [z, a2] at c1; cases c1
    have p13 : p1 ≠ p3 := fun z => by have := e2.h _ _ c1; rw [z, a3] at this; cases this
    have p23 : p2 ≠ p3 := fun z => by rw [z, a3] at c2'; cases c2'
    have q1 : p1 ≠ q := fun z => by rw [z, hq] at z1; cases z1
    have q2 : p2 ≠ q := fun z => by rw [z, hq] at z2; cases z2
    have q3 : p3 ≠ q := fun z => by rw [z, hq] at c3; cases c3
    have G1 : Ex (upd F3 p1 (.lst vs1)) H3 := ex_add e3.i z1
    have G2 : Ex (upd (upd F3 p1 (.lst vs1)) p2 (.lst vs2)) H3 := ex_add G1 z2
    have G3 : Ex (upd (upd (upd F3 p1 (.lst vs1)) p2 (.lst vs2)) p3 (.lst vs3)) H3 := ex_add G2 c3
    have G4 := G3.both (p := q) (o := .lst [.ref p1, .ref p2, .ref p3])
    have fq : F3 q = none := e3.i.free hq
    have A1 : Ex F3 (upd F3 p1 (.lst vs1)) := Ex.new f1
    have A2 : Ex (upd F3 p1 (.lst vs1)) (upd (upd F3 p1 (.lst vs1)) p2 (.lst vs2)) := Ex.new (by rw [upd_ne p12.symm]; exact f2)
    have A3 : Ex (upd (upd F3 p1 (.lst vs1)) p2 (.lst vs2)) (upd (upd (upd F3 p1 (.lst vs1)) p2 (.lst vs2)) p3 (.lst vs3)) := Ex.new (by rw [upd_ne p23.symm, upd_ne p13.symm]; exact b3)
    have A4 : Ex (upd (upd (upd F3 p1 (.lst vs1)) p2 (.lst vs2)) p3 (.lst vs3)) (upd (upd (upd (upd F3 p1 (.lst vs1)) p2 (.lst vs2)) p3 (.lst vs3)) q (.lst [.ref p1, .ref p2, .ref p3])) := Ex.new (by rw [upd_ne q3.symm, upd_ne q2.symm, upd_ne q1.symm]; exact fq)
    have AA := ((A1.trans A2).trans A3).trans A4
    have EE : Ext F H (upd (upd (upd (upd F3 p1 (.lst vs1)) p2 (.lst vs2)) p3 (.lst vs3)) q (.lst [.ref p1, .ref p2, .ref p3])) (upd H3 q (.lst [.ref p1, .ref p2, .ref p3])) := ⟨E3.f.trans AA, E3.h.trans (Ex.new hq), G4, fun a o ha => by
      by_cases y : a = q
      · subst y; exact .inr nq
      rw [upd_ne y] at ha
      by_cases y : a = p3
      · subst y; exact .inr n3
      rw [upd_ne y] at ha
      by_cases y : a = p2
      · subst y; exact .inr n2
      rw [upd_ne y] at ha
      by_cases y : a = p1
      · subst y; exact .inr n1
      rw [upd_ne y] at ha
      exact E3.n a o ha⟩
    have rr : (cList K (cList K c)).rep (upd (upd (upd (upd F3 p1 (.lst vs1)) p2 (.lst vs2)) p3 (.lst vs3)) q (.lst [.ref p1, .ref p2, .ref p3])) (.ref q) [ds1, ds2, ds3] := by
      refine ⟨q, _, rfl, .inl (.inl upd_same), ⟨p1, vs1, rfl, .inl (.inl (((A2.trans A3).trans A4) _ _ upd_same)), r1.mono (((e2.trans e3).f).trans AA)⟩, ⟨p2, vs2, rfl, .inl (.inl ((A3.trans A4) _ _ upd_same)), r2.mono (e3.f.trans AA)⟩, ⟨p3, vs3, rfl, .inl (.inl (A4 _ _ upd_same)), r3.mono AA⟩, trivial⟩
    have SS := (S.grow EE).setV (i := i) (c := cList K (cList K c)) rr
    refine ht _ _ _ SS.sl _ fun F5 H5 e5 => iteF ?_
    have Hq : H5 q = some (.lst ([p1, p2, p3].map V.ref)) := e5.h _ _ upd_same
    have y1 : H5 p1 = some (.lst vs1) := e5.h _ _ (by rw [upd_ne q1]; exact z1)
    have y2 : H5 p2 = some (.lst vs2) := e5.h _ _ (by rw [upd_ne q2]; exact z2)
    have y3 : H5 p3 = some (.lst vs3) := e5.h _ _ (by rw [upd_ne q3]; exact c3)
    have EX : Ext F H F3 H5 := ⟨E3.f, (E3.h.trans (Ex.new hq)).trans e5.h, (e3.i.trans (Ex.new hq)).trans e5.h, E3.n⟩
    have S5 : Stt F0 H0 F3 H5 (σ.set i (some (.ref q))) Γ := by
      have := (S.grow EX).set (i := i) (s := some (.ref q)) (e := .any) (fun z => z) trivial
      exact this.wk (wk_set_any hi)
    have hil : i < σ.length := by rw [S.sl.len]; exact (List.getElem?_eq_some_iff.mp hi).1
    refine spoil_loop (L := [p1, p2, p3]) (q := q) (c := c) (d := d) (by simp [p12, p13, p23]) he S5 (List.getElem?_set_self hil) Hq (by simp [q1, q2, q3]) no hj (fun p hp => ?_) o k
    simp only [List.mem_cons, List.not_mem_nil, or_false] at hp
    rcases hp with rfl | rfl | rfl
    · exact ⟨f1, S.h.free n1, vs1, ds1, y1, r1.mono (e2.trans e3).f, l1⟩
    · exact ⟨f2, S.h.free n2, vs2, ds2, y2, r2.mono e3.f, l2⟩
    · exact ⟨b3, S.h.free n3, vs3, ds3, y3, r3, l3⟩⟩
end
end Pw

/-! a list of one's own lent to an expression that only looks at it -/
namespace Pw
open PySem PySem.Spec PyProof.Rows L2
/-- values that hold no list -/
def NoL {α : Type} (c : Cod α) : Prop := ∀ (F : Hp) (p : Addr) (xs : List V) (v : V) (d : α), F p = some (.lst xs) → c.rep F v d → c.rep (fun a => if a = p then none else F a) v d
theorem noL_int : NoL cInt := fun _ _ _ _ _ _ h => h
theorem noL_bool : NoL cBool := fun _ _ _ _ _ _ h => h
section
variable {K : PySem.W.Frag} {Γ : Gam} {ta tb tc te : TE} {α β γ ρ : Type} {c : Cod α} {d : α} {c2 : Cod β} {d2 : β} {R : RR ρ} {P : Pst ρ} {t u tz : TS} {i j : Nat}
theorem noL_reps (nl : NoL c2) {F : Hp} {p : Addr} {xs : List V} (hp : F p = some (.lst xs)) : ∀ {vs : List V} {ds : List β}, Reps c2 F vs ds → Reps c2 (fun a => if a = p then none else F a) vs ds
  | [], [], _ => trivial
  | _ :: _, _ :: _, h => ⟨nl F p xs _ _ hp h.1, noL_reps nl hp h.2⟩
  | [], _ :: _, h => h.elim
  | _ :: _, [], h => h.elim
theorem lend_sl {F H : Hp} {σ : L2.St} {ds : List α} {p : Addr} {vs : List V} (K : PySem.W.Frag) (S : Sl F H σ Γ) (e : Γ[i]? = some (.own c ds)) (k1 : σ[i]? = some (some (.ref p))) (k2 : F p = none) (k3 : H p = some (.lst vs)) (k4 : Reps c F vs ds) :
    Sl (upd F p (.lst vs)) H σ (Γ.set i (.val (cList K c) ds)) := by
  have hF : Ex F (upd F p (.lst vs)) := Ex.new k2
  have il : i < Γ.length := (List.getElem?_eq_some_iff.mp e).1
  have own' : ∀ j : Nat, IsOwn (Γ.set i (.val (cList K c) ds))[j]? → j ≠ i ∧ IsOwn Γ[j]? := fun j h => by
    rw [List.getElem?_set] at h
    by_cases z : i = j
    · subst z; rw [if_pos rfl, if_pos il] at h; exact h.elim
    · rw [if_neg z] at h; exact ⟨fun q => z q.symm, h⟩
  refine ⟨ex_add S.ex k3, by rw [List.length_set]; exact S.len, fun j s f e1 e2 => ?_, fun a b q hab oa ob => S.dis a b q hab (own' a oa).2 (own' b ob).2⟩
  rw [List.getElem?_set] at e2
  by_cases z : i = j
  · subst z
    rw [if_pos rfl, if_pos il] at e2
    cases e2
    rw [k1] at e1; cases e1
    exact ⟨_, rfl, p, vs, rfl, .inl (.inl upd_same), k4.mono hF⟩
  · rw [if_neg z] at e2
    have ok := S.ok j s f e1 e2
    cases f with
    | any => trivial
    | val c' d' => obtain ⟨v, h1, h2⟩ := ok; exact ⟨v, h1, c'.mono hF h2⟩
    | ob c' ds' =>
      obtain ⟨p', vs', h1, h2, h3, h4⟩ := ok
      subst h1
      have hne : p' ≠ p := fun q => by
        subst q
        exact S.dis i j p' z (by rw [e]; trivial) (by rw [e2]; trivial) k1 e1
      exact ⟨p', vs', rfl, by rw [upd_ne hne]; exact h2, h3, c'.mono hF h4⟩
theorem lend_back {F H F' H' : Hp} {p : Addr} {vs : List V} (k2 : F p = none) (k3 : H p = some (.lst vs)) (e : Ext (upd F p (.lst vs)) H F' H') : F' p = some (.lst vs) ∧ Ext F H (fun a => if a = p then none else F' a) H' := by
  refine ⟨e.f _ _ upd_same, fun a o ha => ?_, e.h, fun a o ha => ?_, fun a o ha => ?_⟩
  · have hne : a ≠ p := fun z => by rw [z, k2] at ha; cases ha
    simp only [if_neg hne]
    exact e.f a o (by rw [upd_ne hne]; exact ha)
  · have ha : (if a = p then none else F' a) = some o := ha
    split at ha
    · cases ha
    · exact e.i a o ha
  · have ha : (if a = p then none else F' a) = some o := ha
    split at ha
    · cases ha
    · rename_i hne
      rcases e.n a o ha with z | z
      · rw [upd_ne hne] at z; exact .inl z
      · exact .inr z
theorem ev_lend {ds : List α} (K : PySem.W.Frag) (i : Nat) (nl : NoL c2) (e : Γ[i]? = some (.own c ds)) (h : Ev (Γ.set i (.val (cList K c) ds)) te c2 d2) : Ev Γ te c2 d2 := fun F H σ S Q q => by
  obtain ⟨p, vs, k1, k2, k3, k4⟩ := S.owned e
  refine h _ H σ (lend_sl K S e k1 k2 k3 k4) Q fun v F' H' x r => ?_
  obtain ⟨b1, b2⟩ := lend_back k2 k3 x
  exact q v _ H' b2 (nl F' p vs v d2 b1 r)
theorem evN_lend {ds : List α} {es : List β} (K : PySem.W.Frag) (i : Nat) (nl : NoL c2) (e : Γ[i]? = some (.own c ds)) (h : EvN (Γ.set i (.val (cList K c) ds)) te c2 es) : EvN Γ te c2 es := fun F H σ S Q q => by
  obtain ⟨p, vs, k1, k2, k3, k4⟩ := S.owned e
  refine h _ H σ (lend_sl K S e k1 k2 k3 k4) Q fun p' vs' F' H' x a1 a2 a3 a4 => ?_
  obtain ⟨b1, b2⟩ := lend_back k2 k3 x
  refine q p' vs' _ H' b2 a1 ?_ a3 (noL_reps nl b1 a4)
  show (if p' = p then none else F' p') = none
  split
  · rfl
  · exact a2
theorem evT_lend {ds : List α} {tt : TT} {b : Bool} (K : PySem.W.Frag) (i : Nat) (e : Γ[i]? = some (.own c ds)) (h : EvT (Γ.set i (.val (cList K c) ds)) tt b) : EvT Γ tt b := fun F H σ S Q q => by
  obtain ⟨p, vs, k1, k2, k3, k4⟩ := S.owned e
  refine h _ H σ (lend_sl K S e k1 k2 k3 k4) Q fun F' H' x => ?_
  exact q _ H' (lend_back k2 k3 x).2
/-- [e for k in range(l, m)] -/
theorem evN_lcR2 {l m : Int} {j : Nat} {vs : List Nat} (h0 : Ev Γ tb cInt l) (h : Ev Γ ta cInt m) (g : Nat → β) (hl : -(2 ^ 60) ≤ l ∧ l ≤ 2 ^ 60) (hm : m - l ≤ 1000000) (hm0 : -(2 ^ 60) ≤ m) (hw : ∀ (σ : L2.St) x, wipe ((wipe σ vs).set j (some x)) vs = wipe σ vs)
    (he : ∀ n : Nat, l + (n : Int) < m → Ev ((vs.foldr (fun v G => G.set v .any) Γ).set j (.val cInt (l + (n : Int)))) te c2 (g n)) : EvN Γ (tLc (iRng2 (tCons tb (tCons ta tNil))) (gName j) tYes te vs) c2 ((List.range (m - l).toNat).map g) := fun F0 H0 σ S Q q => h0 F0 H0 σ S _ fun w F H e0 r0 => h F H σ (S.grow e0) _ fun v F1 H1 e1' r1 => by
  cases (show v = .int m from r1); cases (show w = .int l from r0)
  have e1 := e0.trans e1'
  refine ⟨l, m, rfl, ⟨by omega, by omega, by omega, by omega⟩, fun D hD => lc_range (lo := l) (n := (m - l).toNat) (fun i H' => ∃ F' acc, Ext F1 H1 F' H' ∧ F' D = none ∧ H' D = some (.lst acc) ∧ Reps c2 F' acc ((List.range i).map g))
    ⟨F1, [], Ext.aside e1.i hD, e1.i.free hD, upd_same, trivial⟩ (fun i H' hi ⟨F', acc, e2, k1, k2, k3⟩ => ⟨hw _ _, ?_⟩) (fun H' ⟨F', acc, e2, k1, k2, k3⟩ => q D acc F' H' (e1.trans e2) (e1.h.free hD) k1 k2 k3)⟩
  have S2 : Sl F' H' ((wipe σ vs).set j (some (.int (l + (i : Int))))) ((vs.foldr (fun v G => G.set v .any) Γ).set j (.val cInt (l + (i : Int)))) := (sl_wipe (S.grow (e1.trans e2)) vs).setV rfl
  unfold tYes; dsimp only
  rw [if_pos rfl]
  refine he i (by omega) F' H' _ S2 _ fun y F4 H4 e4 r4 => ⟨acc, e4.h D _ k2, by rw [k3.len, List.length_map, List.length_range]; exact sz_lt (by omega), F4, acc ++ [y], ?_⟩
  have k1'' : F4 D = none := fr_grow e4 k1 k2
  have x := e2.trans e4
  refine ⟨⟨x.f, fun b o q => ?_, x.i.mut k1'', x.n⟩, k1'', upd_same, ?_⟩
  · rw [upd_ne (ne_of_none q hD)]; exact x.h b o q
  · rw [List.range_succ, List.map_append]
    exact (k3.mono e4.f).append (Reps.one r4)
end
end Pw

/-! a value or None; try: x = f(..) except E as e: caught = e -/
namespace Pw
open PySem PySem.Spec PyProof.Rows L2
def cOpt {α : Type} (c : Cod α) : Cod (Option α) := ⟨fun F v o => match o with
  | none => v = .non
  | some d => c.rep F v d, fun {H H' v o} e h => by
    cases o with
    | none => exact h
    | some d => exact c.mono e h⟩
def tTryA (K : PySem.W.Frag) (c : Value) (i j l : Nat) (sp : Sp) (ta : TA) : TS := fun D σ H => tAsg (tCallS sp (WE (wHold K c i (fun _ _ _ => tAsg (tVar i) (gName j)) (fun _ _ _ _ => False) D)) ta) (gName l) D σ H
section
variable {K : PySem.W.Frag} {Γ : Gam} {ta tb tc te : TE} {α β γ ρ : Type} {c : Cod α} {d : α} {c2 : Cod β} {d2 : β} {R : RR ρ} {P : Pst ρ} {t u tz : TS} {i j l : Nat}
theorem ev_some (h : Ev Γ te c d) : Ev Γ te (cOpt c) (some d) := h
theorem ev_unsome (h : Ev Γ te (cOpt c) (some d)) : Ev Γ te c d := h
theorem ev_none : Ev Γ (tC .non) (cOpt c) none := ev_c fun _ => rfl
theorem ev_notN0 (h : Ev Γ te (cOpt c) none) : Ev Γ (tOp rNotN te (tC .non)) cBool false := fun F H σ S Q q =>
  h F H σ S _ fun v F1 H1 e1 r1 => by
    cases (show v = .non from r1)
    exact ⟨rfl, q _ F1 H1 e1 rfl⟩
theorem sw_tryA {ca : CodA α} {a : α} {pre : α → Prop} {f : α → Option β} {C : Addr} {cv : Value} {tr : TA} (h : EvA Γ tr ca a) (hp : pre a) (hx : PySem.W.exmOne K (.ref C) cv = some true) (hi : i < Γ.length)
    (k1 : ∀ b, f a = some b → P.nx (Γ.set l (.val c2 b))) (k2 : f a = none → P.nx (((Γ.set i .any).set j (.val cExc C)).set i .any)) : SW R Γ (tTryA K cv i j l (SpX ca pre c2 f C) tr) P := fun F0 H0 F H σ D S o =>
  h F H σ S.sl _ fun vs F1 H1 e1 r1 => ⟨F1, a, e1.i, r1, hp, fun b v F' H' e e2 r2 => o.nx F' H' _ _ (((S.grow e1).grow e2).setV (i := l) r2) (k1 b e), fun hn F' H' e2 => ⟨true, hx, fun _ x nx => by
    have S2 := (S.grow e1).grow e2
    have S3 := S2.grow (Ext.new (o := ExV (.ref C) none x) e2.i nx)
    have hi' : i < σ.length := by rw [S.sl.len]; exact hi
    refine ⟨.ref x, by rw [List.getElem?_set_self hi'], ?_⟩
    show D.nx (((σ.set i (some (.ref x))).set j (some (.ref x))).set i none) (upd H' x (ExV (.ref C) none x))
    refine o.nx (upd F' x (ExV (.ref C) none x)) _ _ _ ?_ (k2 hn)
    exact ((S3.set (e := .any) (i := i) (s := some (.ref x)) (fun h => h) trivial).setV (c := cExc) (d := C) (i := j) ⟨x, rfl, upd_same⟩).set (e := .any) (i := i) (s := none) (fun h => h) trivial, fun q => nomatch q⟩⟩
theorem q_tryA {ca : CodA α} {a : α} {pre : α → Prop} {f : α → Option β} {C : Addr} {cv : Value} {tr : TA} (h : EvA Γ tr ca a) (hp : pre a) (hx : PySem.W.exmOne K (.ref C) cv = some true) (hi : i < Γ.length)
    (k1 : ∀ b, f a = some b → SW R (Γ.set l (.val c2 b)) tz P) (k2 : f a = none → SW R (((Γ.set i .any).set j (.val cExc C)).set i .any) tz P) : SW R Γ (tSeq (tTryA K cv i j l (SpX ca pre c2 f C) tr) tz) P := sw_seq (sw_tryA h hp hx hi k1 k2)
end
end Pw

/-! isinstance(e, (A, B, ..)), e an error that a name holds -/
namespace Pw
open PySem PySem.Spec PyProof.Rows L2
def rIsXT (K : PySem.W.Frag) : List V → Hp → VK → Prop := fun xs H Q => ∃ (a D tp : Addr) (cs : List V) (us : List Value) (b : Bool), xs = [.ref a, .ref tp] ∧ H a = some (ExV (.ref D) none a) ∧ ExcC K D ∧ H tp = some (.tup cs) ∧ Paired ClsV cs us ∧ PySem.W.kitAny K (.ref D) us = some b ∧ Q (.bl b) H
theorem call_isXT {X : Cx} : CallR X (.builtin "isinstance") (rIsXT X.K) := by
  intro pins s σ H xs us Q I r h
  obtain ⟨a, D, tp, cs, ws, b, rfl, ha, C, hT, k, e, q⟩ := h
  cases r with
  | cons rx rr =>
    cases rr with
    | cons rt rr =>
      cases rr
      cases rx
      cases rt
      obtain ⟨⟨oe, vs, hget, hz, hv⟩, _⟩ := I.hok a _ ha
      have J : PySem.W.InstAt s.heap a oe D none := by
        obtain ⟨oc, od, oda, osl⟩ := oe
        obtain ⟨h1, h2⟩ := hz
        dsimp only at h1 h2 hv
        subst h1 h2 hv
        exact ⟨hget, rfl, rfl, trivial⟩
      obtain ⟨_, its, rv, o, h1, h2, n, h3⟩ := (show ObjOk X.prog X.w H s.heap tp (.tup cs) from I.hok tp _ hT)
      have e3 := ClsV.all k rv
      subst e3
      obtain ⟨oc, od, dt, sl⟩ := o
      simp only at h2 h3
      subst h2 h3
      exact PySem.W.kia_tup (PySem.W.handS_kitx_exc C.hg C.hk C.hs C.hd C.ha C.hn C.ht C.hm) I.kIn J h1 e (fun z => nomatch z) fun tk => ⟨.bl b, H, I.kept (t' := tk) fun _ _ z => z, rfl, q⟩
section
variable {K : PySem.W.Frag} {Γ : Gam} {te : TE}
def tRefs : List Addr → TA
  | [] => tNil
  | a :: as => tCons (tC (.ref a)) (tRefs as)
theorem tRefs_run {σ : L2.St} {H : Hp} : ∀ {Cs : List Addr} {Q : List V → Hp → Prop}, Q (Cs.map V.ref) H → tRefs Cs σ H Q
  | [], _, h => h
  | _ :: Cs, _, h => tRefs_run (Cs := Cs) (Q := fun vs H2 => _) h
theorem pair_refs : ∀ Cs : List Addr, Paired ClsV (Cs.map V.ref) (Cs.map Value.ref)
  | [] => .nil
  | _ :: Cs => .cons (.own _) (pair_refs Cs)
theorem ev_isXT {D : Addr} {b : Bool} (Cs : List Addr) (hl : Cs.length ≤ 100) (h : Ev Γ te cExc D) (C : ExcC K D) (hk : PySem.W.kitAny K (.ref D) (Cs.map Value.ref) = some b) : Ev Γ (tCB (rIsXT K) (tCons te (tCons (tTup (tRefs Cs)) tNil))) cBool b := fun F H σ S Q q =>
  h F H σ S _ fun v F1 H1 e1 r1 => by
    obtain ⟨a, rfl, ha⟩ := r1
    refine tRefs_run ⟨by rw [List.length_map]; exact sz_of (by omega), fun p hp => ?_⟩
    exact ⟨a, D, p, Cs.map V.ref, Cs.map Value.ref, b, rfl, (Ex.new hp) a _ (e1.i a _ ha), C, upd_same, pair_refs Cs, hk, q _ F1 _ (e1.trans (Ext.aside e1.i hp)) rfl⟩
end
end Pw

/-! a tuple of two new lists: looked at, then each changed (k09, k28) -/
namespace Pw
open PySem PySem.Spec PyProof.Rows L2
def cRaw2 : Cod (Addr × Addr) := ⟨fun F v pq => ∃ t, v = .ref t ∧ F t = some (.tup [.ref pq.1, .ref pq.2]), fun e ⟨t, h1, h2⟩ => ⟨t, h1, e t _ h2⟩⟩
section
variable {K : PySem.W.Frag} {Γ : Gam} {ta tb tc te : TE} {α β γ ρ : Type} {c1 : Cod α} {c2 : Cod β} {R : RR ρ} {P : Pst ρ} {t u tz : TS} {i j l : Nat} {p1 p2 : Addr} {ds1 : List α} {ds2 : List β}
structure Own2 (c1 : Cod α) (c2 : Cod β) (F H0 H : Hp) (σ : L2.St) (Γ : Gam) (p1 p2 : Addr) (ds1 : List α) (ds2 : List β) : Prop where
  n : p1 ≠ p2
  f1 : F p1 = none
  f2 : F p2 = none
  z1 : H0 p1 = none
  z2 : H0 p2 = none
  h1 : ∃ ws, H p1 = some (.lst ws) ∧ Reps c1 F ws ds1
  h2 : ∃ ws, H p2 = some (.lst ws) ∧ Reps c2 F ws ds2
  o : ∀ (l : Nat) p, IsOwn Γ[l]? → σ[l]? = some (some (.ref p)) → p ≠ p1 ∧ p ≠ p2
theorem Own2.grow {F H0 H F' H' : Hp} {σ : L2.St} (w : Own2 c1 c2 F H0 H σ Γ p1 p2 ds1 ds2) (e : Ext F H F' H') : Own2 c1 c2 F' H0 H' σ Γ p1 p2 ds1 ds2 := by
  obtain ⟨w1, a1, b1⟩ := w.h1
  obtain ⟨w2, a2, b2⟩ := w.h2
  exact ⟨w.n, fr_grow e w.f1 a1, fr_grow e w.f2 a2, w.z1, w.z2, ⟨w1, e.h _ _ a1, b1.mono e.f⟩, ⟨w2, e.h _ _ a2, b2.mono e.f⟩, w.o⟩
/-- a statement run while p1, p2 are owned aside -/
def SWr (R : RR ρ) (c1 : Cod α) (c2 : Cod β) (p1 p2 : Addr) (ds1 : List α) (ds2 : List β) (Γ : Gam) (t : TS) (P : Pst ρ) : Prop := ∀ F0 H0 F H σ D, Stt F0 H0 F H σ Γ → Own2 c1 c2 F H0 H σ Γ p1 p2 ds1 ds2 → Ob R P F0 H0 D → t D σ H
theorem swr_when {tt : TT} (h : EvT Γ tt false) (k : SWr R c1 c2 p1 p2 ds1 ds2 Γ tz P) : SWr R c1 c2 p1 p2 ds1 ds2 Γ (tSeq (tIfS tt u tNext) tz) P := fun F0 H0 F H σ D S w o =>
  h F H σ S.sl _ fun F1 H1 e1 => iteF (k F0 H0 F1 H1 σ D (S.grow e1) (w.grow e1) o)
/-- the two are given up to the slots of an unpacking -/
theorem swr_un {P : Pst ρ} (e : Γ[i]? = some (.val cRaw2 (p1, p2))) (hj : j < Γ.length) (hl : l < Γ.length) (hjl : j ≠ l) (k : SW R ((Γ.set j (.own c1 ds1)).set l (.own c2 ds2)) tz P) :
    SWr R c1 c2 p1 p2 ds1 ds2 Γ (tSeq (tAsg (tVar i) (gTup K 2 (gCons (gName j) (gCons (gName l) gNil)))) tz) P := fun F0 H0 F H σ D S w o => by
  obtain ⟨v, hv, t, rfl, ht⟩ := S.sl.var e
  obtain ⟨w1, a1, b1⟩ := w.h1
  obtain ⟨w2, a2, b2⟩ := w.h2
  refine ⟨.ref t, hv, t, _, rfl, .inl (.inl (S.sl.ex t _ ht)), rfl, .ref p1, _, rfl, .ref p2, _, rfl, rfl, ?_⟩
  have S1 := S.setOwn (i := j) w.z1 w.f1 a1 b1 fun x _ ox hx => (w.o x p1 ox hx).1 rfl
  have S2 := S1.setOwn (i := l) w.z2 w.f2 a2 b2 fun x hxl ox hx => by
    rw [List.getElem?_set] at ox hx
    by_cases z : j = x
    · subst z
      rw [if_pos rfl, if_pos (by rw [S.sl.len]; exact hj)] at hx
      exact w.n (by cases hx; rfl)
    · rw [if_neg z] at ox hx
      exact (w.o x p2 ox hx).2 rfl
  exact k F0 H0 F H _ D S2 o
/-- lent to a test as a lasting pair -/
theorem evr_lend {F0 H0 F H : Hp} {σ : L2.St} {tt : TT} {b : Bool} (e : Γ[i]? = some (.val cRaw2 (p1, p2))) (S : Stt F0 H0 F H σ Γ) (w : Own2 c1 c2 F H0 H σ Γ p1 p2 ds1 ds2)
    (h : EvT (Γ.set i (.val (cPair K (cList K c1) (cList K c2)) (ds1, ds2))) tt b) {Q : Bool → Hp → Prop} (q : ∀ F' H', Ext F H F' H' → Q b H') : tt σ H Q := by
  obtain ⟨v, hv, t, rfl, ht⟩ := S.sl.var e
  obtain ⟨w1, a1, b1⟩ := w.h1
  obtain ⟨w2, a2, b2⟩ := w.h2
  have il : i < Γ.length := (List.getElem?_eq_some_iff.mp e).1
  have g1 : Ex F (upd F p1 (.lst w1)) := Ex.new w.f1
  have n2 : upd F p1 (.lst w1) p2 = none := by rw [upd_ne w.n.symm]; exact w.f2
  have g2 : Ex (upd F p1 (.lst w1)) (upd (upd F p1 (.lst w1)) p2 (.lst w2)) := Ex.new n2
  have gg := g1.trans g2
  have own' : ∀ x : Nat, IsOwn (Γ.set i (.val (cPair K (cList K c1) (cList K c2)) (ds1, ds2)))[x]? → IsOwn Γ[x]? := fun x hx => by
    rw [List.getElem?_set] at hx
    by_cases z : i = x
    · subst z; rw [if_pos rfl, if_pos il] at hx; exact hx.elim
    · rw [if_neg z] at hx; exact hx
  have sl : Sl (upd (upd F p1 (.lst w1)) p2 (.lst w2)) H σ (Γ.set i (.val (cPair K (cList K c1) (cList K c2)) (ds1, ds2))) := by
    refine ⟨ex_add (ex_add S.sl.ex a1) a2, by rw [List.length_set]; exact S.sl.len, fun x s f e1 e2 => ?_, fun a b q hab oa ob => S.sl.dis a b q hab (own' a oa) (own' b ob)⟩
    rw [List.getElem?_set] at e2
    by_cases z : i = x
    · subst z
      rw [if_pos rfl, if_pos il] at e2
      cases e2
      rw [hv] at e1; cases e1
      exact ⟨_, rfl, t, _, rfl, .inl (.inl (gg t _ ht)), _, _, rfl, ⟨p1, w1, rfl, .inl (.inl (g2 p1 _ upd_same)), b1.mono gg⟩, _, _, rfl, ⟨p2, w2, rfl, .inl (.inl upd_same), b2.mono gg⟩, rfl⟩
    · rw [if_neg z] at e2
      have ok := S.sl.ok x s f e1 e2
      cases f with
      | any => trivial
      | val c' d' => obtain ⟨v, h1, h2⟩ := ok; exact ⟨v, h1, c'.mono gg h2⟩
      | ob c' ds' =>
        obtain ⟨p', vs', h1, h2, h3, h4⟩ := ok
        subst h1
        have := w.o x p' (by rw [e2]; trivial) e1
        exact ⟨p', vs', rfl, by rw [upd_ne this.2, upd_ne this.1]; exact h2, h3, c'.mono gg h4⟩
  refine h _ H σ sl _ fun F' H' x => ?_
  have r1 := (lend_back n2 a2 x).2
  exact q _ H' (lend_back w.f1 a1 r1).2
theorem swr_whenL {tt : TT} (e : Γ[i]? = some (.val cRaw2 (p1, p2))) (h : EvT (Γ.set i (.val (cPair K (cList K c1) (cList K c2)) (ds1, ds2))) tt false) (k : SWr R c1 c2 p1 p2 ds1 ds2 Γ tz P) : SWr R c1 c2 p1 p2 ds1 ds2 Γ (tSeq (tIfS tt u tNext) tz) P := fun F0 H0 F H σ D S w o =>
  evr_lend (K := K) e S w h fun F1 H1 e1 => iteF (k F0 H0 F1 H1 σ D (S.grow e1) (w.grow e1) o)
end
end Pw

/-! a promise of a tuple of two new lists, or of an error -/
namespace Pw
open PySem PySem.Spec PyProof.Rows L2
def rT2 {β γ : Type} (c1 : Cod β) (c2 : Cod γ) : RR (List β × List γ) := fun H0 F H v d => ∃ t p1 p2, v = .ref t ∧ F t = some (.tup [.ref p1, .ref p2]) ∧ p1 ≠ p2 ∧ (H0 p1 = none ∧ F p1 = none ∧ ∃ ws, H p1 = some (.lst ws) ∧ Reps c1 F ws d.1) ∧ (H0 p2 = none ∧ F p2 = none ∧ ∃ ws, H p2 = some (.lst ws) ∧ Reps c2 F ws d.2)
def SpT2 {α β γ : Type} (ca : CodA α) (pre : α → Prop) (c1 : Cod β) (c2 : Cod γ) (f : α → Option (List β × List γ)) (C : Addr) : Sp := fun vs H Q E => ∃ F a, Ex F H ∧ ca.rep F vs a ∧ pre a ∧
  (∀ d v F' H', f a = some d → Ext F H F' H' → rT2 c1 c2 H F' H' v d → Q v H') ∧ (f a = none → ∀ F' H', Ext F H F' H' → E (.ref C) none H')
section
variable {α β γ : Type} {ca : CodA α} {pre : α → Prop} {c1 : Cod β} {c2 : Cod γ} {t : TS} {vs : List V} {H : Hp} {Q : VK} {E : XK} {N : List Str}
theorem body_T2 {f : α → Option (List β × List γ)} {C : Addr} (m : Nat) (h : ∀ a, pre a → SW (rT2 c1 c2) (ca.env a ++ List.replicate m .any) t (PX (f a) C E)) (hN : ∀ a, N.length = (ca.env a).length + m) (hs : SpT2 ca pre c1 c2 f C vs H Q E) : t (ends Q) (start N vs) H := by
  obtain ⟨F, a, e, r, hp, q, qx⟩ := hs
  exact h a hp F H F H _ _ (stt_start e r m (hN a)) ⟨fun _ _ _ _ _ z => z.elim, fun F' H' v d x r z => q d v F' H' z x r, fun _ _ _ _ _ z => z.elim, fun _ _ _ _ _ z => z.elim, fun D F' H' z x => by obtain ⟨z1, z2⟩ := z; subst z1; exact qx z2 F' H' x⟩
theorem len_T2 {f : α → Option (List β × List γ)} {C : Addr} {n : Nat} (hn : ∀ a, (ca.env a).length = n) (hs : SpT2 ca pre c1 c2 f C vs H Q E) : vs.length = n := by
  obtain ⟨F, a, e, r, _⟩ := hs; rw [ca.len r, hn]
end
section
variable {K : PySem.W.Frag} {Γ : Gam} {ta tb tc te : TE} {α β γ ρ : Type} {c1 : Cod α} {c2 : Cod β} {R : RR ρ} {t u tz : TS} {i j l : Nat} {ds1 : List α} {ds2 : List β}
/-- return (new, new) -/
theorem sw_retT2 {P : Pst (List α × List β)} (h1 : EvN Γ ta c1 ds1) (h2 : EvN Γ tb c2 ds2) (k : P.rt (ds1, ds2)) : SW (rT2 c1 c2) Γ (tRet (tTup (tCons ta (tCons tb tNil)))) P := fun F0 H0 F H σ D S o =>
  h1 F H σ S.sl _ fun p1 vs1 F1 H1 e1 a1 b1 d1 r1 => h2 F1 H1 σ (S.grow e1).sl _ fun p2 vs2 F2 H2 e2 a2 b2 d2 r2 => ⟨sz_of (by decide : 2 ≤ 1000000), fun q hq => by
    have z1 : H2 p1 = some (.lst vs1) := e2.h _ _ d1
    have f1 : F2 p1 = none := fr_grow e2 b1 d1
    have n12 : p1 ≠ p2 := fun z => by rw [z, a2] at d1; cases d1
    have q1 : p1 ≠ q := fun z => by rw [z, hq] at z1; cases z1
    have q2 : p2 ≠ q := fun z => by rw [z, hq] at d2; cases d2
    have ea := Ext.aside (F := F2) (H := H2) e2.i hq (o := .tup [.ref p1, .ref p2])
    have en : Ext F2 H2 (upd F2 q (.tup [.ref p1, .ref p2])) (upd H2 q (.tup [.ref p1, .ref p2])) := Ext.new e2.i hq
    have S3 := ((S.grow e1).grow e2).grow en
    refine o.rt _ _ _ (ds1, ds2) S3.ext ⟨q, p1, p2, rfl, upd_same, n12, ⟨S.h.free a1, by rw [upd_ne q1]; exact f1, vs1, by rw [upd_ne q1]; exact z1, r1.mono (e2.f.trans en.f)⟩, ⟨S.h.free (e1.h.free a2), by rw [upd_ne q2]; exact b2, vs2, by rw [upd_ne q2]; exact d2, r2.mono en.f⟩⟩ k⟩
/-- x = f(..), a tuple of two new lists; from here on they are owned aside -/
theorem q_callT2 {P : Pst ρ} {ca : CodA γ} {a : γ} {pre : γ → Prop} {f : γ → Option (List α × List β)} {C : Addr} {tr : TA} {E : XK} {d : List α × List β} (h : EvA Γ tr ca a) (hp : pre a) (hd : f a = some d) (hi : ¬ IsOwn Γ[i]?)
    (k : ∀ p1 p2, SWr R c1 c2 p1 p2 d.1 d.2 (Γ.set i (.val cRaw2 (p1, p2))) tz P) : SW R Γ (tSeq (tAsg (tCall (SpT2 ca pre c1 c2 f C) [] E tr) (gName i)) tz) P := fun F0 H0 F H σ D S o =>
  h F H σ S.sl _ fun vs F1 H1 e1 r1 => ⟨F1, a, e1.i, by rw [List.append_nil]; exact r1, hp, fun d' v F' H' e e2 r2 => by
    rw [hd] at e; cases e
    obtain ⟨t, p1, p2, rfl, ht, n, ⟨z1, f1, ws1, h1, g1⟩, ⟨z2, f2, ws2, h2, g2⟩⟩ := r2
    have S2 := (S.grow e1).grow e2
    have S3 : Stt F0 H0 F' H' (σ.set i (some (.ref t))) (Γ.set i (.val cRaw2 (p1, p2))) := S2.setV ⟨t, rfl, ht⟩
    refine k p1 p2 F0 H0 F' H' _ D S3 ⟨n, f1, f2, (S.grow e1).h.free z1, (S.grow e1).h.free z2, ⟨ws1, h1, g1⟩, ⟨ws2, h2, g2⟩, fun x p ox hx => ?_⟩ o
    have ox' : i ≠ x ∧ IsOwn Γ[x]? := by
      rw [List.getElem?_set] at ox
      by_cases z : i = x
      · subst z
        by_cases y : i < Γ.length
        · rw [if_pos rfl, if_pos y] at ox; exact ox.elim
        · rw [if_pos rfl, if_neg y] at ox; exact ox.elim
      · rw [if_neg z] at ox; exact ⟨z, ox⟩
    rw [List.getElem?_set_ne ox'.1] at hx
    cases q : Γ[x]? with
    | none => rw [q] at ox'; exact ox'.2.elim
    | some en =>
      cases en with
      | any => rw [q] at ox'; exact ox'.2.elim
      | val _ _ => rw [q] at ox'; exact ox'.2.elim
      | ob c' ds' =>
        obtain ⟨p', vs', y1, y2, y3, y4⟩ := (S.grow e1).sl.obj q
        rw [hx] at y1; cases y1
        exact ⟨fun z => (by subst z; rw [z1] at y3; cases y3), fun z => (by subst z; rw [z2] at y3; cases y3)⟩,
    fun e => by rw [hd] at e; cases e⟩
end
end Pw

/-! a def that is called with data of two kinds: either promise -/
namespace Pw
open PySem PySem.Spec PyProof.Rows L2
def SpOr (s1 s2 : Sp) : Sp := fun vs H Q E => s1 vs H Q E ∨ s2 vs H Q E
section
variable {K : PySem.W.Frag} {Γ : Gam} {α β γ : Type} {c2 : Cod β} {s1 s2 : Sp}
theorem evN_orL {ca : CodA α} {a : α} {pre : α → Prop} {f : α → List β} {tr : TA} {E : XK} (h : EvA Γ tr ca a) (hp : pre a) : EvN Γ (tCall (SpOr (SpN ca pre c2 f) s2) [] E tr) c2 (f a) := fun F H σ S Q q =>
  h F H σ S _ fun vs F1 H1 e1 r1 => .inl ⟨F1, a, e1.i, by rw [List.append_nil]; exact r1, hp, fun p vs' F' H' e2 k1 k2 k3 k4 => q p vs' F' H' (e1.trans e2) (e1.h.free k1) k2 k3 k4⟩
theorem evN_orR {ca : CodA α} {a : α} {pre : α → Prop} {f : α → List β} {tr : TA} {E : XK} (h : EvA Γ tr ca a) (hp : pre a) : EvN Γ (tCall (SpOr s1 (SpN ca pre c2 f)) [] E tr) c2 (f a) := fun F H σ S Q q =>
  h F H σ S _ fun vs F1 H1 e1 r1 => .inr ⟨F1, a, e1.i, by rw [List.append_nil]; exact r1, hp, fun p vs' F' H' e2 k1 k2 k3 k4 => q p vs' F' H' (e1.trans e2) (e1.h.free k1) k2 k3 k4⟩
end
end Pw

/-! a tuple of two new lists as a lasting value; tried -/
namespace Pw
open PySem PySem.Spec PyProof.Rows L2
section
variable {K : PySem.W.Frag} {Γ : Gam} {te : TE} {α β γ ρ : Type} {c1 : Cod α} {c2 : Cod β} {R : RR ρ} {P : Pst ρ} {tz : TS} {i j : Nat}
theorem ev_callT2 {ca : CodA γ} {a : γ} {pre : γ → Prop} {f : γ → Option (List α × List β)} {C : Addr} {tr : TA} {E : XK} {d : List α × List β} (h : EvA Γ tr ca a) (hp : pre a) (hd : f a = some d) :
    Ev Γ (tCall (SpT2 ca pre c1 c2 f C) [] E tr) (cPair K (cList K c1) (cList K c2)) d := fun F H σ S Q q =>
  h F H σ S _ fun vs F1 H1 e1 r1 => ⟨F1, a, e1.i, by rw [List.append_nil]; exact r1, hp, fun d' v F' H' e e2 r2 => by
    rw [hd] at e; cases e
    obtain ⟨t, p1, p2, rfl, ht, n, ⟨z1, f1, ws1, h1, g1⟩, ⟨z2, f2, ws2, h2, g2⟩⟩ := r2
    have x1 : Ex F' (upd F' p1 (.lst ws1)) := Ex.new f1
    have n2 : upd F' p1 (.lst ws1) p2 = none := by rw [upd_ne n.symm]; exact f2
    have x2 : Ex (upd F' p1 (.lst ws1)) (upd (upd F' p1 (.lst ws1)) p2 (.lst ws2)) := Ex.new n2
    have xx := x1.trans x2
    have ee := e1.trans e2
    have w : Ext F H (upd (upd F' p1 (.lst ws1)) p2 (.lst ws2)) H' := ⟨ee.f.trans xx, ee.h, ex_add (ex_add ee.i h1) h2, fun b o hb => by
      by_cases y : b = p2
      · subst y; exact .inr (e1.h.free z2)
      rw [upd_ne y] at hb
      by_cases y : b = p1
      · subst y; exact .inr (e1.h.free z1)
      rw [upd_ne y] at hb
      exact ee.n b o hb⟩
    exact q _ _ H' w ⟨t, _, rfl, .inl (.inl (xx t _ ht)), _, _, rfl, ⟨p1, ws1, rfl, .inl (.inl (x2 p1 _ upd_same)), g1.mono xx⟩, _, _, rfl, ⟨p2, ws2, rfl, .inl (.inl upd_same), g2.mono xx⟩, rfl⟩,
    fun e => by rw [hd] at e; cases e⟩
theorem sw_tryT2 {ca : CodA γ} {a : γ} {pre : γ → Prop} {f : γ → Option (List α × List β)} {C : Addr} {cv : Value} {tr : TA} (h : EvA Γ tr ca a) (hp : pre a) (hn : f a = none) (hx : PySem.W.exmOne K (.ref C) cv = some true) (hi : i < Γ.length)
    (k : P.nx (((Γ.set i .any).set j (.val cExc C)).set i .any)) : SW R Γ (tTryH K cv i j (SpT2 ca pre c1 c2 f C) tr) P := fun F0 H0 F H σ D S o =>
  h F H σ S.sl _ fun vs F1 H1 e1 r1 => ⟨F1, a, e1.i, r1, hp, fun b v F' H' e => (by rw [hn] at e; cases e), fun _ F' H' e2 => ⟨true, hx, fun _ x nx => by
    have S2 := (S.grow e1).grow e2
    have S3 := S2.grow (Ext.new (o := ExV (.ref C) none x) e2.i nx)
    have hi' : i < σ.length := by rw [S.sl.len]; exact hi
    refine ⟨.ref x, by rw [List.getElem?_set_self hi'], ?_⟩
    show D.nx (((σ.set i (some (.ref x))).set j (some (.ref x))).set i none) (upd H' x (ExV (.ref C) none x))
    refine o.nx (upd F' x (ExV (.ref C) none x)) _ _ _ ?_ k
    exact ((S3.set (e := .any) (i := i) (s := some (.ref x)) (fun h => h) trivial).setV (c := cExc) (d := C) (i := j) ⟨x, rfl, upd_same⟩).set (e := .any) (i := i) (s := none) (fun h => h) trivial, fun q => nomatch q⟩⟩
theorem q_tryT2 {ca : CodA γ} {a : γ} {pre : γ → Prop} {f : γ → Option (List α × List β)} {C : Addr} {cv : Value} {tr : TA} (h : EvA Γ tr ca a) (hp : pre a) (hn : f a = none) (hx : PySem.W.exmOne K (.ref C) cv = some true) (hi : i < Γ.length)
    (k : SW R (((Γ.set i .any).set j (.val cExc C)).set i .any) tz P) : SW R Γ (tSeq (tTryH K cv i j (SpT2 ca pre c1 c2 f C) tr) tz) P := sw_seq (sw_tryT2 h hp hn hx hi k)
end
end Pw

/-! appending to a list owned aside -/
namespace Pw
open PySem PySem.Spec PyProof.Rows L2
section
variable {K : PySem.W.Frag} {Γ : Gam} {te : TE} {α β γ ρ : Type} {c1 : Cod α} {c2 : Cod β} {d : α} {d2 : β} {R : RR ρ} {P : Pst ρ} {tz : TS} {i j : Nat} {p1 p2 : Addr} {ds1 : List α} {ds2 : List β}
theorem stt_aside {F0 H0 F H : Hp} {σ : L2.St} {p : Addr} {o : HO} (S : Stt F0 H0 F H σ Γ) (hF : F p = none) (h0 : H0 p = none) (ho : ∀ (l : Nat) q, IsOwn Γ[l]? → σ[l]? = some (some (.ref q)) → q ≠ p) : Stt F0 H0 F (upd H p o) σ Γ := by
  refine ⟨⟨S.sl.ex.mut hF, S.sl.len, fun x s f e1 e2 => ?_, S.sl.dis⟩, S.f, S.h.mut h0, S.n, S.own⟩
  have ok := S.sl.ok x s f e1 e2
  cases f with
  | any => trivial
  | val c' d' => exact ok
  | ob c' ds' =>
    obtain ⟨p', vs', k1, k2, k3, k4⟩ := ok
    subst k1
    exact ⟨p', vs', rfl, k2, by rw [upd_ne (ho x p' (by rw [e2]; trivial) e1)]; exact k3, k4⟩
theorem swr_app1 (e : Γ[i]? = some (.val cRaw2 (p1, p2))) (h : Ev Γ te c1 d) (hz : ds1.length < 1000000) (k : SWr R c1 c2 p1 p2 (ds1 ++ [d]) ds2 Γ tz P) :
    SWr R c1 c2 p1 p2 ds1 ds2 Γ (tSeq (tDrop (tBM K "list" rAppend (tOp (rIxT K) (tVar i) (tC (.int 0))) (tCons te tNil))) tz) P := fun F0 H0 F H σ D S w o => by
  obtain ⟨v, hv, t, rfl, ht⟩ := S.sl.var e
  obtain ⟨w1, a1, b1⟩ := w.h1
  refine ⟨.ref t, hv, t, [.ref p1, .ref p2], 0, .ref p1, rfl, rfl, .inl (.inl (S.sl.ex t _ ht)), rfl, .inl ⟨rfl, w1, .inl (.inl a1)⟩, h F H σ S.sl _ fun x F1 H1 e1 r1 => ?_⟩
  have w' := w.grow e1
  have S1 := S.grow e1
  refine ⟨p1, w1, x, rfl, rfl, e1.h _ _ a1, by rw [b1.len]; exact sz_lt hz, ?_⟩
  have S2 := stt_aside (o := .lst (w1 ++ [x])) S1 w'.f1 w.z1 fun l q oq hq => (w.o l q oq hq).1
  obtain ⟨w2, a2, b2⟩ := w'.h2
  exact k F0 H0 F1 _ σ D S2 ⟨w.n, w'.f1, w'.f2, w.z1, w.z2, ⟨_, upd_same, (b1.mono e1.f).append (Reps.one r1)⟩, ⟨w2, by rw [upd_ne w.n.symm]; exact a2, b2⟩, w.o⟩ o
theorem swr_app2 (e : Γ[i]? = some (.val cRaw2 (p1, p2))) (h : Ev Γ te c2 d2) (hz : ds2.length < 1000000) (k : SWr R c1 c2 p1 p2 ds1 (ds2 ++ [d2]) Γ tz P) :
    SWr R c1 c2 p1 p2 ds1 ds2 Γ (tSeq (tDrop (tBM K "list" rAppend (tOp (rIxT K) (tVar i) (tC (.int 1))) (tCons te tNil))) tz) P := fun F0 H0 F H σ D S w o => by
  obtain ⟨v, hv, t, rfl, ht⟩ := S.sl.var e
  obtain ⟨w2, a2, b2⟩ := w.h2
  refine ⟨.ref t, hv, t, [.ref p1, .ref p2], 1, .ref p2, rfl, rfl, .inl (.inl (S.sl.ex t _ ht)), rfl, .inl ⟨rfl, w2, .inl (.inl a2)⟩, h F H σ S.sl _ fun x F1 H1 e1 r1 => ?_⟩
  have w' := w.grow e1
  have S1 := S.grow e1
  refine ⟨p2, w2, x, rfl, rfl, e1.h _ _ a2, by rw [b2.len]; exact sz_lt hz, ?_⟩
  have S2 := stt_aside (o := .lst (w2 ++ [x])) S1 w'.f2 w.z2 fun l q oq hq => (w.o l q oq hq).2
  obtain ⟨w1, a1, b1⟩ := w'.h1
  exact k F0 H0 F1 _ σ D S2 ⟨w.n, w'.f1, w'.f2, w.z1, w.z2, ⟨w1, by rw [upd_ne w.n]; exact a1, b1⟩, ⟨_, upd_same, (b2.mono e1.f).append (Reps.one r1)⟩, w.o⟩ o
theorem swr_app2E (e : Γ[i]? = some (.val cRaw2 (p1, p2))) (h : Ev Γ te c2 d2) (hz : ds2.length < 1000000) (k : P.nx Γ) :
    SWr R c1 c2 p1 p2 ds1 ds2 Γ (tDrop (tBM K "list" rAppend (tOp (rIxT K) (tVar i) (tC (.int 1))) (tCons te tNil))) P := fun F0 H0 F H σ D S w o => by
  obtain ⟨v, hv, t, rfl, ht⟩ := S.sl.var e
  obtain ⟨w2, a2, b2⟩ := w.h2
  refine ⟨.ref t, hv, t, [.ref p1, .ref p2], 1, .ref p2, rfl, rfl, .inl (.inl (S.sl.ex t _ ht)), rfl, .inl ⟨rfl, w2, .inl (.inl a2)⟩, h F H σ S.sl _ fun x F1 H1 e1 r1 => ?_⟩
  have w' := w.grow e1
  have S1 := S.grow e1
  refine ⟨p2, w2, x, rfl, rfl, e1.h _ _ a2, by rw [b2.len]; exact sz_lt hz, ?_⟩
  have S2 := stt_aside (o := .lst (w2 ++ [x])) S1 w'.f2 w.z2 fun l q oq hq => (w.o l q oq hq).2
  exact o.nx F1 _ _ _ S2 k
/-- done with them -/
theorem swr_done {t : TS} (h : SW R Γ t P) : SWr R c1 c2 p1 p2 ds1 ds2 Γ t P := fun F0 H0 F H σ D S _ o => h F0 H0 F H σ D S o
end
end Pw

/-! a tuple of (a tuple of two new lists, None), or of (None, an error): told and taken apart -/
namespace Pw
open PySem PySem.Spec PyProof.Rows L2
def rT2O {β γ : Type} (c1 : Cod β) (c2 : Cod γ) (C : Addr) : RR (Option (List β × List γ)) := fun H0 F H v d => ∃ t0, v = .ref t0 ∧ match d with
  | some d => ∃ t, F t0 = some (.tup [.ref t, .non]) ∧ rT2 c1 c2 H0 F H (.ref t) d
  | none => ∃ a, F t0 = some (.tup [.non, .ref a]) ∧ F a = some (ExV (.ref C) none a)
def SpT2O {α β γ : Type} (ca : CodA α) (pre : α → Prop) (c1 : Cod β) (c2 : Cod γ) (f : α → Option (List β × List γ)) (C : Addr) : Sp := fun vs H Q _ => ∃ F a, Ex F H ∧ ca.rep F vs a ∧ pre a ∧
  ∀ v F' H', Ext F H F' H' → rT2O c1 c2 C H F' H' v (f a) → Q v H'
section
variable {α β γ : Type} {ca : CodA α} {pre : α → Prop} {c1 : Cod β} {c2 : Cod γ} {t : TS} {vs : List V} {H : Hp} {Q : VK} {E : XK} {N : List Str}
theorem body_T2O {f : α → Option (List β × List γ)} {C : Addr} (m : Nat) (h : ∀ a, pre a → SW (rT2O c1 c2 C) (ca.env a ++ List.replicate m .any) t (PF (f a))) (hN : ∀ a, N.length = (ca.env a).length + m) (hs : SpT2O ca pre c1 c2 f C vs H Q E) : t (ends Q) (start N vs) H := by
  obtain ⟨F, a, e, r, hp, q⟩ := hs
  exact h a hp F H F H _ _ (stt_start e r m (hN a)) ⟨fun _ _ _ _ _ z => z.elim, fun F' H' v d x r z => by subst z; exact q v F' H' x r, fun _ _ _ _ _ z => z.elim, fun _ _ _ _ _ z => z.elim, fun _ _ _ z => z.elim⟩
theorem len_T2O {f : α → Option (List β × List γ)} {C : Addr} {n : Nat} (hn : ∀ a, (ca.env a).length = n) (hs : SpT2O ca pre c1 c2 f C vs H Q E) : vs.length = n := by
  obtain ⟨F, a, e, r, _⟩ := hs; rw [ca.len r, hn]
end
section
variable {K : PySem.W.Frag} {Γ : Gam} {ta tb tc te : TE} {α β γ ρ : Type} {c1 : Cod α} {c2 : Cod β} {R : RR ρ} {t u tz : TS} {i j l : Nat} {ds1 : List α} {ds2 : List β} {p1 p2 : Addr}
theorem own2_new {F0 H0 F H F' H' : Hp} {σ : L2.St} {d : List α × List β} {v : V} {t : Addr} (S : Stt F0 H0 F H σ Γ) (e2 : Ext F H F' H') (hi : ¬ IsOwn Γ[i]?) (r2 : rT2 c1 c2 H F' H' (.ref t) d) :
    ∃ p1 p2, F' t = some (.tup [.ref p1, .ref p2]) ∧ Stt F0 H0 F' H' (σ.set i (some (.ref t))) (Γ.set i (.val cRaw2 (p1, p2))) ∧ Own2 c1 c2 F' H0 H' (σ.set i (some (.ref t))) (Γ.set i (.val cRaw2 (p1, p2))) p1 p2 d.1 d.2 := by
  obtain ⟨t', p1, p2, et, ht, n, ⟨z1, f1, ws1, h1, g1⟩, ⟨z2, f2, ws2, h2, g2⟩⟩ := r2
  cases et
  have S2 := S.grow e2
  have S3 : Stt F0 H0 F' H' (σ.set i (some (.ref t))) (Γ.set i (.val cRaw2 (p1, p2))) := S2.setV ⟨t, rfl, ht⟩
  refine ⟨p1, p2, ht, S3, ⟨n, f1, f2, S.h.free z1, S.h.free z2, ⟨ws1, h1, g1⟩, ⟨ws2, h2, g2⟩, fun x p ox hx => ?_⟩⟩
  have ox' : i ≠ x ∧ IsOwn Γ[x]? := by
    rw [List.getElem?_set] at ox
    by_cases z : i = x
    · subst z
      by_cases y : i < Γ.length
      · rw [if_pos rfl, if_pos y] at ox; exact ox.elim
      · rw [if_pos rfl, if_neg y] at ox; exact ox.elim
    · rw [if_neg z] at ox; exact ⟨z, ox⟩
  rw [List.getElem?_set_ne ox'.1] at hx
  cases q : Γ[x]? with
  | none => rw [q] at ox'; exact ox'.2.elim
  | some en =>
    cases en with
    | any => rw [q] at ox'; exact ox'.2.elim
    | val _ _ => rw [q] at ox'; exact ox'.2.elim
    | ob c' ds' =>
      obtain ⟨p', vs', y1, y2, y3, y4⟩ := S.sl.obj q
      rw [hx] at y1; cases y1
      exact ⟨fun z => (by subst z; rw [z1] at y3; cases y3), fun z => (by subst z; rw [z2] at y3; cases y3)⟩
theorem q_tryT2A {P : Pst ρ} {ca : CodA γ} {a : γ} {pre : γ → Prop} {f : γ → Option (List α × List β)} {C : Addr} {cv : Value} {tr : TA} (h : EvA Γ tr ca a) (hp : pre a) (hx : PySem.W.exmOne K (.ref C) cv = some true) (hi : i < Γ.length) (hl : ¬ IsOwn Γ[l]?)
    (k1 : ∀ d, f a = some d → ∀ p1 p2, SWr R c1 c2 p1 p2 d.1 d.2 (Γ.set l (.val cRaw2 (p1, p2))) tz P) (k2 : f a = none → SW R (((Γ.set i .any).set j (.val cExc C)).set i .any) tz P) :
    SW R Γ (tSeq (tTryA K cv i j l (SpT2 ca pre c1 c2 f C) tr) tz) P := fun F0 H0 F H σ D S o =>
  h F H σ S.sl _ fun vs F1 H1 e1 r1 => ⟨F1, a, e1.i, r1, hp, fun d v F' H' e e2 r2 => by
    have r2' := r2
    obtain ⟨t, _, _, rfl, _⟩ := r2'
    obtain ⟨p1, p2, _, S3, W⟩ := own2_new (i := l) (v := .ref t) (S.grow e1) e2 hl r2
    exact k1 d e p1 p2 F0 H0 F' H' _ D S3 W o, fun hn F' H' e2 => ⟨true, hx, fun _ x nx => by
    have S2 := (S.grow e1).grow e2
    have S3 := S2.grow (Ext.new (o := ExV (.ref C) none x) e2.i nx)
    have hi' : i < σ.length := by rw [S.sl.len]; exact hi
    refine ⟨.ref x, by rw [List.getElem?_set_self hi'], ?_⟩
    show tz D (((σ.set i (some (.ref x))).set j (some (.ref x))).set i none) (upd H' x (ExV (.ref C) none x))
    refine k2 hn F0 H0 (upd F' x (ExV (.ref C) none x)) _ _ D ?_ o
    exact ((S3.set (e := .any) (i := i) (s := some (.ref x)) (fun h => h) trivial).setV (c := cExc) (d := C) (i := j) ⟨x, rfl, upd_same⟩).set (e := .any) (i := i) (s := none) (fun h => h) trivial, fun q => nomatch q⟩⟩
/-- return (x, None), x the tuple of the two -/
theorem swr_retT2O {P : Pst (Option (List α × List β))} {C : Addr} {x : Unit} (e : Γ[i]? = some (.val cRaw2 (p1, p2))) (e2 : Γ[j]? = some (.val cNon x)) (k : P.rt (some (ds1, ds2))) : SWr (rT2O c1 c2 C) c1 c2 p1 p2 ds1 ds2 Γ (tRet (tTup (tCons (tVar i) (tCons (tVar j) tNil)))) P := fun F0 H0 F H σ D S w o => by
  obtain ⟨v, hv, t, rfl, ht⟩ := S.sl.var e
  obtain ⟨v2, hv2, r2⟩ := S.sl.var e2
  cases (show v2 = .non from r2)
  refine ⟨.ref t, hv, .non, hv2, sz_of (by decide : 2 ≤ 1000000), fun q hq => ?_⟩
  have en : Ext F H (upd F q (.tup [.ref t, .non])) (upd H q (.tup [.ref t, .non])) := Ext.new S.sl.ex hq
  have S3 := S.grow en
  have w3 := w.grow en
  refine o.rt _ _ _ (some (ds1, ds2)) S3.ext ⟨q, rfl, t, upd_same, t, p1, p2, rfl, en.f _ _ ht, w.n, ⟨w.z1, w3.f1, w3.h1⟩, ⟨w.z2, w3.f2, w3.h2⟩⟩ k
/-- return (None, e) -/
theorem sw_retT2N {P : Pst (Option (List α × List β))} {C : Addr} {x : Unit} (e : Γ[i]? = some (.val cNon x)) (e2 : Γ[j]? = some (.val cExc C)) (k : P.rt none) : SW (rT2O c1 c2 C) Γ (tRet (tTup (tCons (tVar i) (tCons (tVar j) tNil)))) P := fun F0 H0 F H σ D S o => by
  obtain ⟨v, hv, r⟩ := S.sl.var e
  cases (show v = .non from r)
  obtain ⟨v2, hv2, t, rfl, ht⟩ := S.sl.var e2
  refine ⟨.non, hv, .ref t, hv2, sz_of (by decide : 2 ≤ 1000000), fun q hq => ?_⟩
  have en : Ext F H (upd F q (.tup [.non, .ref t])) (upd H q (.tup [.non, .ref t])) := Ext.new S.sl.ex hq
  exact o.rt _ _ _ none (S.grow en).ext ⟨q, rfl, t, upd_same, en.f _ _ ht⟩ k
/-- x, e = f(..) -/
theorem q_unT2O {P : Pst ρ} {ca : CodA γ} {a : γ} {pre : γ → Prop} {f : γ → Option (List α × List β)} {C : Addr} {tr : TA} {E : XK} (h : EvA Γ tr ca a) (hp : pre a) (hi : ¬ IsOwn Γ[i]?) (hj : ¬ IsOwn Γ[j]?) (hij : i ≠ j)
    (k1 : ∀ d, f a = some d → ∀ p1 p2, SWr R c1 c2 p1 p2 d.1 d.2 ((Γ.set i (.val cRaw2 (p1, p2))).set j (.val (cOpt cExc) none)) tz P) (k2 : f a = none → SW R ((Γ.set i .any).set j (.val (cOpt cExc) (some C))) tz P) :
    SW R Γ (tSeq (tAsg (tCall (SpT2O ca pre c1 c2 f C) [] E tr) (gTup K 2 (gCons (gName i) (gCons (gName j) gNil)))) tz) P := fun F0 H0 F H σ D S o =>
  h F H σ S.sl _ fun vs F1 H1 e1 r1 => ⟨F1, a, e1.i, by rw [List.append_nil]; exact r1, hp, fun v F' H' e2 r2 => by
    obtain ⟨t0, rfl, r2⟩ := r2
    have S1 := S.grow e1
    rcases q : f a with _ | d
    · rw [q] at r2
      obtain ⟨x, ht0, hx⟩ := r2
      refine ⟨t0, _, rfl, .inl (.inl (e2.i _ _ ht0)), rfl, .non, _, rfl, .ref x, _, rfl, rfl, ?_⟩
      refine k2 q F0 H0 F' H' _ D ?_ o
      exact ((S1.grow e2).set (e := .any) (i := i) (s := some .non) (fun h => h) trivial).setV (c := cOpt cExc) (d := some C) (i := j) ⟨x, rfl, hx⟩
    · rw [q] at r2
      obtain ⟨t, ht0, r3⟩ := r2
      refine ⟨t0, _, rfl, .inl (.inl (e2.i _ _ ht0)), rfl, .ref t, _, rfl, .non, _, rfl, rfl, ?_⟩
      obtain ⟨p1, p2, ht, S3, W⟩ := own2_new (i := i) (v := .ref t) S1 e2 hi r3
      refine k1 d q p1 p2 F0 H0 F' H' _ D (S3.setV (c := cOpt cExc) (d := none) (i := j) rfl) ⟨W.n, W.f1, W.f2, W.z1, W.z2, W.h1, W.h2, fun x p ox hx => ?_⟩ o
      rw [List.getElem?_set] at ox hx
      by_cases z : j = x
      · subst z
        by_cases y : j < (Γ.set i (.val cRaw2 (p1, p2))).length
        · rw [if_pos rfl, if_pos y] at ox; exact ox.elim
        · rw [if_pos rfl, if_neg y] at ox; exact ox.elim
      · rw [if_neg z] at ox hx; exact W.o x p ox hx⟩
/-- return (new, one's own) -/
theorem sw_retT2R {P : Pst (List α × List β)} (h1 : EvN Γ ta c1 ds1) (e2' : Γ[i]? = some (.own c2 ds2)) (k : P.rt (ds1, ds2)) : SW (rT2 c1 c2) Γ (tRet (tTup (tCons ta (tCons (tVar i) tNil)))) P := fun F0 H0 F H σ D S o =>
  h1 F H σ S.sl _ fun p1 vs1 F1 H1 e1 a1 b1 d1 r1 => by
    have S1 := S.grow e1
    obtain ⟨p2, vs2, s2, b2, d2, r2⟩ := S1.sl.owned e2'
    have h02 : H0 p2 = none := S1.own i p2 (by rw [e2']; trivial) s2
    have hp2 : H p2 ≠ none := by
      obtain ⟨p', vs', y1, y2, y3, y4⟩ := S.sl.owned e2'
      rw [s2] at y1; cases y1
      rw [y3]; simp
    refine ⟨.ref p2, s2, sz_of (by decide : 2 ≤ 1000000), fun q hq => ?_⟩
    have n12 : p1 ≠ p2 := fun z => by subst z; exact hp2 a1
    have q1 : p1 ≠ q := fun z => by rw [z, hq] at d1; cases d1
    have q2 : p2 ≠ q := fun z => by rw [z, hq] at d2; cases d2
    have en : Ext F1 H1 (upd F1 q (.tup [.ref p1, .ref p2])) (upd H1 q (.tup [.ref p1, .ref p2])) := Ext.new e1.i hq
    exact o.rt _ _ _ (ds1, ds2) (S1.grow en).ext ⟨q, p1, p2, rfl, upd_same, n12, ⟨S.h.free a1, by rw [upd_ne q1]; exact b1, vs1, by rw [upd_ne q1]; exact d1, r1.mono en.f⟩, ⟨h02, by rw [upd_ne q2]; exact b2, vs2, by rw [upd_ne q2]; exact d2, r2.mono en.f⟩⟩ k
/-- a new list of what a list of one's own holds -/
theorem evN_listO {K : PySem.W.Frag} {c : Cod α} {ds : List α} {k : Nat} (h1 : Γ[k]? = some (.own c ds)) : EvN Γ (tCB (rListQ K) (tCons (tVar k) tNil)) c ds := fun F H σ S Q q => by
  obtain ⟨p, vs, k1, k2, k3, k4⟩ := S.owned h1
  exact ⟨.ref p, k1, p, vs, rfl, .inl (.inl (.inl k3)), fun l hl => q l vs F _ (Ext.aside S.ex hl) hl (S.ex.free hl) upd_same k4⟩
end
end Pw

/-! a tuple of new lists of one kind: promised, lent, changed one by one -/
namespace Pw
open PySem PySem.Spec PyProof.Rows L2
abbrev Os (α : Type) := List (Addr × List α)
/-- new lists, of which nobody else knows -/
def NewL {α : Type} (c : Cod α) (F H0 H : Hp) (os : Os α) : Prop := (os.map Prod.fst).Nodup ∧ ∀ o ∈ os, F o.1 = none ∧ H0 o.1 = none ∧ ∃ ws, H o.1 = some (.lst ws) ∧ Reps c F ws o.2
def refs {α : Type} (os : Os α) : List V := os.map fun o => V.ref o.1
def rTn {β : Type} (c : Cod β) : RR (List (List β)) := fun H0 F H v dss => ∃ t os, v = .ref t ∧ F t = some (.tup (refs os)) ∧ NewL c F H0 H os ∧ os.map Prod.snd = dss
def SpTn {α β : Type} (ca : CodA α) (pre : α → Prop) (c : Cod β) (f : α → List (List β)) : Sp := fun vs H Q _ => ∃ F a, Ex F H ∧ ca.rep F vs a ∧ pre a ∧ ∀ v F' H', Ext F H F' H' → rTn c H F' H' v (f a) → Q v H'
section
variable {α β : Type} {ca : CodA α} {pre : α → Prop} {c : Cod β} {t : TS} {vs : List V} {H : Hp} {Q : VK} {E : XK} {N : List Str}
theorem body_Tn {f : α → List (List β)} (m : Nat) (h : ∀ a, pre a → SW (rTn c) (ca.env a ++ List.replicate m .any) t (PF (f a))) (hN : ∀ a, N.length = (ca.env a).length + m) (hs : SpTn ca pre c f vs H Q E) : t (ends Q) (start N vs) H := by
  obtain ⟨F, a, e, r, hp, q⟩ := hs
  exact h a hp F H F H _ _ (stt_start e r m (hN a)) ⟨fun _ _ _ _ _ z => z.elim, fun F' H' v d x r z => by subst z; exact q v F' H' x r, fun _ _ _ _ _ z => z.elim, fun _ _ _ _ _ z => z.elim, fun _ _ _ z => z.elim⟩
theorem len_Tn {f : α → List (List β)} {n : Nat} (hn : ∀ a, (ca.env a).length = n) (hs : SpTn ca pre c f vs H Q E) : vs.length = n := by
  obtain ⟨F, a, e, r, _⟩ := hs; rw [ca.len r, hn]
end
section
variable {α : Type} {c : Cod α}
theorem NewL.grow {F H0 H F' H' : Hp} {os : Os α} (h : NewL c F H0 H os) (e : Ext F H F' H') : NewL c F' H0 H' os :=
  ⟨h.1, fun o ho => by obtain ⟨a, b, ws, x, y⟩ := h.2 o ho; exact ⟨fr_grow e a x, b, ws, e.h _ _ x, y.mono e.f⟩⟩
/-- all of them put into the lasting heap -/
theorem NewL.frame : ∀ {os : Os α} {F H0 H : Hp}, Ex F H → NewL c F H0 H os → ∃ F', Ex F F' ∧ Ex F' H ∧ (∀ o ∈ os, ∃ ws, F' o.1 = some (.lst ws) ∧ Reps c F' ws o.2) ∧ (∀ a o, F' a = some o → F a = some o ∨ ∃ x ∈ os, x.1 = a) ∧ (∀ a, (∀ o ∈ os, a ≠ o.1) → F' a = F a)
  | [], F, _, _, e, _ => ⟨F, Ex.refl _, e, fun o ho => (by cases ho), fun _ _ h => .inl h, fun _ _ => rfl⟩
  | o :: os, F, H0, H, e, h => by
    have hn := h.1
    rw [List.map_cons, List.nodup_cons] at hn
    obtain ⟨a, b, ws, x, y⟩ := h.2 o List.mem_cons_self
    have h1 : Ex F (upd F o.1 (.lst ws)) := Ex.new a
    have hne : ∀ o' ∈ os, o'.1 ≠ o.1 := fun o' ho' z => hn.1 (List.mem_map.mpr ⟨o', ho', z⟩)
    have ne : NewL c (upd F o.1 (.lst ws)) H0 H os := ⟨hn.2, fun o' ho' => by
      obtain ⟨a', b', ws', x', y'⟩ := h.2 o' (List.mem_cons_of_mem _ ho')
      exact ⟨by rw [upd_ne (hne o' ho')]; exact a', b', ws', x', y'.mono h1⟩⟩
    obtain ⟨F', f1, f2, f3, f4, f5⟩ := NewL.frame (ex_add e x) ne
    refine ⟨F', h1.trans f1, f2, fun o' ho' => ?_, fun p q hq => ?_, fun p hp => ?_⟩
    · rcases List.mem_cons.mp ho' with z | z
      · subst z; exact ⟨ws, f1 _ _ upd_same, y.mono (h1.trans f1)⟩
      · exact f3 o' z
    · rcases f4 p q hq with z | ⟨o', z1, z2⟩
      · by_cases w : p = o.1
        · exact .inr ⟨o, List.mem_cons_self, w.symm⟩
        · rw [upd_ne w] at z; exact .inl z
      · exact .inr ⟨o', List.mem_cons_of_mem _ z1, z2⟩
    · rw [f5 p fun o' ho' => hp o' (List.mem_cons_of_mem _ ho'), upd_ne (hp o List.mem_cons_self)]
end
/-- a tuple of refs -/
def cRawT : Cod (List V) := ⟨fun F v vs => ∃ t, v = .ref t ∧ F t = some (.tup vs), fun e ⟨t, h1, h2⟩ => ⟨t, h1, e t _ h2⟩⟩
structure OwnS {α : Type} (c : Cod α) (F H0 H : Hp) (σ : L2.St) (Γ : Gam) (os : Os α) : Prop where
  n : NewL c F H0 H os
  o : ∀ (l : Nat) p, IsOwn Γ[l]? → σ[l]? = some (some (.ref p)) → ∀ o ∈ os, p ≠ o.1
theorem OwnS.grow {α : Type} {c : Cod α} {F H0 H F' H' : Hp} {σ : L2.St} {Γ : Gam} {os : Os α} (w : OwnS c F H0 H σ Γ os) (e : Ext F H F' H') : OwnS c F' H0 H' σ Γ os := ⟨w.n.grow e, w.o⟩
def SWs {α β : Type} (R : RR β) (c : Cod α) (os : Os α) (Γ : Gam) (t : TS) (P : Pst β) : Prop := ∀ F0 H0 F H σ D, Stt F0 H0 F H σ Γ → OwnS c F H0 H σ Γ os → Ob R P F0 H0 D → t D σ H
/-- list + list, any two -/
def rCatQ (K : PySem.W.Frag) : R2 := fun x y H Q => ∃ l b xs zs, x = .ref l ∧ y = .ref b ∧ SqL K H l xs ∧ SqL K H b zs ∧ xs.length + zs.length ≤ sizeLine ∧ ∀ p, H p = none → Q (.ref p) (upd H p (.lst (xs ++ zs)))
section
variable {X : Cx}
theorem op_catL : OpR X (binaryOp .Add) (rCatQ X.K) := by
  intro pins s σ H x y v u Q I rx ry h
  obtain ⟨l, b, xs, zs, rfl, rfl, hH, hB, hz, q⟩ := h
  cases rx
  cases ry
  obtain ⟨its, r, ⟨⟨cls, dd, data, sl⟩, n, ho, hc, hdn, hd⟩, hl⟩ := I.list hH
  obtain ⟨its2, r2, ⟨⟨cls2, dd2, data2, sl2⟩, n2, ho2, hc2, hdn2, hd2⟩, hl2⟩ := I.list hB
  simp only at hc hd hc2 hd2
  subst hc hd hc2 hd2
  have e1 := r.length
  have e2 := r2.length
  refine concat_meets ⟨_, ho, rfl⟩ ⟨_, ho2, rfl⟩ noFill_list_add seq_list_add PySem.F.slot_list_add PySem.F.entry_list_add (PySem.F.args_list_add_2 _ _) (list_addW l b its.toArray its2.toArray n n2 dd dd2 sl sl2 (by simp only [List.size_toArray]; omega)) ⟨ho, ho2, ?_⟩
  have ea : its.toArray ++ its2.toArray = (its ++ its2).toArray := by simp
  rw [ea]
  exact ⟨.ref _, _, I.lnew (t' := s.toks) (r.append r2) (by rw [List.length_append]; omega), rfl, q _ I.fresh⟩
end
section
variable {K : PySem.W.Frag} {Γ : Gam} {ta tb tc te : TE} {α β γ ρ : Type} {c : Cod α} {d : α} {R : RR ρ} {P : Pst ρ} {t u tz : TS} {i j l : Nat} {ds1 ds2 ds3 : List α} {os : Os α} {p1 p2 p3 : Addr}
theorem upd_newL {F0 H0 F H : Hp} {σ : L2.St} {t : Addr} {os : Os α} (S : Stt F0 H0 F H σ Γ) (hi : ¬ IsOwn Γ[i]?) {H1 : Hp} (hH : ∀ o ∈ os, H1 o.1 = none) (hx : Ex H1 H → True) (w : ∀ (x : Nat) p, IsOwn Γ[x]? → σ[x]? = some (some (.ref p)) → H1 p ≠ none) :
    ∀ (x : Nat) p, IsOwn (Γ.set i (.val cRawT (refs os)))[x]? → (σ.set i (some (.ref t)))[x]? = some (some (.ref p)) → ∀ o ∈ os, p ≠ o.1 := fun x p ox hx o ho => by
  have ox' : i ≠ x ∧ IsOwn Γ[x]? := by
    rw [List.getElem?_set] at ox
    by_cases z : i = x
    · subst z
      by_cases y : i < Γ.length
      · rw [if_pos rfl, if_pos y] at ox; exact ox.elim
      · rw [if_pos rfl, if_neg y] at ox; exact ox.elim
    · rw [if_neg z] at ox; exact ⟨z, ox⟩
  rw [List.getElem?_set_ne ox'.1] at hx
  intro z
  subst z
  exact w x _ ox'.2 hx (hH o ho)
theorem own_live {F H : Hp} {σ : L2.St} (S : Sl F H σ Γ) (x : Nat) (p : Addr) (ox : IsOwn Γ[x]?) (hx : σ[x]? = some (some (.ref p))) : H p ≠ none := by
  cases q : Γ[x]? with
  | none => rw [q] at ox; exact ox.elim
  | some en =>
    cases en with
    | any => rw [q] at ox; exact ox.elim
    | val _ _ => rw [q] at ox; exact ox.elim
    | ob c' ds' =>
      obtain ⟨p', vs', y1, y2, y3, y4⟩ := S.obj q
      rw [hx] at y1; cases y1
      rw [y3]; simp
/-- x = f(..), a tuple of new lists; from here on they are owned aside -/
theorem q_callTn {ca : CodA γ} {a : γ} {pre : γ → Prop} {f : γ → List (List α)} {tr : TA} {E : XK} (h : EvA Γ tr ca a) (hp : pre a) (hi : ¬ IsOwn Γ[i]?)
    (k : ∀ os : Os α, os.map Prod.snd = f a → SWs R c os (Γ.set i (.val cRawT (refs os))) tz P) : SW R Γ (tSeq (tAsg (tCall (SpTn ca pre c f) [] E tr) (gName i)) tz) P := fun F0 H0 F H σ D S o =>
  h F H σ S.sl _ fun vs F1 H1 e1 r1 => ⟨F1, a, e1.i, by rw [List.append_nil]; exact r1, hp, fun v F' H' e2 r2 => by
    obtain ⟨t, os, rfl, ht, nl, hd⟩ := r2
    have S1 := S.grow e1
    have S2 := S1.grow e2
    have S3 : Stt F0 H0 F' H' (σ.set i (some (.ref t))) (Γ.set i (.val cRawT (refs os))) := S2.setV ⟨t, rfl, ht⟩
    refine k os hd F0 H0 F' H' _ D S3 ⟨⟨nl.1, fun o ho => ?_⟩, upd_newL (H1 := H1) S2 hi (fun o ho => (nl.2 o ho).2.1) (fun _ => trivial) fun x p ox hx => own_live S1.sl x p ox hx⟩ o
    obtain ⟨z1, z2, z3⟩ := nl.2 o ho
    exact ⟨z1, S1.h.free z2, z3⟩⟩
/-- .. as a lasting value -/
theorem ev_callTn {ca : CodA γ} {a : γ} {pre : γ → Prop} {f : γ → List (List α)} {tr : TA} {E : XK} (h : EvA Γ tr ca a) (hp : pre a) : Ev Γ (tCall (SpTn ca pre c f) [] E tr) (cTupL K (cList K c)) (f a) := fun F H σ S Q q =>
  h F H σ S _ fun vs F1 H1 e1 r1 => ⟨F1, a, e1.i, by rw [List.append_nil]; exact r1, hp, fun v F' H' e2 r2 => by
    obtain ⟨t, os, rfl, ht, nl, hd⟩ := r2
    obtain ⟨G, g1, g2, g3, g4, _⟩ := nl.frame e2.i
    refine q (.ref t) G H' ⟨(e1.f.trans e2.f).trans g1, e1.h.trans e2.h, g2, fun b x hb => ?_⟩ ⟨t, _, rfl, .inl (.inl (g1 _ _ ht)), ?_⟩
    · rcases g4 b x hb with z | ⟨o, ho, z⟩
      · exact (e1.trans e2).n b x z
      · subst z; exact .inr (e1.h.free (nl.2 o ho).2.1)
    · rw [← hd]
      have : ∀ os' : Os α, (∀ o ∈ os', o ∈ os) → Reps (cList K c) G (refs os') (os'.map Prod.snd) := fun os' => by
        induction os' with
        | nil => intro _; trivial
        | cons o os' ih =>
          intro hm
          obtain ⟨ws, k1, k2⟩ := g3 o (hm o List.mem_cons_self)
          exact ⟨⟨o.1, ws, rfl, .inl (.inl k1), k2⟩, ih fun o' ho' => hm o' (List.mem_cons_of_mem _ ho')⟩
      exact this os fun _ h => h⟩
theorem ev_callT3 {ca : CodA γ} {a : γ} {pre : γ → Prop} {f : γ → List (List α)} {tr : TA} {E : XK} (h : EvA Γ tr ca a) (hp : pre a) (hf : f a = [ds1, ds2, ds3]) : Ev Γ (tCall (SpTn ca pre c f) [] E tr) (cTri K (cList K c) (cList K c) (cList K c)) (ds1, ds2, ds3) :=
  ev_tri_of (ev_is (ev_callTn h hp) hf)
/-- lent -/
theorem evs_lend {F0 H0 F H : Hp} {σ : L2.St} {tt : TT} {b : Bool} {cX : Cod β} {x : β} (e : Γ[i]? = some (.val cRawT (refs os))) (S : Stt F0 H0 F H σ Γ) (w : OwnS c F H0 H σ Γ os)
    (hr : ∀ (G : Hp) (t : Addr), G t = some (.tup (refs os)) → (∀ o ∈ os, ∃ ws, G o.1 = some (.lst ws) ∧ Reps c G ws o.2) → cX.rep G (.ref t) x)
    (h : EvT (Γ.set i (.val cX x)) tt b) {Q : Bool → Hp → Prop} (q : ∀ F' H', Ext F H F' H' → Q b H') : tt σ H Q := by
  obtain ⟨v, hv, t, rfl, ht⟩ := S.sl.var e
  have il : i < Γ.length := (List.getElem?_eq_some_iff.mp e).1
  obtain ⟨G, g1, g2, g3, g4, g5⟩ := w.n.frame S.sl.ex
  have own' : ∀ y : Nat, IsOwn (Γ.set i (.val cX x))[y]? → IsOwn Γ[y]? := fun y hy => by
    rw [List.getElem?_set] at hy
    by_cases z : i = y
    · subst z; rw [if_pos rfl, if_pos il] at hy; exact hy.elim
    · rw [if_neg z] at hy; exact hy
  have sl : Sl G H σ (Γ.set i (.val cX x)) := by
    refine ⟨g2, by rw [List.length_set]; exact S.sl.len, fun y s f e1 e2 => ?_, fun a b q hab oa ob => S.sl.dis a b q hab (own' a oa) (own' b ob)⟩
    rw [List.getElem?_set] at e2
    by_cases z : i = y
    · subst z
      rw [if_pos rfl, if_pos il] at e2
      cases e2
      rw [hv] at e1; cases e1
      exact ⟨_, rfl, hr G t (g1 _ _ ht) g3⟩
    · rw [if_neg z] at e2
      have ok := S.sl.ok y s f e1 e2
      cases f with
      | any => trivial
      | val c' d' => obtain ⟨v, h1, h2⟩ := ok; exact ⟨v, h1, c'.mono g1 h2⟩
      | ob c' ds' =>
        obtain ⟨p', vs', h1, h2, h3, h4⟩ := ok
        subst h1
        have := w.o y p' (by rw [e2]; trivial) e1
        exact ⟨p', vs', rfl, by rw [g5 p' this]; exact h2, h3, c'.mono g1 h4⟩
  refine h _ H σ sl _ fun F' H' ee => ?_
  -- back to the frame
  refine q (fun a => match (decide (∃ o ∈ os, o.1 = a)) with | true => none | false => F' a) H' ⟨fun a o ha => ?_, ee.h, fun a o ha => ?_, fun a o ha => ?_⟩
  · have hn : ¬ ∃ o ∈ os, o.1 = a := fun ⟨o', ho', z⟩ => by
      rw [← z, (w.n.2 o' ho').1] at ha; cases ha
    simp only [decide_eq_false hn]
    exact ee.f a o (g1 a o ha)
  · by_cases hn : ∃ o ∈ os, o.1 = a
    · simp only [decide_eq_true hn] at ha; cases ha
    · simp only [decide_eq_false hn] at ha; exact ee.i a o ha
  · by_cases hn : ∃ o ∈ os, o.1 = a
    · simp only [decide_eq_true hn] at ha; cases ha
    · simp only [decide_eq_false hn] at ha
      rcases ee.n a o ha with z | z
      · rcases g4 a o z with y | ⟨o', y1, y2⟩
        · exact .inl y
        · exact (hn ⟨o', y1, y2⟩).elim
      · exact .inr z
/-- lent to a test as a triple -/
theorem sws_whenL3 {tt : TT} (e : Γ[i]? = some (.val cRawT (refs [(p1, ds1), (p2, ds2), (p3, ds3)]))) (h : EvT (Γ.set i (.val (cTri K (cList K c) (cList K c) (cList K c)) (ds1, ds2, ds3))) tt false)
    (k : SWs R c [(p1, ds1), (p2, ds2), (p3, ds3)] Γ tz P) : SWs R c [(p1, ds1), (p2, ds2), (p3, ds3)] Γ (tSeq (tIfS tt u tNext) tz) P := fun F0 H0 F H σ D S w o =>
  evs_lend e S w (fun G t ht hg => by
    obtain ⟨w1, a1, b1⟩ := hg _ List.mem_cons_self
    obtain ⟨w2, a2, b2⟩ := hg _ (List.mem_cons_of_mem _ List.mem_cons_self)
    obtain ⟨w3, a3, b3⟩ := hg _ (List.mem_cons_of_mem _ (List.mem_cons_of_mem _ List.mem_cons_self))
    exact ⟨t, _, rfl, .inl (.inl ht), _, _, rfl, ⟨p1, w1, rfl, .inl (.inl a1), b1⟩, _, _, rfl, ⟨p2, w2, rfl, .inl (.inl a2), b2⟩, _, _, rfl, ⟨p3, w3, rfl, .inl (.inl a3), b3⟩, rfl⟩) h fun F1 H1 e1 => iteF (k F0 H0 F1 H1 σ D (S.grow e1) (w.grow e1) o)
theorem sws_when {tt : TT} (h : EvT Γ tt false) (k : SWs R c os Γ tz P) : SWs R c os Γ (tSeq (tIfS tt u tNext) tz) P := fun F0 H0 F H σ D S w o =>
  h F H σ S.sl _ fun F1 H1 e1 => iteF (k F0 H0 F1 H1 σ D (S.grow e1) (w.grow e1) o)
theorem sws_asg {cX : Cod β} {x : β} (h : Ev Γ te cX x) (hj : ¬ IsOwn Γ[j]?) (k : SWs R c os (Γ.set j (.val cX x)) tz P) : SWs R c os Γ (tSeq (tAsg te (gName j)) tz) P := fun F0 H0 F H σ D S w o =>
  h F H σ S.sl _ fun v F1 H1 e1 r1 => k F0 H0 F1 H1 _ D ((S.grow e1).setV r1) ⟨(w.grow e1).n, fun l p ol hl => by
    rw [List.getElem?_set] at ol
    by_cases z : j = l
    · subst z
      by_cases y : j < Γ.length
      · rw [if_pos rfl, if_pos y] at ol; exact ol.elim
      · rw [if_pos rfl, if_neg y] at ol; exact ol.elim
    · rw [if_neg z] at ol; rw [List.getElem?_set_ne z] at hl; exact w.o l p ol hl⟩ o
/-- list(x[k]), as an expression amid lists owned aside -/
theorem evs_list {F0 H0 F H : Hp} {σ : L2.St} {k : Nat} {p : Addr} {ds : List α} (e : Γ[i]? = some (.val cRawT (refs os))) (hk : os[k]? = some (p, ds)) (S : Stt F0 H0 F H σ Γ) (w : OwnS c F H0 H σ Γ os) {Q : VK}
    (q : ∀ v F' H', Ext F H F' H' → (cList K c).rep F' v ds → Q v H') : tCB (rListQ K) (tCons (tOp (rIxT K) (tVar i) (tC (.int (k : Int)))) tNil) σ H Q := by
  obtain ⟨v, hv, t, rfl, ht⟩ := S.sl.var e
  have hm := List.mem_of_getElem? hk
  obtain ⟨f1, f2, ws, a1, b1⟩ := w.n.2 _ hm
  have hx : atI (refs os) (k : Int) = some (.ref p) := by
    refine atI_nat' ?_
    unfold refs
    rw [List.getElem?_map, hk]; rfl
  refine ⟨.ref t, hv, t, refs os, (k : Int), .ref p, rfl, rfl, .inl (.inl (S.sl.ex t _ ht)), hx, p, ws, rfl, .inl (.inl (.inl a1)), fun l hl => ?_⟩
  exact q _ _ _ (Ext.new S.sl.ex hl) ⟨l, ws, rfl, .inl (.inl upd_same), b1.mono (Ex.new (S.sl.ex.free hl))⟩
/-- y = [list(x[k]), list(x[m])] -/
theorem sws_held {k m : Nat} {q1 q2 : Addr} {ds ds' : List α} (e : Γ[i]? = some (.val cRawT (refs os))) (hk : os[k]? = some (q1, ds)) (hm : os[m]? = some (q2, ds')) (hj : ¬ IsOwn Γ[j]?) (hij : j ≠ i) (kk : SWs R c os (Γ.set j (.val (cList K (cList K c)) [ds, ds'])) tz P) :
    SWs R c os Γ (tSeq (tAsg (tLst (tCons (tCB (rListQ K) (tCons (tOp (rIxT K) (tVar i) (tC (.int (k : Int)))) tNil)) (tCons (tCB (rListQ K) (tCons (tOp (rIxT K) (tVar i) (tC (.int (m : Int)))) tNil)) tNil))) (gName j)) tz) P := fun F0 H0 F H σ D S w o =>
  evs_list (K := K) e hk S w fun v1 F1 H1 e1 r1 => evs_list (K := K) e hm (S.grow e1) (w.grow e1) fun v2 F2 H2 e2 r2 => ⟨sz_of (by decide : 2 ≤ 1000000), fun a ha => by
    have S2 := (S.grow e1).grow e2
    have en : Ext F2 H2 (upd F2 a (.lst [v1, v2])) (upd H2 a (.lst [v1, v2])) := Ext.new e2.i ha
    have w3 := (((w.grow e1).grow e2).grow en)
    refine kk F0 H0 _ _ _ D ((S2.grow en).setV (i := j) (c := cList K (cList K c)) (d := [ds, ds']) ⟨a, _, rfl, .inl (.inl upd_same), (cList K c).mono (e2.f.trans en.f) r1, (cList K c).mono en.f r2, trivial⟩) ⟨w3.n, fun l p ol hl => ?_⟩ o
    rw [List.getElem?_set] at ol
    by_cases z : j = l
    · subst z
      by_cases y : j < Γ.length
      · rw [if_pos rfl, if_pos y] at ol; exact ol.elim
      · rw [if_pos rfl, if_neg y] at ol; exact ol.elim
    · rw [if_neg z] at ol; rw [List.getElem?_set_ne z] at hl; exact w.o l p ol hl⟩
theorem stt_asides {F0 H0 F H : Hp} {σ : L2.St} {p : Addr} {ds ds' : List α} {ws : List V} {k : Nat} (S : Stt F0 H0 F H σ Γ) (w : OwnS c F H0 H σ Γ os) (hk : os[k]? = some (p, ds)) (hr : Reps c F ws ds') :
    Stt F0 H0 F (upd H p (.lst ws)) σ Γ ∧ OwnS c F H0 (upd H p (.lst ws)) σ Γ (os.set k (p, ds')) := by
  have hm := List.mem_of_getElem? hk
  have kl : k < os.length := (List.getElem?_eq_some_iff.mp hk).1
  obtain ⟨f1, f2, _⟩ := w.n.2 _ hm
  have en : (os.set k (p, ds')).map Prod.fst = os.map Prod.fst := by
    refine List.ext_getElem? fun x => ?_
    rw [List.getElem?_map, List.getElem?_map, List.getElem?_set]
    by_cases z : k = x
    · subst z; rw [if_pos rfl, if_pos kl, hk]; rfl
    · rw [if_neg z]
  refine ⟨stt_aside S f1 f2 fun l q oq hq => w.o l q oq hq _ hm, ⟨⟨by rw [en]; exact w.n.1, fun o ho => ?_⟩, fun l q oq hq o ho => ?_⟩⟩
  · obtain ⟨x, hx⟩ := List.getElem?_of_mem ho
    rw [List.getElem?_set] at hx
    by_cases z : k = x
    · subst z
      rw [if_pos rfl, if_pos kl] at hx
      cases hx
      exact ⟨f1, f2, ws, upd_same, hr⟩
    · rw [if_neg z] at hx
      have hm' := List.mem_of_getElem? hx
      obtain ⟨g1, g2, ws', g3, g4⟩ := w.n.2 _ hm'
      have ne : o.1 ≠ p := fun y => by
        have h1 : (os.map Prod.fst)[k]? = some p := by rw [List.getElem?_map, hk]; rfl
        have h2 : (os.map Prod.fst)[x]? = some p := by rw [List.getElem?_map, hx, ← y]; rfl
        have := (List.getElem?_inj (by rw [List.length_map]; exact kl) w.n.1).mp (h1.trans h2.symm)
        exact z this
      exact ⟨g1, g2, ws', by rw [upd_ne ne]; exact g3, g4⟩
  · have : o.1 ∈ os.map Prod.fst := by rw [← en]; exact List.mem_map.mpr ⟨o, ho, rfl⟩
    obtain ⟨o', ho', z⟩ := List.mem_map.mp this
    rw [← z]; exact w.o l q oq hq o' ho'
/-- x[k].append(e) -/
theorem sws_app {k : Nat} {p : Addr} {ds : List α} (e : Γ[i]? = some (.val cRawT (refs os))) (hk : os[k]? = some (p, ds)) (h : Ev Γ te c d) (hz : ds.length < 1000000) (kk : SWs R c (os.set k (p, ds ++ [d])) Γ tz P) :
    SWs R c os Γ (tSeq (tDrop (tBM K "list" rAppend (tOp (rIxT K) (tVar i) (tC (.int (k : Int)))) (tCons te tNil))) tz) P := fun F0 H0 F H σ D S w o => by
  obtain ⟨v, hv, t, rfl, ht⟩ := S.sl.var e
  obtain ⟨f1, f2, ws, a1, b1⟩ := w.n.2 _ (List.mem_of_getElem? hk)
  have hx : atI (refs os) (k : Int) = some (.ref p) := atI_nat' (by unfold refs; rw [List.getElem?_map, hk]; rfl)
  refine ⟨.ref t, hv, t, refs os, (k : Int), .ref p, rfl, rfl, .inl (.inl (S.sl.ex t _ ht)), hx, .inl ⟨rfl, ws, .inl (.inl a1)⟩, h F H σ S.sl _ fun x F1 H1 e1 r1 => ?_⟩
  refine ⟨p, ws, x, rfl, rfl, e1.h _ _ a1, by rw [b1.len]; exact sz_lt hz, ?_⟩
  obtain ⟨S2, w2⟩ := stt_asides (S.grow e1) (w.grow e1) hk ((b1.mono e1.f).append (Reps.one r1))
  exact kk F0 H0 F1 _ σ D S2 w2 o
theorem sws_appE {k : Nat} {p : Addr} {ds : List α} (e : Γ[i]? = some (.val cRawT (refs os))) (hk : os[k]? = some (p, ds)) (h : Ev Γ te c d) (hz : ds.length < 1000000) (kk : P.nx Γ) :
    SWs R c os Γ (tDrop (tBM K "list" rAppend (tOp (rIxT K) (tVar i) (tC (.int (k : Int)))) (tCons te tNil))) P := fun F0 H0 F H σ D S w o => by
  obtain ⟨v, hv, t, rfl, ht⟩ := S.sl.var e
  obtain ⟨f1, f2, ws, a1, b1⟩ := w.n.2 _ (List.mem_of_getElem? hk)
  have hx : atI (refs os) (k : Int) = some (.ref p) := atI_nat' (by unfold refs; rw [List.getElem?_map, hk]; rfl)
  refine ⟨.ref t, hv, t, refs os, (k : Int), .ref p, rfl, rfl, .inl (.inl (S.sl.ex t _ ht)), hx, .inl ⟨rfl, ws, .inl (.inl a1)⟩, h F H σ S.sl _ fun x F1 H1 e1 r1 => ?_⟩
  refine ⟨p, ws, x, rfl, rfl, e1.h _ _ a1, by rw [b1.len]; exact sz_lt hz, ?_⟩
  obtain ⟨S2, w2⟩ := stt_asides (S.grow e1) (w.grow e1) hk ((b1.mono e1.f).append (Reps.one r1))
  exact o.nx F1 _ _ _ S2 kk
/-- return (new, new, new) -/
theorem sw_retT3N {P : Pst (List (List α))} (h1 : EvN Γ ta c ds1) (h2 : EvN Γ tb c ds2) (h3 : EvN Γ tc c ds3) (k : P.rt [ds1, ds2, ds3]) : SW (rTn c) Γ (tRet (tTup (tCons ta (tCons tb (tCons tc tNil))))) P := fun F0 H0 F H σ D S o =>
  h1 F H σ S.sl _ fun p1 vs1 F1 H1 e1 a1 b1 d1 r1 => h2 F1 H1 σ (S.grow e1).sl _ fun p2 vs2 F2 H2 e2 a2 b2 d2 r2 => h3 F2 H2 σ ((S.grow e1).grow e2).sl _ fun p3 vs3 F3 H3 e3 a3 b3 d3 r3 => ⟨sz_of (by decide : 3 ≤ 1000000), fun q hq => by
    have z1 : H3 p1 = some (.lst vs1) := e3.h _ _ (e2.h _ _ d1)
    have z2 : H3 p2 = some (.lst vs2) := e3.h _ _ d2
    have f1 : F3 p1 = none := fr_grow (e2.trans e3) b1 d1
    have f2 : F3 p2 = none := fr_grow e3 b2 d2
    have n12 : p1 ≠ p2 := fun z => by rw [z, a2] at d1; cases d1
    have n13 : p1 ≠ p3 := fun z => by have := e2.h _ _ d1; rw [z, a3] at this; cases this
    have n23 : p2 ≠ p3 := fun z => by rw [z, a3] at d2; cases d2
    have q1 : p1 ≠ q := fun z => by rw [z, hq] at z1; cases z1
    have q2 : p2 ≠ q := fun z => by rw [z, hq] at z2; cases z2
    have q3 : p3 ≠ q := fun z => by rw [z, hq] at d3; cases d3
    have en : Ext F3 H3 (upd F3 q (.tup [.ref p1, .ref p2, .ref p3])) (upd H3 q (.tup [.ref p1, .ref p2, .ref p3])) := Ext.new e3.i hq
    refine o.rt _ _ _ [ds1, ds2, ds3] ((((S.grow e1).grow e2).grow e3).grow en).ext ⟨q, [(p1, ds1), (p2, ds2), (p3, ds3)], rfl, upd_same, ⟨by simp [n12, n13, n23], fun x hx => ?_⟩, rfl⟩ k
    simp only [List.mem_cons, List.not_mem_nil, or_false] at hx
    rcases hx with rfl | rfl | rfl
    · exact ⟨by rw [upd_ne q1]; exact f1, S.h.free a1, vs1, by rw [upd_ne q1]; exact z1, r1.mono ((e2.f.trans e3.f).trans en.f)⟩
    · exact ⟨by rw [upd_ne q2]; exact f2, S.h.free (e1.h.free a2), vs2, by rw [upd_ne q2]; exact z2, r2.mono (e3.f.trans en.f)⟩
    · exact ⟨by rw [upd_ne q3]; exact b3, S.h.free (e1.h.free (e2.h.free a3)), vs3, by rw [upd_ne q3]; exact d3, r3.mono en.f⟩⟩
/-- return (one's own, one's own, new) -/
theorem sw_retT3O {P : Pst (List (List α))} (ei : Γ[i]? = some (.own c ds1)) (ej : Γ[j]? = some (.own c ds2)) (hij : i ≠ j) (h3 : EvN Γ tc c ds3) (k : P.rt [ds1, ds2, ds3]) : SW (rTn c) Γ (tRet (tTup (tCons (tVar i) (tCons (tVar j) (tCons tc tNil))))) P := fun F0 H0 F H σ D S o => by
  obtain ⟨p1, vs1, s1, b1, d1, r1⟩ := S.sl.owned ei
  obtain ⟨p2, vs2, s2, b2, d2, r2⟩ := S.sl.owned ej
  have h01 : H0 p1 = none := S.own i p1 (by rw [ei]; trivial) s1
  have h02 : H0 p2 = none := S.own j p2 (by rw [ej]; trivial) s2
  have n12 : p1 ≠ p2 := fun z => by subst z; exact S.sl.dis i j p1 hij (by rw [ei]; trivial) (by rw [ej]; trivial) s1 s2
  refine ⟨.ref p1, s1, .ref p2, s2, h3 F H σ S.sl _ fun p3 vs3 F3 H3 e3 a3 b3 d3 r3 => ⟨sz_of (by decide : 3 ≤ 1000000), fun q hq => ?_⟩⟩
  have z1 : H3 p1 = some (.lst vs1) := e3.h _ _ d1
  have z2 : H3 p2 = some (.lst vs2) := e3.h _ _ d2
  have f1 : F3 p1 = none := fr_grow e3 b1 d1
  have f2 : F3 p2 = none := fr_grow e3 b2 d2
  have n13 : p1 ≠ p3 := fun z => by rw [z, a3] at d1; cases d1
  have n23 : p2 ≠ p3 := fun z => by rw [z, a3] at d2; cases d2
  have q1 : p1 ≠ q := fun z => by rw [z, hq] at z1; cases z1
  have q2 : p2 ≠ q := fun z => by rw [z, hq] at z2; cases z2
  have q3 : p3 ≠ q := fun z => by rw [z, hq] at d3; cases d3
  have en : Ext F3 H3 (upd F3 q (.tup [.ref p1, .ref p2, .ref p3])) (upd H3 q (.tup [.ref p1, .ref p2, .ref p3])) := Ext.new e3.i hq
  refine o.rt _ _ _ [ds1, ds2, ds3] ((S.grow e3).grow en).ext ⟨q, [(p1, ds1), (p2, ds2), (p3, ds3)], rfl, upd_same, ⟨by simp [n12, n13, n23], fun x hx => ?_⟩, rfl⟩ k
  simp only [List.mem_cons, List.not_mem_nil, or_false] at hx
  rcases hx with rfl | rfl | rfl
  · exact ⟨by rw [upd_ne q1]; exact f1, h01, vs1, by rw [upd_ne q1]; exact z1, r1.mono (e3.f.trans en.f)⟩
  · exact ⟨by rw [upd_ne q2]; exact f2, h02, vs2, by rw [upd_ne q2]; exact z2, r2.mono (e3.f.trans en.f)⟩
  · exact ⟨by rw [upd_ne q3]; exact b3, S.h.free a3, vs3, by rw [upd_ne q3]; exact d3, r3.mono en.f⟩
/-- a, b = a list of two -/
theorem sw_unL2 {x0 x1 : α} {P : Pst ρ} (h : Ev Γ te (cList K c) [x0, x1]) (k : P.nx ((Γ.set i (.val c x0)).set j (.val c x1))) : SW R Γ (tAsg te (gLst K 2 (gCons (gName i) (gCons (gName j) gNil)))) P := fun F0 H0 F H σ D S o =>
  h F H σ S.sl _ fun v F1 H1 e1 r1 => by
    obtain ⟨a, vs, rfl, hs, hr⟩ := r1
    match vs, hr with
    | [x, y], hr => exact ⟨a, _, rfl, ex_l e1.i hs, rfl, x, _, rfl, y, _, rfl, rfl, o.nx F1 H1 _ _ (((S.grow e1).setV hr.1).setV hr.2.1) k⟩
theorem q_unL2 {x0 x1 : α} {P : Pst ρ} (h : Ev Γ te (cList K c) [x0, x1]) (k : SW R ((Γ.set i (.val c x0)).set j (.val c x1)) tz P) : SW R Γ (tSeq (tAsg te (gLst K 2 (gCons (gName i) (gCons (gName j) gNil)))) tz) P := sw_seq (sw_unL2 h k)
theorem evN_catQ {ds es : List α} (h1 : Ev Γ ta (cList K c) ds) (h2 : Ev Γ tb (cList K c) es) (hl : ds.length + es.length ≤ 1000000) : EvN Γ (tOp (rCatQ K) ta tb) c (ds ++ es) := fun F H σ S Q q =>
  h1 F H σ S _ fun v F1 H1 e1 r1 => h2 F1 H1 σ (S.grow e1) _ fun w F2 H2 e2 r2 => by
    obtain ⟨p, vs, rfl, k3, k4⟩ := (cList K c).mono e2.f r1
    obtain ⟨p2, vs2, rfl, m3, m4⟩ := r2
    exact ⟨p, p2, vs, vs2, rfl, rfl, ex_l e2.i k3, ex_l e2.i m3, by rw [k4.len, m4.len]; exact sz_of hl, fun l hl => q l _ F2 _ ((e1.trans e2).trans (Ext.aside e2.i hl)) ((e1.trans e2).h.free hl) (e2.i.free hl) upd_same (k4.append m4)⟩
theorem sws_done {t : TS} (h : SW R Γ t P) : SWs R c os Γ t P := fun F0 H0 F H σ D S _ o => h F0 H0 F H σ D S o
end
end Pw

/-! // of whole numbers of any size: the room for the interpreter's own long division -/
namespace Pw
open PySem PySem.Spec PyProof.Rows L2
/-- the topmost frame's code is a plain def of the module -/
def HdOk : List Env → Prop
  | e :: _ => e.scope.isGenerator = false ∧ e.scope.isCoroutine = false ∧ e.builtins = builtinsNs ∧ e.globals = mainGlobals
  | [] => False
structure WX (P : Program) (base : Heap) : Prop where
  t : P.given.tree = none
  s : base.NoSeer
def oDivA : R2 := rI (fun _ j => j ≠ 0) fun i j => .int (i.fdiv j)
section
variable {X : Cx}
theorem room_of {pins : List (Addr × Obj)} {σ : L2.St} {H : Hp} {s : Shared} (w : WX X.prog X.base) {k : Nat} (hr : Room k X.A) (hk : 35 ≤ k) (hs : HdOk X.stack) (I : Inv X pins σ H s) : PylongRoom (model X.prog X.w) X.A s := by
  have fr := I.ok.frames
  cases q : X.stack with
  | nil => rw [q] at hs; exact hs.elim
  | cons e l =>
    rw [q] at hs fr
    obtain ⟨h1, h2, h3, h4⟩ := hs
    refine PylongRoom.of I.nolimit ?_ (SeerAt.of (w.s.keeps I.bk) w.t fr h1 h2 h3 h4)
    have := hr.dp
    have e1 : Builtin.pylongFrames ≤ 105 := by decide
    omega
theorem op_fdivA (w : WX X.prog X.base) {k : Nat} (hr : Room k X.A) (hk : 35 ≤ k) (hs : HdOk X.stack) : OpR X (binaryOp .FloorDiv) oDivA := by
  intro pins s σ H x y v u Q I rx ry h
  obtain ⟨i, j, rfl, rfl, hc, q⟩ := h
  obtain ⟨t1, rfl⟩ := rx
  obtain ⟨t2, rfl⟩ := ry
  refine floordiv_int hc ?_ (.inr (room_of w hr hk hs I))
  exact ⟨.int (i.fdiv j), H, I.tok _, ⟨_, rfl⟩, q⟩
end
section
variable {K : PySem.W.Frag} {Γ : Gam} {ta tb : TE}
theorem ev_divA {a b : Int} (h1 : Ev Γ ta cInt a) (h2 : Ev Γ tb cInt b) (hb : b ≠ 0) : Ev Γ (tOp oDivA ta tb) cInt (a.fdiv b) := ev_ii (C := fun _ j => j ≠ 0) (k := fun i j => i.fdiv j) h1 h2 hb
end
end Pw

/-! the law's end, with the heap's bareness of audit hooks handed on to the promise of the law's def -/
namespace Pw
open PySem PySem.Spec PyProof.Rows L2
def PlainSeq (o : Obj) : Prop := o.cls = .type "list" ∧ ∃ vs n, o.data = .seq vs n
/-- nothing but lists is tracked -/
def Lists (g : Heap) (H : Hp) : Prop := ∀ b o, g.get? b = some o → ¬ PlainSeq o → H b = none
section
variable {g : Heap} {H : Hp}
theorem ns_hid {b : Addr} {m : Str → Option Value} (free : Lists g H) (h : g.Ns b m) : (hidT g H).Ns b m := by
  obtain ⟨o, es, ep, e, d, r⟩ := h
  exact ⟨o, es, ep, hidT_get e (free b o e fun ⟨_, vs, n, z⟩ => by rw [d] at z; cases z), d, r⟩
theorem noSeer_hid (free : Lists g H) (h : g.NoSeer) : (hidT g H).NoSeer := by
  obtain ⟨⟨mc, n1, f1⟩, ⟨mm, n2, f2⟩, ⟨mb, n3, f3⟩, ⟨m4, bm, ob, n4, g1, g2, g3, g4⟩⟩ := h
  exact ⟨⟨mc, ns_hid free n1, f1⟩, ⟨mm, ns_hid free n2, f2⟩, ⟨mb, ns_hid free n3, f3⟩, ⟨m4, bm, ob, ns_hid free n4, g1, hidT_get g2 (free bm ob g2 fun ⟨z, _⟩ => by rw [g3] at z; exact absurd z (by decide)), g3, g4⟩⟩
end
/-- one run, from a tracking H of at most the script at a -/
theorem run_from {P : Program} {w : World} {K : PySem.W.Frag} {mg mb : Str → Option Value} {k : Nat} {fa a : Addr} {fd : FuncData} {x : Str} {sp : Sp} {t : Shared} {H : Hp}
    (inK : K.In t.heap) (nM : t.heap.Ns mainGlobals mg) (nB : t.heap.Ns builtinsNs mb) (bB : ∀ y : Str, y ≠ "__name__" → mb y = bootBuiltins y) (lim : t.heap.NoLimit) (see : t.heap.NoSeer) (nog : t.gens = #[])
    (room : Room k callerA) (pro : ∀ base : Heap, K.In base → base.Ns mainGlobals mg → base.NoSeer → FnOk P w K mg base CX0 k fa fd [x] sp) (bind : ∀ (s : Shared) (u : Value), BindsTo s fd ⟨[u], []⟩ [(x, u)])
    (free : Lists t.heap H) (outK : ∀ b o, K.lookup b = some o → H b = none) (only : Only H) (hok : HOk P w H t.heap) (goal : sp [.ref a] H (fun v _ => v = .bl true) fun _ _ _ => False) :
    codeAny (model P w) callerA (.call (.ref fa) ⟨[.ref a], []⟩) (fun r t' => r = .ok (.ret (.bool true)) ∧ OldK t.heap t'.heap ∧ t'.os = t.os ∧ AllBare t'.gens) t := by
  have inB : K.In (hidT t.heap H) := fun b o e => hidT_get (inK b o e) (outK b o e)
  obtain ⟨ml, l1, l2⟩ := lim
  have env : Env0 P w K mg (hidT t.heap H) callerA [] t H := {
    frames := rfl
    mod := { kin := inB, glob := ns_hid free nM, blt := ⟨mb, ns_hid free nB, bB⟩, nolimit := ⟨ml, ns_hid free l1, l2⟩ }
    bs := fun b o e => of_hidT e
    bsz := Nat.le_of_eq (hidT_size t.heap H)
    funs := trivial
    frf := fun b hb => nomatch (show b ∈ ([] : List Addr) from hb)
    hok := hok
    bare := .of_eq nog }
  have run := (pro _ inB (ns_hid free nM) (noSeer_hid free see)).run callerA [] t H ⟨[.ref a], []⟩ [.ref a] [.ref a] _ _ room env (bind t (.ref a)) (.cons rfl .nil) goal
  refine codeAny_mono run fun r t' h => ?_
  rcases r with e | fl
  · exact h.elim
  · rcases fl with _ | _ | _ | u
    · exact h.elim
    · exact h.elim
    · exact h.elim
    · obtain ⟨v, H', kos, kb, un, hk', ru, hv⟩ := h
      have hv : v = .bl true := hv
      subst hv
      have eu : u = Value.bool true := ru
      subst eu
      refine ⟨rfl, OldK.of_keep fun b o e => ?_, kos, kb⟩
      rcases only b with z | ⟨ob, xs, z⟩
      · exact un.keep b o e z (fun y => nomatch (show b ∈ ([] : List Addr) from y)) (by simp)
      · have h1 := (hok b _ z).1
        have h2 := (hk' b _ (un.frzs b ob _ z)).1
        rw [e] at h1
        cases h1
        exact h2
/-- the whole law from the promise of its def -/
theorem walkS {l : PySem.W.OpenLaw} {n k : Nat} {q : Program} {loose : List Str} {XP : (Str → Option Value) → Heap → Prop} {YP : World → Heap → Prop} {d : DefRec} {KK : Params → PySem.W.Frag} {sp : PySem.W.Frag → Sp} {x : Str}
    (hn : l.most = some n) (small : n ≤ sizeLine) (nod : d.params.defaults = []) (room : Room k callerA) (imp : importsNone q = true) (inY : ∀ (w : World) (g : Heap), YP w g → (KK w.params).In g)
    (pro : ∀ (w : World) (mg : Str → Option Value) (fa : Addr) (g : Heap), (KK w.params).In g → g.Ns mainGlobals mg → mg d.name = some (.ref fa) →
      ∃ fd : FuncData, (∀ (s : Shared) (u : Value), BindsTo s fd ⟨[u], []⟩ [(x, u)]) ∧ ∀ base : Heap, (KK w.params).In base → base.Ns mainGlobals mg → base.NoSeer → FnOk l.prog w (KK w.params) mg base CX0 k fa fd [x] (sp (KK w.params)))
    (goal : ∀ (K : PySem.W.Frag) (H : Hp) (a : Addr) (ns : List Int), ns.length ≤ n → Only H → SqL K H a (ns.map V.int) → sp K [.ref a] H (fun v _ => v = .bl true) fun _ _ _ => False) :
    PySem.W.WalkO q loose XP YP l.row.toRowW d [] (fun f vs => PySem.call f vs) := by
  refine Att.attach_call hn nod fun w s0 t mg mb fa o pm cd doc a vs ns G Y ho hd hcd named obj are len nog => ?_
  have inK := inY w _ Y
  obtain ⟨fd, bind, pr⟩ := pro w mg fa _ inK G.T.g named
  have see := G.T.seer imp
  have vals := vals_ints are
  have same := are.length
  have big : ns.length ≤ sizeLine := Nat.le_trans len small
  have go : ∀ H : Hp, Lists t.heap H → (∀ b o, (KK w.params).lookup b = some o → H b = none) → Only H → HOk l.prog w H t.heap → SqL (KK w.params) H a (ns.map V.int) → _ := fun H free outK only hok hS =>
    run_from inK G.T.g G.T.b G.T.builtins G.T.nolimit see nog room pr bind free outK only hok (goal (KK w.params) H a ns len only hS)
  rcases e : (KK w.params).lookup a with _ | ob
  · let T : HO := .frz { cls := .type "list", data := .seq vs.toArray } (.lst (ns.map V.int))
    have at' : upd (fun _ => none) a T a = some T := upd_same
    have off : ∀ b, b ≠ a → upd (fun _ => none) a T b = none := fun b hb => upd_ne hb
    refine go (upd (fun _ => none) a T) (fun b o' hb hno => ?_) (fun b o' hb => off b fun z => by rw [z, e] at hb; cases hb) (fun b => ?_) (fun b u hu => ?_) (.inl (.inr ⟨_, at'⟩))
    · refine off b fun z => hno ?_
      rw [z, obj] at hb
      cases hb
      exact ⟨rfl, _, _, rfl⟩
    · by_cases z : b = a
      · rw [z]; exact .inr ⟨_, _, at'⟩
      · exact .inl (off b z)
    · by_cases z : b = a
      · rw [z, at'] at hu
        cases hu
        rw [z]
        exact ⟨obj, by rw [List.length_map]; exact big, vs, _, vals, obj⟩
      · rw [off b z] at hu; cases hu
  · have obj' := inK a ob e
    rw [obj] at obj'
    cases obj'
    exact go (fun _ => none) (fun _ _ _ _ => rfl) (fun _ _ _ => rfl) (fun _ => .inl rfl) (fun b u z => nomatch z) (.inr ⟨_, vs.toArray, _, e, rfl, rfl, rfl, by rw [List.size_toArray, same]; exact big, by simpa using vals⟩)
end Pw

/-! for a, b in a list of pairs -/
namespace Pw
open PySem PySem.Spec PyProof.Rows L2
section
variable {K : PySem.W.Frag} {Γ : Gam} {ta tb tc te : TE} {α β γ ρ : Type} {c : Cod α} {d : α} {c2 : Cod β} {d2 : β} {R : RR ρ} {P : Pst ρ} {t u tz : TS} {i j : Nat}
theorem sw_forL2 {ds : List (α × β)} (h : Ev Γ te (cList K (cPair K c c2)) ds) (I : Nat → Gam → Prop) (h0 : I 0 Γ)
    (hb : ∀ n d Γ', ds[n]? = some d → I n Γ' → SW R ((Γ'.set i (.val c d.1)).set j (.val c2 d.2)) t { P with nx := I (n + 1), ct := I (n + 1), bk := P.nx }) (hd : ∀ Γ', I ds.length Γ' → P.nx Γ') : SW R Γ (tFor (iList K te) (gTup K 2 (gCons (gName i) (gCons (gName j) gNil))) t) P := fun F0 H0 F H σ D S o =>
  h F H σ S.sl _ fun v F1 H1 e1 r1 => by
    obtain ⟨a, vs, rfl, hs, hr⟩ := r1
    have S1 := S.grow e1
    refine ⟨a, rfl, ⟨vs, ex_l S1.sl.ex hs⟩, for_list (xs := vs) (fun n σ H => ∃ F Γ', Stt F0 H0 F H σ Γ' ∧ Ex F1 F ∧ I n Γ') ⟨F1, Γ, S1, Ex.refl _, h0⟩ (fun n σ H _ ⟨F, Γ', T, e, _⟩ => ex_l (e.trans T.sl.ex) hs) ?_ ?_⟩
    · rintro n x σ H hx ⟨F, Γ', T, e, hI⟩
      obtain ⟨d, hd1, hd2⟩ := hr.getV hx
      obtain ⟨b, ws, rfl, ht, y, _, rfl, hy, z, _, rfl, hz, hn⟩ := (cPair K c c2).mono e hd2
      cases (show _ = [] from hn)
      have T1 : Stt F0 H0 F H ((σ.set i (some y)).set j (some z)) ((Γ'.set i (.val c d.1)).set j (.val c2 d.2)) := (T.setV hy).setV hz
      exact ⟨b, _, rfl, ex_t T.sl.ex ht, rfl, y, _, rfl, z, _, rfl, rfl, hb n d Γ' hd1 hI F H0 F H _ _ T1.base (o.turn T1 fun F2 H2 σ2 Γ2 U e2 h2 => ⟨F2, Γ2, U, e.trans e2, h2⟩)⟩
    · rintro σ H ⟨F, Γ', T, e, hI⟩
      exact o.nx F H σ Γ' T (hd Γ' (hr.len ▸ hI))
theorem q_forL2G {ds : List (α × β)} (G : Nat → Gam) (h : Ev Γ te (cList K (cPair K c c2)) ds) (h0 : Wk Γ (G 0))
    (hb : ∀ n d, ds[n]? = some d → SW R (((G n).set i (.val c d.1)).set j (.val c2 d.2)) t { P with nx := fun Γ' => Wk Γ' (G (n + 1)), ct := fun Γ' => Wk Γ' (G (n + 1)), bk := fun Γ' => SW R Γ' tz P }) (hd : SW R (G ds.length) tz P) : SW R Γ (tSeq (tFor (iList K te) (gTup K 2 (gCons (gName i) (gCons (gName j) gNil))) t) tz) P :=
  sw_seq (sw_forL2 (P := { P with nx := fun Γ' => SW R Γ' tz P }) h (fun n Γ' => Wk Γ' (G n)) h0 (fun n d Γ' hn w => sw_wk ((w.set i _).set j _) (hb n d hn)) fun Γ' w => sw_wk w hd)
end
end Pw

/-! a suite behind an error that asks the error's class and does more; list(a list of the module) -/
namespace Pw
open PySem PySem.Spec PyProof.Rows L2
/-- isinstance(e, c), e the error that the suite has in hand -/
def rIsS (K : PySem.W.Frag) (a : Addr) (cls : Value) (d : Option Addr) : List V → Hp → VK → Prop := fun xs H Q => ∃ D, cls = .ref D ∧ d = none ∧ ExcC K D ∧ rIsE K D a xs H Q
theorem call_isS {X : Cx} {a : Addr} {cls : Value} {d : Option Addr} {oe : Obj} {pn : List (Addr × Obj)} (hz : Zc cls d oe) (hf : ∃ vs, oe.data = .fields vs) : CallR (X.suite a ((a, oe) :: pn)) (.builtin "isinstance") (rIsS X.K a cls d) := by
  intro pins s σ H xs us Q I r h
  obtain ⟨D, rfl, rfl, C, h⟩ := h
  exact call_isE C hz hf pins s σ H xs us Q I r h
def tTryB (K : PySem.W.Frag) (c : Value) (i : Nat) (sp : Sp) (u : Addr → Value → Option Addr → TS) (ta : TA) : TS := fun D σ H => tDrop (tCallS sp (WE (wAs K c i u (fun _ _ _ _ => False) D)) ta) D σ H
def cHand (a : Addr) : Cod Unit := ⟨fun _ v _ => v = .ref a, fun _ h => h⟩
section
variable {K : PySem.W.Frag} {Γ : Gam} {ta tb tc te : TE} {α β γ ρ : Type} {c : Cod α} {c1 : Cod α} {c2 : Cod β} {R : RR ρ} {P : Pst ρ} {t tz : TS} {i j : Nat}
theorem ev_isS {a D : Addr} {cv : V} {u : Value} {b : Bool} (h : Ev Γ te (cHand a) ()) (C : ExcC K D) (hc : ∀ w, RelV cv w → w = u) (hk : PySem.W.kitOne K (.ref D) u = some b) : Ev Γ (tCB (rIsS K a (.ref D) none) (tCons te (tCons (tC cv) tNil))) cBool b := fun F H σ S Q q =>
  h F H σ S _ fun v F1 H1 e1 r1 => by
    cases (show v = .ref a from r1)
    exact ⟨D, rfl, rfl, C, cv, u, b, rfl, hc, hk, q _ F1 H1 e1 rfl⟩
theorem ev_isSr {a D C' : Addr} {b : Bool} (h : Ev Γ te (cHand a) ()) (C : ExcC K D) (hk : PySem.W.kitOne K (.ref D) (.ref C') = some b) : Ev Γ (tCB (rIsS K a (.ref D) none) (tCons te (tCons (tC (.ref C')) tNil))) cBool b := ev_isS h C (fun _ r => r) hk
theorem ev_isSt {a D : Addr} {n : String} {b : Bool} (h : Ev Γ te (cHand a) ()) (C : ExcC K D) (hk : PySem.W.kitOne K (.ref D) (.type n) = some b) : Ev Γ (tCB (rIsS K a (.ref D) none) (tCons te (tCons (tC (.ty n)) tNil))) cBool b := ev_isS h C (fun _ r => r) hk
theorem sw_tryBT2 {ca : CodA γ} {a : γ} {pre : γ → Prop} {f : γ → Option (List α × List β)} {C : Addr} {cv : Value} {tr : TA} {u : Addr → Value → Option Addr → TS} (h : EvA Γ tr ca a) (hp : pre a) (hn : f a = none) (hx : PySem.W.exmOne K (.ref C) cv = some true)
    (k : ∀ x, SW R (Γ.set i (.val (cHand x) ())) (u x (.ref C) none) { P with nx := fun Γ' => P.nx (Γ'.set i .any), bk := fun Γ' => P.bk (Γ'.set i .any), ct := fun Γ' => P.ct (Γ'.set i .any) }) : SW R Γ (tTryB K cv i (SpT2 ca pre c1 c2 f C) u tr) P := fun F0 H0 F H σ D S o =>
  h F H σ S.sl _ fun vs F1 H1 e1 r1 => ⟨F1, a, e1.i, r1, hp, fun b v F' H' e => (by rw [hn] at e; cases e), fun _ F' H' e2 => ⟨true, hx, fun _ x nx => by
    have S2 := (S.grow e1).grow e2
    exact k x F0 H0 F' H' _ _ (S2.setV (c := cHand x) (d := ()) (i := i) rfl) ⟨fun F H σ Γ S h => o.nx F H _ _ (S.set (e := .any) (i := i) (s := none) (fun h => h) trivial) h, o.rt, fun F H σ Γ S h => o.bk F H _ _ (S.set (e := .any) (i := i) (s := none) (fun h => h) trivial) h, fun F H σ Γ S h => o.ct F H _ _ (S.set (e := .any) (i := i) (s := none) (fun h => h) trivial) h, o.ex⟩, fun q => nomatch q⟩⟩
theorem q_tryBT2 {ca : CodA γ} {a : γ} {pre : γ → Prop} {f : γ → Option (List α × List β)} {C : Addr} {cv : Value} {tr : TA} {u : Addr → Value → Option Addr → TS} (h : EvA Γ tr ca a) (hp : pre a) (hn : f a = none) (hx : PySem.W.exmOne K (.ref C) cv = some true)
    (k : ∀ x, SW R (Γ.set i (.val (cHand x) ())) (u x (.ref C) none) { P with nx := fun Γ' => SW R (Γ'.set i .any) tz P, bk := fun Γ' => P.bk (Γ'.set i .any), ct := fun Γ' => P.ct (Γ'.set i .any) }) : SW R Γ (tSeq (tTryB K cv i (SpT2 ca pre c1 c2 f C) u tr) tz) P := sw_seq (sw_tryBT2 h hp hn hx k)
/-- list(a list of the module) -/
theorem evN_listG {O : Addr} {ds : List α} {ys : List V} (hs : ∀ H, SqL K H O ys) (hr : ∀ F, Reps c F ys ds) : EvN Γ (tCB (rListQ K) (tCons (tC (.ref O)) tNil)) c ds :=
  ev_cb1N (c := cHand O) (d := ()) (ev_c fun _ => rfl) fun F H x e r1 Q q => by
    cases (show x = .ref O from r1)
    exact ⟨O, ys, rfl, .inl (hs H), fun l hl => q l ys F _ (Ext.aside e hl) hl (e.free hl) upd_same (hr F)⟩
end
section
variable {K : PySem.W.Frag} {Γ : Gam} {ta tb tc te : TE} {α β γ ρ : Type} {c : Cod α} {d : α} {R : RR ρ} {P : Pst ρ} {t u tz : TS} {i j l : Nat} {ds1 ds2 : List α} {os : Os α} {p1 p2 : Addr}
/-- x = f(..), a tuple of two new lists or an error; from here on they are owned aside -/
theorem q_callT2s {ca : CodA γ} {a : γ} {pre : γ → Prop} {f : γ → Option (List α × List α)} {C : Addr} {tr : TA} {E : XK} (h : EvA Γ tr ca a) (hp : pre a) (hd : f a = some (ds1, ds2)) (hi : ¬ IsOwn Γ[i]?)
    (k : ∀ p1 p2, SWs R c [(p1, ds1), (p2, ds2)] (Γ.set i (.val cRawT (refs [(p1, ds1), (p2, ds2)]))) tz P) : SW R Γ (tSeq (tAsg (tCall (SpT2 ca pre c c f C) [] E tr) (gName i)) tz) P := fun F0 H0 F H σ D S o =>
  h F H σ S.sl _ fun vs F1 H1 e1 r1 => ⟨F1, a, e1.i, by rw [List.append_nil]; exact r1, hp, fun d' v F' H' e e2 r2 => by
    rw [hd] at e; cases e
    obtain ⟨t, p1, p2, rfl, ht, n, ⟨z1, f1, ws1, h1, g1⟩, ⟨z2, f2, ws2, h2, g2⟩⟩ := r2
    have S1 := S.grow e1
    have S2 := S1.grow e2
    have S3 : Stt F0 H0 F' H' (σ.set i (some (.ref t))) (Γ.set i (.val cRawT (refs [(p1, ds1), (p2, ds2)]))) := S2.setV ⟨t, rfl, ht⟩
    refine k p1 p2 F0 H0 F' H' _ D S3 ⟨⟨by simp [n], fun o ho => ?_⟩, upd_newL (H1 := H1) S2 hi (fun o ho => ?_) (fun _ => trivial) fun x p ox hx => own_live S1.sl x p ox hx⟩ o
    · simp only [List.mem_cons, List.not_mem_nil, or_false] at ho
      rcases ho with rfl | rfl
      · exact ⟨f1, S1.h.free z1, ws1, h1, g1⟩
      · exact ⟨f2, S1.h.free z2, ws2, h2, g2⟩
    · simp only [List.mem_cons, List.not_mem_nil, or_false] at ho
      rcases ho with rfl | rfl
      · exact z1
      · exact z2,
    fun e => by rw [hd] at e; cases e⟩
theorem sws_whenL2 {tt : TT} (e : Γ[i]? = some (.val cRawT (refs [(p1, ds1), (p2, ds2)]))) (h : EvT (Γ.set i (.val (cPair K (cList K c) (cList K c)) (ds1, ds2))) tt false)
    (k : SWs R c [(p1, ds1), (p2, ds2)] Γ tz P) : SWs R c [(p1, ds1), (p2, ds2)] Γ (tSeq (tIfS tt u tNext) tz) P := fun F0 H0 F H σ D S w o =>
  evs_lend e S w (fun G t ht hg => by
    obtain ⟨w1, a1, b1⟩ := hg _ List.mem_cons_self
    obtain ⟨w2, a2, b2⟩ := hg _ (List.mem_cons_of_mem _ List.mem_cons_self)
    exact ⟨t, _, rfl, .inl (.inl ht), _, _, rfl, ⟨p1, w1, rfl, .inl (.inl a1), b1⟩, _, _, rfl, ⟨p2, w2, rfl, .inl (.inl a2), b2⟩, rfl⟩) h fun F1 H1 e1 => iteF (k F0 H0 F1 H1 σ D (S.grow e1) (w.grow e1) o)
/-- y = (list(x[k]), list(x[m])) -/
theorem sws_heldT {k m : Nat} {q1 q2 : Addr} {ds ds' : List α} (e : Γ[i]? = some (.val cRawT (refs os))) (hk : os[k]? = some (q1, ds)) (hm : os[m]? = some (q2, ds')) (hj : ¬ IsOwn Γ[j]?) (hij : j ≠ i) (kk : SWs R c os (Γ.set j (.val (cPair K (cList K c) (cList K c)) (ds, ds'))) tz P) :
    SWs R c os Γ (tSeq (tAsg (tTup (tCons (tCB (rListQ K) (tCons (tOp (rIxT K) (tVar i) (tC (.int (k : Int)))) tNil)) (tCons (tCB (rListQ K) (tCons (tOp (rIxT K) (tVar i) (tC (.int (m : Int)))) tNil)) tNil))) (gName j)) tz) P := fun F0 H0 F H σ D S w o =>
  evs_list (K := K) e hk S w fun v1 F1 H1 e1 r1 => evs_list (K := K) e hm (S.grow e1) (w.grow e1) fun v2 F2 H2 e2 r2 => ⟨sz_of (by decide : 2 ≤ 1000000), fun a ha => by
    have S2 := (S.grow e1).grow e2
    have en : Ext F2 H2 (upd F2 a (.tup [v1, v2])) (upd H2 a (.tup [v1, v2])) := Ext.new e2.i ha
    have w3 := (((w.grow e1).grow e2).grow en)
    refine kk F0 H0 _ _ _ D ((S2.grow en).setV (i := j) (c := cPair K (cList K c) (cList K c)) (d := (ds, ds')) ⟨a, _, rfl, .inl (.inl upd_same), _, _, rfl, (cList K c).mono (e2.f.trans en.f) r1, _, _, rfl, (cList K c).mono en.f r2, rfl⟩) ⟨w3.n, fun l p ol hl => ?_⟩ o
    rw [List.getElem?_set] at ol
    by_cases z : j = l
    · subst z
      by_cases y : j < Γ.length
      · rw [if_pos rfl, if_pos y] at ol; exact ol.elim
      · rw [if_pos rfl, if_neg y] at ol; exact ol.elim
    · rw [if_neg z] at ol; rw [List.getElem?_set_ne z] at hl; exact w.o l p ol hl⟩
/-- x[k][m] = e -/
theorem sws_set {k n : Nat} {x : Int} {p : Addr} {ds : List α} (e : Γ[i]? = some (.val cRawT (refs os))) (hk : os[k]? = some (p, ds)) (h : Ev Γ te c d) (hi : Ev Γ tb cInt x) (hj : ixN ds.length x = some n) (kk : SWs R c (os.set k (p, ds.set n d)) Γ tz P) :
    SWs R c os Γ (tSeq (tAsg te (gSub (tOp (rIxT K) (tVar i) (tC (.int (k : Int)))) tb rSetL)) tz) P := fun F0 H0 F H σ D S w o =>
  h F H σ S.sl _ fun v F1 H1 e1 r1 => by
    have S1 := S.grow e1
    have w1 := w.grow e1
    obtain ⟨y, hy, t, rfl, ht⟩ := S1.sl.var e
    obtain ⟨f1, f2, ws, a1, b1⟩ := w1.n.2 _ (List.mem_of_getElem? hk)
    have hx : atI (refs os) (k : Int) = some (.ref p) := atI_nat' (by unfold refs; rw [List.getElem?_map, hk]; rfl)
    refine ⟨.ref t, hy, t, refs os, (k : Int), .ref p, rfl, rfl, .inl (.inl (S1.sl.ex t _ ht)), hx, hi F1 H1 σ S1.sl _ fun y F2 H2 e2 r2 => ?_⟩
    obtain ⟨S3, w3⟩ := stt_asides (S1.grow e2) (w1.grow e2) hk (Reps.set (c.mono e2.f r1) n (b1.mono e2.f))
    exact ⟨p, ws, x, n, rfl, r2, e2.h _ _ a1, by rw [b1.len]; exact hj, kk F0 H0 F2 _ σ D S3 w3 o⟩
end
end Pw

/-! any(..) within a suite behind an error; errors without a context -/
namespace PySem.W
open PySem PySem.Spec PySem.Calls PyProof.Rows HotX
section
variable {prog : Program} {w : World} {A : Around} {E : Value → Shared → Prop} {s : Shared}
theorem pyNext_list_end_hot {it l x1 : Addr} {i : Nat} {items : Array Value} {Q : Option Value → Shared → Prop} (hot : HotAt A x1 s.heap) (hn : x1 ≠ it)
    (hit : s.heap.IsListIter it l i) (hl : s.heap.IsList l items) (hx : items[i]? = none)
    (hQ : ∀ h', Heap.ExtBut it s.heap h' → Q none { s with heap := h' }) : wpAny (model prog w) A (pyNext (.ref it)) Q E s := by
  obtain ⟨o, ho, hc, hd⟩ := id hit
  obtain ⟨ol, hol, _, nl, hdl⟩ := hl
  obtain ⟨hh, o1, vs1, h1, d1, c1⟩ := hot
  unfold pyNext
  refine wpAny_bind (wpAny_attempt (wpAny_callSpecial?_slot (name := Str.ofString "__next__") hit.typeIs slot_listiter_next
    (wpAny_call_entry slot_listiter_next hit.typeIs entry_listiter_next ?_ (args_listiter_next _))))
  show wpAny _ _ (field (.ref it) 0 >>= _) _ _ s
  refine wpAny_bind (wpAny_field ho hd (x := .ref l) rfl ?_)
  show wpAny _ _ (if (Value.ref l == Value.none) = true then _ else _) _ _ s
  rw [if_neg (show ¬ ((Value.ref l == Value.none) = true) from Bool.false_ne_true)]
  show wpAny _ _ (field (.ref it) 1 >>= _) _ _ s
  refine wpAny_bind (wpAny_field ho hd (x := .int i 0) rfl ?_)
  show wpAny _ _ (seqItems? (.ref l) >>= _) _ _ s
  refine wpAny_bind (wpAny_seqItems hol hdl ?_)
  simp only [Int.toNat_natCast, hx]
  refine wpAny_bind (wpAny_rule (wpAny_bind (wpAny_setField ho hd (by simp) ?_)))
  show wpAny _ _ (newExc (.type "StopIteration") [] >>= _) _ _ _
  refine wpAny_bind ?_
  simp only [newExc, newTuple]
  refine wpAny_bind (wpAny_newObj_type ?_ (by size_fits))
  refine wpAny_bind (m := firstArgMember _ _) (wpAny_of_eq (a := Value.none) (by first | rfl | (simp only [firstArgMember]; rfl)) ?_)
  refine wpAny_newObj_type ?_ (by size_fits)
  have keep : ∀ b o, b ≠ it → s.heap.get? b = some o → (s.heap.update it (Obj.mapFields (·.setIfInBounds 0 .none))).get? b = some o := fun b o hb e => (Heap.SameBut.update s.heap it (Obj.mapFields (·.setIfInBounds 0 .none))).extBut b o hb e
  have h1' := keep x1 o1 hn h1
  refine raiseNew_hot ⟨hh, o1, vs1, Heap.get?_push_of_some _ (Heap.get?_push_of_some _ h1'), d1, c1⟩ (Nat.ne_of_lt (Heap.lt_size (Heap.get?_push_of_some _ h1'))) (Heap.get?_push_size _ rfl) rfl (by first | (simp; done) | (simp; omega) | (simp only [Array.size_append]; simp; omega)) ?_
  refine wpAny_bind (wpAny_isInstance (T := "StopIteration") (b := true) ⟨_, Heap.get?_update_self _ (Heap.get?_push_size _ rfl) rfl, rfl⟩ isSubtype_stop ?_)
  refine wpAny_pure (hQ _ fun b o hb e => ?_)
  rw [Heap.get?_update_other _ _ (Nat.ne_of_gt (Heap.lt_size (Heap.get?_push_of_some _ (keep b o hb e))))]
  exact Heap.get?_push_of_some _ (Heap.get?_push_of_some _ (keep b o hb e))
/-- a list walked while an error without a context is handled -/
theorem walks_listH {x1 : Addr} {o1 : Obj} {vs1 : Array Value} (hh : A.handled = some (.ref x1)) (d1 : o1.data = .fields vs1) (c1 : vs1[2]? = some .none) (I ax : Addr) (hne : ax ≠ I) (hx : x1 ≠ I) (items : Array Value) :
    Walks prog w A I [I, ax, x1] [I] items.size (fun i v => items[i]? = some v) (fun i h => (h.IsListIter I ax i ∧ h.IsList ax items) ∧ h.get? x1 = some o1) where
  sub := fun b hb => by simp at hb; simp [hb]
  frame := fun _ _ _ st hk => ⟨⟨st.1.1.at fun o e => hk I (by simp) o e, st.1.2.at fun o e => hk ax (by simp) o e⟩, hk x1 (by simp) _ st.2⟩
  item := fun i s Q E hi st hQ => by
    refine wpAny_pyNext_list_item st.1.1 st.1.2 (x := items[i]) (by simp [hi]) fun h' hit' hs' => ?_
    exact hQ _ h' s.toks (by simp [hi]) ⟨⟨hit', st.1.2.extBut hs'.extBut hne⟩, hs'.extBut x1 o1 hx st.2⟩ fun b o hb e => hs'.extBut b o (fun h => hb (by simp [h])) e
  done := fun s Q E st hQ => pyNext_list_end_hot ⟨hh, o1, vs1, st.2, d1, c1⟩ hx st.1.1 st.1.2 (by simp) fun h' he' => hQ h' s.toks fun b o hb e => he' b o (fun h => hb (by simp [h])) e
  self := fun _ _ _ _ st hQ => wpAny_pyIter_listiter st.1.1 hQ
end
end PySem.W
namespace Pw
open PySem PySem.Spec PyProof.Rows L2
/-- any(a list of bools) in the suite -/
theorem cr_anyH {X : Cx} {a : Addr} {cls : Value} {d : Option Addr} {oe : Obj} {pn : List (Addr × Obj)} (hz : L2N.Zn cls d oe) (hf : ∃ vs, oe.data = .fields vs) : CallR (X.suite a ((a, oe) :: pn)) (.builtin "any") (rAny X.K) := by
  intro pins s σ H vs us Q I r h
  obtain ⟨l, bs, rfl, hs, q⟩ := h
  obtain ⟨its, rv, hl, _⟩ := I.list hs
  rw [Vals.ref1 r]
  have hb := rv.bls
  obtain ⟨vx, hvx⟩ := hf
  have hget := (I.pin (a, oe) (List.mem_append.mpr (.inl List.mem_cons_self))).1
  refine call_any_walk (iter_any hl.isList fun s₂ e2 st hne => ?_)
  subst e2
  refine ⟨_, _, _, _, _, _, _, rfl, PySem.W.walks_listH (A := (X.suite a ((a, oe) :: pn)).A.in1) (x1 := a) (o1 := oe) (vs1 := vx) rfl hvx (hz.2.2 vx hvx) _ l hne (Nat.ne_of_lt (Heap.lt_size hget)) its.toArray, ⟨st, Heap.get?_push_of_some _ hget⟩, truth_bools hb, fun h' tk hk => ?_⟩
  refine ⟨.bl _, H, I.kept fun b o eo => hk b o (fun hmem => ?_) (Heap.get?_push_of_some _ eo), ?_, q⟩
  · rcases List.mem_cons.mp hmem with e1 | hmem
    · exact absurd (e1 ▸ Heap.lt_size eo) (Nat.lt_irrefl _)
    · cases hmem
  · show Value.bool _ = Value.bool _
    rw [← L2.any_range, hb, List.size_toArray, List.length_map]
theorem passLN {X : Cx} : Passes (L2N.CX X.prog X.w) X E0 := fun _ _ _ _ _ _ _ h => by
  obtain ⟨_, _, _, _, _, _, _, _, _, _, _, _, z⟩ := h
  exact z.elim
theorem takes0N {X : Cx} : L2N.Takes X (fun _ _ _ _ => False) := fun _ _ x => by
  obtain ⟨_, _, _, _, _, _, _, _, _, _, _, _, _, _, _, _, z⟩ := x
  exact z.elim
theorem passAtN {X : Cx} {W : L2.WX} (tk : L2N.Takes X W) (σ : L2.St) : PassesAt (L2N.CX X.prog X.w) X σ (WE W σ) := fun _ _ _ e s' I c => tk e s' (L2N.XE.of_call I (fun _ _ _ h => h) c)
theorem okN {P : Program} {w : World} {K : PySem.W.Frag} {mg : Str → Option Value} {base : Heap} {x qual : Str} {st : Stmt} {f : Addr} {fd : FuncData} {N ps : List Str} {k : Nat} {sp : Sp} (F : Fun K x qual st f fd) (S : FnScope N ps (defScope st)) (len : ∀ vs H Q E, sp vs H Q E → vs.length = ps.length)
    (hbody : ∀ (cdv : Value) (A : Around) (outer : List Env) (s : Shared) (H : Hp) (vs : List V) (Q : VK) (E : XK), Room k (A.deeper (envOfC qual (defScope st) s.heap.objs.size f cdv)) → sp vs H Q E →
      ∃ t, PSs (cxOf (L2N.CX P w) P w K mg base N qual (defScope st) f cdv A outer s H E) (defBody st) t ∧ t { nx := fun _ H' => Q .non H', rt := Q } (start N vs) H) : FnOk P w K mg base (L2N.CX P w) (k + 1) f fd ps sp := by
  obtain ⟨oc, od, kV, doc, pm, an, cdv, ct, osl, rfl, lk, hcd⟩ := F.ex
  exact fn_of lk hcd S len fun A outer s H vs Q E hr hsp => hbody cdv A outer s H vs Q E hr hsp
section
variable {K : PySem.W.Frag} {Γ : Gam} {ta : TE} 
theorem ev_any {ds : List Bool} (h1 : Ev Γ ta (cList K cBool) ds) : Ev Γ (tCB (rAny K) (tCons ta tNil)) cBool (ds.any id) :=
  ev_cb1 h1 fun F H x e r1 Q q => by
    obtain ⟨a, vs, rfl, hs, hr⟩ := r1
    exact ⟨a, ds, rfl, by rw [← reps_bools hr]; exact ex_l e hs, q _ F H (Ext.refl e) rfl⟩
end
end Pw

/-! a list of numbers that is handed to a def, which changes it: expressions and statements beside such a list -/
namespace Pw
open PySem PySem.Spec PyProof.Rows L2
def vi (ds : List Int) : List V := ds.map V.int
theorem vi_reps (F : Hp) : ∀ ds : List Int, Reps cInt F (vi ds) ds
  | [] => trivial
  | _ :: ds => ⟨rfl, vi_reps F ds⟩
theorem vi_set (ds : List Int) (n : Nat) (x : Int) : (vi ds).set n (.int x) = vi (ds.set n x) := by
  unfold vi; rw [List.map_set]
def hid (p : Addr) (H : Hp) : Hp := fun a => if a = p then none else H a
theorem hid_same {p : Addr} {H : Hp} : hid p H p = none := if_pos rfl
theorem hid_ne {p a : Addr} {H : Hp} (h : a ≠ p) : hid p H a = H a := if_neg h
theorem hid_some {p a : Addr} {H : Hp} {o : HO} (h : hid p H a = some o) : a ≠ p ∧ H a = some o := by
  by_cases z : a = p
  · subst z; rw [hid_same] at h; cases h
  · rw [hid_ne z] at h; exact ⟨z, h⟩
theorem hid_upd {p : Addr} {H : Hp} {o : HO} : hid p (upd H p o) = hid p H := by
  funext a
  by_cases z : a = p
  · subst z; rw [hid_same, hid_same]
  · rw [hid_ne z, hid_ne z, upd_ne z]
section
variable {F H F' H' : Hp} {σ : L2.St} {Γ : Gam} {p : Addr} {o : HO}
theorem hid_free (e : Ex F (hid p H)) : F p = none := e.free hid_same
theorem hid_ex (e : Ex F (hid p H)) : Ex F H := fun a u h => (hid_some (e a u h)).2
theorem hid_ent {s : Option V} {e : Ent} (h : EntOk F (hid p H) s e) : EntOk F H s e := by
  cases e with
  | any => trivial
  | val c d => exact h
  | ob c ds =>
    obtain ⟨q, vs, h1, h2, h3, h4⟩ := h
    exact ⟨q, vs, h1, h2, (hid_some h3).2, h4⟩
theorem hid_sl (S : Sl F (hid p H) σ Γ) : Sl F H σ Γ := ⟨hid_ex S.ex, S.len, fun i s e h1 h2 => hid_ent (S.ok i s e h1 h2), S.dis⟩
theorem hid_ext (hp : H p = some o) (hF : F p = none) (e : Ext F H F' H') : Ext F (hid p H) F' (hid p H') ∧ H' p = some o := by
  have f' : F' p = none := by
    cases q : F' p with
    | none => rfl
    | some u =>
      rcases e.n p u q with z | z
      · rw [hF] at z; cases z
      · rw [hp] at z; cases z
  refine ⟨⟨e.f, fun a u h => ?_, fun a u h => ?_, fun a u h => ?_⟩, e.h p o hp⟩
  · obtain ⟨z, h⟩ := hid_some h
    rw [hid_ne z]; exact e.h a u h
  · have z : a ≠ p := fun z => by subst z; rw [f'] at h; cases h
    rw [hid_ne z]; exact e.i a u h
  · rcases e.n a u h with y | y
    · exact .inl y
    · right
      by_cases z : a = p
      · subst z; exact hid_same
      · rw [hid_ne z]; exact y
end
/-! ### expressions -/
def EvM {β : Type} (p : Addr) (ds : List Int) (Γ : Gam) (te : TE) (c : Cod β) (x : β) (ds' : List Int) : Prop := ∀ F H σ, Sl F (hid p H) σ Γ → H p = some (.lst (vi ds)) →
  ∀ Q : VK, (∀ v F' H', Ext F (hid p H) F' (hid p H') → H' p = some (.lst (vi ds')) → c.rep F' v x → Q v H') → te σ H Q
def EvMT (p : Addr) (ds : List Int) (Γ : Gam) (tt : TT) (b : Bool) (ds' : List Int) : Prop := ∀ F H σ, Sl F (hid p H) σ Γ → H p = some (.lst (vi ds)) →
  ∀ Q : Bool → Hp → Prop, (∀ F' H', Ext F (hid p H) F' (hid p H') → H' p = some (.lst (vi ds')) → Q b H') → tt σ H Q
theorem noL_pairI {K : PySem.W.Frag} : NoL (cPair K cInt cInt) := fun F p xs v d hp h => by
  obtain ⟨a, vs, rfl, h1, h2⟩ := h
  refine ⟨a, vs, rfl, ?_, h2⟩
  rcases h1 with (h1 | ⟨u, h1⟩) | h1
  · have z : a ≠ p := fun z => by subst z; rw [hp] at h1; cases h1
    exact .inl (.inl (by show (if a = p then none else F a) = _; rw [if_neg z]; exact h1))
  · have z : a ≠ p := fun z => by subst z; rw [hp] at h1; cases h1
    exact .inl (.inr ⟨u, by show (if a = p then none else F a) = _; rw [if_neg z]; exact h1⟩)
  · exact .inr h1
abbrev rDivmod : List V → Hp → VK → Prop := fun xs H Q => ∃ i j, xs = [.int i, .int j] ∧ CDiv i j ∧ ∀ p, H p = none → Q (.ref p) (upd H p (.tup [.int (i / j), .int (i % j)]))
/-- a def that changes the list that its first value is, and tells a value -/
def SpM {β : Type} (pre : List Int → Int → Prop) (c : Cod β) (f : List Int → Int → β × List Int) : Sp := fun vs H Q _ => ∃ p ds m F, vs = [.ref p, .int m] ∧ H p = some (.lst (vi ds)) ∧ Ex F (hid p H) ∧ pre ds m ∧
  ∀ v F' H', Ext F (hid p H) F' (hid p H') → H' p = some (.lst (vi (f ds m).2)) → c.rep F' v (f ds m).1 → Q v H'
section
variable {K : PySem.W.Frag} {Γ : Gam} {ta tb te : TE} {α β γ ρ : Type} {c : Cod β} {x : β} {c2 : Cod γ} {p : Addr} {ds ds' ds1 : List Int} {i j : Nat}
theorem ev_divmod {a b : Int} (h1 : Ev Γ ta cInt a) (h2 : Ev Γ tb cInt b) (hb : 0 < b ∧ b < 1073741824) : Ev Γ (tCB rDivmod (tCons ta (tCons tb tNil))) (cPair K cInt cInt) (a / b, a % b) := fun F H σ S Q q =>
  h1 F H σ S _ fun x F1 H1 e1 r1 => h2 F1 H1 σ (S.grow e1) _ fun y F2 H2 e2 r2 => by
    cases (show x = .int a from r1); cases (show y = .int b from r2)
    exact ⟨a, b, rfl, hb, fun l hl => q _ _ _ ((e1.trans e2).trans (Ext.new e2.i hl)) ⟨l, _, rfl, .inl (.inl upd_same), _, _, rfl, rfl, _, _, rfl, rfl, rfl⟩⟩
theorem evM_pure (h : Ev Γ te c x) : EvM p ds Γ te c x ds := fun F H σ S hp Q q =>
  h F H σ (hid_sl S) _ fun v F' H' e r => by
    obtain ⟨e1, h1⟩ := hid_ext hp (hid_free S.ex) e
    exact q v F' H' e1 h1 r
theorem lendM (S : Sl F (hid p H) σ Γ) (hp : H p = some (.lst (vi ds))) (e : Γ[i]? = some (.val (cHand p) ())) : Sl (upd F p (.lst (vi ds))) H σ (Γ.set i (.val (cList K cInt) ds)) := by
  have hF := hid_free S.ex
  have hE : Ex F (upd F p (.lst (vi ds))) := Ex.new hF
  have il : i < Γ.length := (List.getElem?_eq_some_iff.mp e).1
  obtain ⟨v, hv, rv⟩ := S.var e
  cases (show v = .ref p from rv)
  have own' : ∀ j : Nat, IsOwn (Γ.set i (.val (cList K cInt) ds))[j]? → IsOwn Γ[j]? := fun j h => by
    rw [List.getElem?_set] at h
    by_cases z : i = j
    · subst z; rw [if_pos rfl, if_pos il] at h; exact h.elim
    · rw [if_neg z] at h; exact h
  refine ⟨ex_add (hid_ex S.ex) hp, by rw [List.length_set]; exact S.len, fun j s f e1 e2 => ?_, fun a b q hab oa ob => S.dis a b q hab (own' a oa) (own' b ob)⟩
  rw [List.getElem?_set] at e2
  by_cases z : i = j
  · subst z
    rw [if_pos rfl, if_pos il] at e2
    cases e2
    rw [hv] at e1; cases e1
    exact ⟨_, rfl, p, _, rfl, .inl (.inl upd_same), vi_reps _ ds⟩
  · rw [if_neg z] at e2
    have ok := S.ok j s f e1 e2
    cases f with
    | any => trivial
    | val c' d' => obtain ⟨v, h1, h2⟩ := ok; exact ⟨v, h1, c'.mono hE h2⟩
    | ob c' ds' =>
      obtain ⟨p', vs', h1, h2, h3, h4⟩ := ok
      subst h1
      obtain ⟨ne, h3⟩ := hid_some h3
      exact ⟨p', vs', rfl, by rw [upd_ne ne]; exact h2, h3, c'.mono hE h4⟩
theorem evM_lend (K : PySem.W.Frag) (i : Nat) (e : Γ[i]? = some (.val (cHand p) ())) (nl : NoL c) (h : Ev (Γ.set i (.val (cList K cInt) ds)) te c x) : EvM p ds Γ te c x ds := fun F H σ S hp Q q =>
  h _ H σ (lendM S hp e) _ fun v F' H' e1 r => by
    obtain ⟨h1, e2⟩ := lend_back (hid_free S.ex) hp e1
    obtain ⟨e3, h3⟩ := hid_ext hp (hid_free S.ex) e2
    exact q v _ H' e3 h3 (nl F' p _ v x h1 r)
theorem evMT_lend {tt : TT} {b : Bool} (K : PySem.W.Frag) (i : Nat) (e : Γ[i]? = some (.val (cHand p) ())) (h : EvT (Γ.set i (.val (cList K cInt) ds)) tt b) : EvMT p ds Γ tt b ds := fun F H σ S hp Q q =>
  h _ H σ (lendM S hp e) _ fun F' H' e1 => by
    obtain ⟨h1, e2⟩ := lend_back (hid_free S.ex) hp e1
    obtain ⟨e3, h3⟩ := hid_ext hp (hid_free S.ex) e2
    exact q _ H' e3 h3
theorem evMT_pure {tt : TT} {b : Bool} (h : EvT Γ tt b) : EvMT p ds Γ tt b ds := fun F H σ S hp Q q =>
  h F H σ (hid_sl S) _ fun F' H' e => by
    obtain ⟨e1, h1⟩ := hid_ext hp (hid_free S.ex) e
    exact q F' H' e1 h1
/-- the changing def called -/
theorem evM_call {pre : List Int → Int → Prop} {f : List Int → Int → β × List Int} {m : Int} {E : XK} (e : Γ[i]? = some (.val (cHand p) ())) (h : Ev Γ ta cInt m) (hp : pre ds m) : EvM p ds Γ (tCall (SpM pre c f) [] E (tCons (tVar i) (tCons ta tNil))) c (f ds m).1 (f ds m).2 := fun F H σ S hH Q q => by
  obtain ⟨v, hv, rv⟩ := S.var e
  cases (show v = .ref p from rv)
  refine ⟨.ref p, hv, h F H σ (hid_sl S) _ fun y F1 H1 e1 r1 => ?_⟩
  cases (show y = .int m from r1)
  obtain ⟨e2, h2⟩ := hid_ext hH (hid_free S.ex) e1
  exact ⟨p, ds, m, F1, rfl, h2, e2.i, hp, fun v F' H' e3 h3 r3 => q v F' H' (e2.trans e3) h3 r3⟩
/-- two numbers, one behind the other -/
theorem evM_op2 {o : R2} {a b : Int} {ds2 : List Int} (h1 : EvM p ds Γ ta cInt a ds1) (h2 : EvM p ds1 Γ tb cInt b ds2) (h : Ev Γ (tOp o (tC (.int a)) (tC (.int b))) c x) : EvM p ds Γ (tOp o ta tb) c x ds2 := fun F H σ S hp Q q =>
  h1 F H σ S hp _ fun u F1 H1 e1 g1 r1 => h2 F1 H1 σ (S.grow e1) g1 _ fun w F2 H2 e2 g2 r2 => by
    cases (show u = .int a from r1); cases (show w = .int b from r2)
    exact evM_pure (p := p) (ds := ds2) h F2 H2 σ ((S.grow e1).grow e2) g2 Q fun v F3 H3 e3 g3 r3 => q v F3 H3 ((e1.trans e2).trans e3) g3 r3
/-- a def called with a name and a number that changes the list -/
theorem evM_call2 {sp : Sp} {E : XK} {b : Int} {t : Int} (e : Γ[i]? = some (.val cInt t)) (h1 : EvM p ds Γ tb cInt b ds1) (h : Ev Γ (tCall sp [] E (tCons (tC (.int t)) (tCons (tC (.int b)) tNil))) c x) : EvM p ds Γ (tCall sp [] E (tCons (tVar i) (tCons tb tNil))) c x ds1 := fun F H σ S hp Q q => by
  obtain ⟨v, hv, rv⟩ := S.var e
  cases (show v = .int t from rv)
  refine ⟨.int t, hv, h1 F H σ S hp _ fun w F1 H1 e1 g1 r1 => ?_⟩
  cases (show w = .int b from r1)
  exact evM_pure (p := p) (ds := ds1) h F1 H1 σ (S.grow e1) g1 Q fun v F3 H3 e3 g3 r3 => q v F3 H3 (e1.trans e3) g3 r3
theorem evM_is {x' : β} (h : EvM p ds Γ te c x ds1) (e : x = x') (e2 : ds1 = ds') : EvM p ds Γ te c x' ds' := by subst e; subst e2; exact h
end
/-! ### statements -/
structure PsM (β : Type) where
  nx : List Int → Gam → Prop
  rt : List Int → β → Prop
structure ObM {β : Type} (c : Cod β) (p : Addr) (P : PsM β) (F0 H0 : Hp) (D : Ends) : Prop where
  nx : ∀ F H σ Γ ds, Stt F0 H0 F (hid p H) σ Γ → H p = some (.lst (vi ds)) → P.nx ds Γ → D.nx σ H
  rt : ∀ F H v d ds, Ext F0 H0 F (hid p H) → H p = some (.lst (vi ds)) → c.rep F v d → P.rt ds d → D.rt v H
def SM {β : Type} (c : Cod β) (p : Addr) (ds : List Int) (Γ : Gam) (t : TS) (P : PsM β) : Prop := ∀ F0 H0 F H σ D, Stt F0 H0 F (hid p H) σ Γ → H p = some (.lst (vi ds)) → ObM c p P F0 H0 D → t D σ H
section
variable {K : PySem.W.Frag} {Γ : Gam} {ta tb te : TE} {α β γ ρ : Type} {cR : Cod ρ} {c : Cod β} {x : β} {p : Addr} {ds ds' ds1 : List Int} {i j : Nat} {P : PsM ρ} {t u tz : TS}
theorem ObM.seq {F0 H0 : Hp} {D : Ends} (o : ObM cR p P F0 H0 D) : ObM cR p { P with nx := fun ds' Γ' => SM cR p ds' Γ' u P } F0 H0 { D with nx := u D } :=
  ⟨fun F H σ Γ ds S hp h => h F0 H0 F H σ D S hp o, o.rt⟩
theorem sm_seq (h : SM cR p ds Γ t { P with nx := fun ds' Γ' => SM cR p ds' Γ' u P }) : SM cR p ds Γ (tSeq t u) P := fun F0 H0 F H σ D S hp o => h F0 H0 F H σ _ S hp o.seq
theorem sm_next (h : P.nx ds Γ) : SM cR p ds Γ tNext P := fun F0 H0 F H σ D S hp o => o.nx F H σ Γ ds S hp h
theorem sm_wk {Γ' : Gam} (w : Wk Γ Γ') (h : SM cR p ds Γ' t P) : SM cR p ds Γ t P := fun F0 H0 F H σ D S hp o => h F0 H0 F H σ D (S.wk w) hp o
theorem sm_asg (h : EvM p ds Γ te c x ds') (k : P.nx ds' (Γ.set j (.val c x))) : SM cR p ds Γ (tAsg te (gName j)) P := fun F0 H0 F H σ D S hp o =>
  h F H σ S.sl hp _ fun v F1 H1 e1 g1 r1 => o.nx F1 H1 _ _ ds' ((S.grow e1).setV r1) g1 k
theorem qm_asg (h : EvM p ds Γ te c x ds') (k : SM cR p ds' (Γ.set j (.val c x)) tz P) : SM cR p ds Γ (tSeq (tAsg te (gName j)) tz) P := sm_seq (sm_asg h k)
theorem sm_un2 {α β : Type} {c : Cod α} {c2 : Cod β} {q : α × β} (h : EvM p ds Γ te (cPair K c c2) q ds') (k : P.nx ds' ((Γ.set i (.val c q.1)).set j (.val c2 q.2))) : SM cR p ds Γ (tAsg te (gTup K 2 (gCons (gName i) (gCons (gName j) gNil)))) P := fun F0 H0 F H σ D S hp o =>
  h F H σ S.sl hp _ fun v F1 H1 e1 g1 r1 => by
    obtain ⟨a, vs, rfl, h1, w1, vs1, rfl, r2, w2, vs2, rfl, r3, r4⟩ := r1
    cases (show vs2 = [] from r4)
    exact ⟨a, _, rfl, ex_t (hid_ex e1.i) h1, rfl, w1, _, rfl, w2, _, rfl, rfl, o.nx F1 H1 _ _ ds' (((S.grow e1).setV r2).setV r3) g1 k⟩
theorem sm_if {tt : TT} {b : Bool} (h : EvMT p ds Γ tt b ds') (k1 : b = true → SM cR p ds' Γ t P) (k2 : b = false → SM cR p ds' Γ u P) : SM cR p ds Γ (tIfS tt t u) P := fun F0 H0 F H σ D S hp o =>
  h F H σ S.sl hp _ fun F1 H1 e1 g1 => by
    cases b with
    | true => exact k1 rfl F0 H0 F1 H1 σ D (S.grow e1) g1 o
    | false => exact k2 rfl F0 H0 F1 H1 σ D (S.grow e1) g1 o
/-- the list's own place set -/
theorem sm_set {y k : Int} {n : Nat} (e : Γ[i]? = some (.val (cHand p) ())) (h : EvM p ds Γ te cInt y ds') (hi : Ev Γ tb cInt k) (hj : ixN ds'.length k = some n) (kk : P.nx (ds'.set n y) Γ) : SM cR p ds Γ (tAsg te (gSub (tVar i) tb rSetL)) P := fun F0 H0 F H σ D S hp o =>
  h F H σ S.sl hp _ fun v F1 H1 e1 g1 r1 => by
    cases (show v = .int y from r1)
    have S1 := S.grow e1
    obtain ⟨w, hw, rw'⟩ := S1.sl.var e
    cases (show w = .ref p from rw')
    refine ⟨.ref p, hw, hi F1 H1 σ (hid_sl S1.sl) _ fun z F2 H2 e2 r2 => ?_⟩
    obtain ⟨e3, g3⟩ := hid_ext g1 (hid_free S1.sl.ex) e2
    have S2 := S1.grow e3
    refine ⟨p, vi ds', k, n, rfl, r2, g3, by unfold vi; rw [List.length_map]; exact hj, ?_⟩
    rw [vi_set]
    exact o.nx F2 _ σ Γ _ (by rw [hid_upd]; exact S2) upd_same kk
theorem sm_ret (h : EvM p ds Γ te cR x' ds') (k : P.rt ds' x') : SM cR p ds Γ (tRet te) P := fun F0 H0 F H σ D S hp o =>
  h F H σ S.sl hp _ fun v F1 H1 e1 g1 r1 => o.rt F1 H1 v _ ds' (S.grow e1).ext g1 r1 k
/-- what does not touch the list -/
theorem sm_lift (h : SW (rVal cR) Γ t { nx := fun Γ' => P.nx ds Γ', rt := fun d => P.rt ds d, bk := fun _ => False, ct := fun _ => False }) : SM cR p ds Γ t P := fun F0 H0 F H σ D S hp o => by
  have hF := hid_free S.sl.ex
  have hF0 : F0 p = none := S.f.free hF
  have h00 : H0 p = none := S.h.free hid_same
  have S' : Stt F0 (upd H0 p (.lst (vi ds))) F H σ Γ := by
    refine ⟨hid_sl S.sl, S.f, fun a u q => ?_, fun a u q => ?_, fun l q oq hq => ?_⟩
    · by_cases z : a = p
      · subst z; rw [upd_same] at q; cases q; exact hp
      · rw [upd_ne z] at q; exact (hid_some (S.h a u q)).2
    · rcases S.n a u q with z | z
      · exact .inl z
      · by_cases y : a = p
        · subst y; rw [hF] at q; cases q
        · exact .inr (by rw [upd_ne y]; exact z)
    · have hn : q ≠ p := by
        cases g : Γ[l]? with
        | none => rw [g] at oq; exact oq.elim
        | some en =>
          cases en with
          | any => rw [g] at oq; exact oq.elim
          | val _ _ => rw [g] at oq; exact oq.elim
          | ob c' ds' =>
            obtain ⟨p', vs', y1, y2, y3, y4⟩ := S.sl.obj g
            rw [hq] at y1; cases y1
            exact (hid_some y3).1
      rw [upd_ne hn]; exact S.own l q oq hq
  have back : ∀ {F' H' : Hp}, Ext F0 (upd H0 p (.lst (vi ds))) F' H' → Ext F0 H0 F' (hid p H') ∧ H' p = some (.lst (vi ds)) := fun {F' H'} e => by
    have g := e.h p _ upd_same
    have f' : F' p = none := by
      cases q : F' p with
      | none => rfl
      | some u =>
        rcases e.n p u q with z | z
        · rw [hF0] at z; cases z
        · rw [upd_same] at z; cases z
    refine ⟨⟨e.f, fun a u q => ?_, fun a u q => ?_, fun a u q => ?_⟩, g⟩
    · have z : a ≠ p := fun z => by subst z; rw [h00] at q; cases q
      rw [hid_ne z]; exact e.h a u (by rw [upd_ne z]; exact q)
    · have z : a ≠ p := fun z => by subst z; rw [f'] at q; cases q
      rw [hid_ne z]; exact e.i a u q
    · rcases e.n a u q with z | z
      · exact .inl z
      · by_cases y : a = p
        · subst y; exact .inr h00
        · rw [upd_ne y] at z; exact .inr z
  refine h F0 _ F H σ D S' ⟨fun F' H' σ' Γ' T kk => ?_, fun F' H' v d e r kk => ?_, fun _ _ _ _ _ z => z.elim, fun _ _ _ _ _ z => z.elim, fun _ _ _ z => z.elim⟩
  · obtain ⟨e, g⟩ := back T.ext
    have own : ∀ (l : Nat) q, IsOwn Γ'[l]? → σ'[l]? = some (some (.ref q)) → q ≠ p := fun l q oq hq z => by
      have := T.own l q oq hq
      rw [z, upd_same] at this; cases this
    refine o.nx F' H' σ' Γ' ds ⟨⟨e.i, T.sl.len, fun l s f e1 e2 => ?_, T.sl.dis⟩, e.f, e.h, e.n, fun l q oq hq => ?_⟩ g kk
    · have ok := T.sl.ok l s f e1 e2
      cases f with
      | any => trivial
      | val c' d' => exact ok
      | ob c' ds' =>
        obtain ⟨p', vs', y1, y2, y3, y4⟩ := ok
        subst y1
        exact ⟨p', vs', rfl, y2, by rw [hid_ne (own l p' (by rw [e2]; trivial) e1)]; exact y3, y4⟩
    · have := T.own l q oq hq
      rw [upd_ne (own l q oq hq)] at this; exact this
  · obtain ⟨e', g⟩ := back e
    exact o.rt F' H' v d ds e' g r kk
/-- for k in range(m), the list changed in each turn -/
theorem sm_forR1 {m : Int} (h : Ev Γ ta cInt m) (hm : m ≤ 2 ^ 60) (hm0 : -(2 ^ 60) ≤ m) (I : Nat → List Int → Gam → Prop) (h0 : I 0 ds Γ)
    (hb : ∀ (n : Nat) ds' Γ', (n : Int) < m → I n ds' Γ' → SM cR p ds' (Γ'.set j (.val cInt (n : Int))) t { P with nx := I (n + 1) }) (hd : ∀ ds' Γ', I m.toNat ds' Γ' → P.nx ds' Γ') : SM cR p ds Γ (tFor (iRng1 (tCons ta tNil)) (gName j) t) P := fun F0 H0 F H σ D S hp o =>
  h F H σ (hid_sl S.sl) _ fun v F1 H1 e1 r1 => by
    cases (show v = .int m from r1)
    obtain ⟨e2, g2⟩ := hid_ext hp (hid_free S.sl.ex) e1
    have S1 := S.grow e2
    refine ⟨m, rfl, by omega, by omega, for_range (lo := 0) (n := m.toNat) (fun n σ H => ∃ F Γ' ds', Stt F0 H0 F (hid p H) σ Γ' ∧ H p = some (.lst (vi ds')) ∧ I n ds' Γ') ⟨F1, Γ, ds, S1, g2, h0⟩ ?_ ?_⟩
    · rintro n σ H hn ⟨F, Γ', ds', T, g, hI⟩
      have T1 : Stt F0 H0 F (hid p H) (σ.set j (some (.int (0 + (n : Int))))) (Γ'.set j (.val cInt (n : Int))) := T.setV (by rw [Int.zero_add]; rfl)
      exact hb n ds' Γ' (by omega) hI F0 H0 F H _ _ T1 g ⟨fun F2 H2 σ2 Γ2 ds2 U g2 h2 => ⟨F2, Γ2, ds2, U, g2, h2⟩, o.rt⟩
    · rintro σ H ⟨F, Γ', ds', T, g, hI⟩
      exact o.nx F H σ Γ' ds' T g (hd ds' Γ' hI)
/-- one's own list grows by what changes the list -/
theorem sm_app {ls : List β} {k : Nat} (e : Γ[k]? = some (.own c ls)) (h : EvM p ds Γ te c x ds') (hz : ls.length < 1000000) (kk : P.nx ds' (Γ.set k (.own c (ls ++ [x])))) : SM cR p ds Γ (tDrop (tBM K "list" rAppend (tVar k) (tCons te tNil))) P := fun F0 H0 F H σ D S hp o => by
  obtain ⟨q, vs, s1, f1, h1, r1⟩ := S.sl.owned e
  obtain ⟨ne, h1'⟩ := hid_some h1
  refine ⟨.ref q, s1, .inl ⟨rfl, vs, .inl (.inl h1')⟩, h F H σ S.sl hp _ fun v F1 H1 e1 g1 rv => ?_⟩
  have S1 := S.grow e1
  obtain ⟨q2, vs2, z1, z2, z3, z4⟩ := S1.sl.owned e
  rw [s1] at z1; cases z1
  obtain ⟨_, z3'⟩ := hid_some z3
  refine ⟨q, vs2, v, rfl, rfl, z3', by rw [z4.len]; exact sz_lt hz, ?_⟩
  have W := S1.write e s1 z2 (z4.append (Reps.one rv))
  refine o.nx F1 _ σ _ ds' ?_ (by rw [upd_ne (Ne.symm ne)]; exact g1) kk
  have : hid p (upd H1 q (.lst (vs2 ++ [v]))) = upd (hid p H1) q (.lst (vs2 ++ [v])) := by
    funext a
    by_cases y : a = p
    · subst y; rw [hid_same, upd_ne (Ne.symm ne), hid_same]
    · rw [hid_ne y]
      by_cases w : a = q
      · subst w; rw [upd_same, upd_same]
      · rw [upd_ne w, upd_ne w, hid_ne y]
  rw [this]; exact W
end
/-- a changing def's body -/
theorem body_M {β : Type} {pre : List Int → Int → Prop} {c : Cod β} {f : List Int → Int → β × List Int} {t : TS} {vs : List V} {H : Hp} {Q : VK} {E : XK} {N : List Str} (m : Nat)
    (h : ∀ p ds k, pre ds k → SM c p ds ([.val (cHand p) (), .val cInt k] ++ List.replicate m .any) t { nx := fun _ _ => False, rt := fun ds' v => v = (f ds k).1 ∧ ds' = (f ds k).2 }) (hN : N.length = 2 + m) (hs : SpM pre c f vs H Q E) : t (ends Q) (start N vs) H := by
  obtain ⟨p, ds, k, F, rfl, hp, e, pr, q⟩ := hs
  have S : Stt F (hid p H) F (hid p H) (start N [.ref p, .int k]) ([.val (cHand p) (), .val cInt k] ++ List.replicate m .any) :=
    stt_start (ca := aCons (cHand p) (aCons cInt aNil)) (a := ((), k, ())) e ⟨_, _, rfl, rfl, _, _, rfl, rfl, rfl⟩ m (by rw [hN]; rfl)
  exact h p ds k pr F (hid p H) F H _ _ S hp ⟨fun _ _ _ _ _ _ _ z => z.elim, fun F' H' v d ds' x g r z => by
    obtain ⟨rfl, rfl⟩ := z
    exact q v F' H' x g r⟩
theorem len_M {β : Type} {pre : List Int → Int → Prop} {c : Cod β} {f : List Int → Int → β × List Int} {vs : List V} {H : Hp} {Q : VK} {E : XK} (hs : SpM pre c f vs H Q E) : vs.length = 2 := by
  obtain ⟨p, ds, k, F, rfl, _⟩ := hs; rfl
end Pw

/-! a def that uses up a new list; int(a bool) -/
namespace Pw
open PySem PySem.Spec PyProof.Rows L2
abbrev rInt1 : List V → Hp → VK → Prop := fun xs H Q => (∃ i, xs = [.int i] ∧ Q (.int i) H) ∨ ∃ k, xs = [.bl k] ∧ Q (.int (if k then 1 else 0)) H
theorem reps_vi {F : Hp} : ∀ {vs : List V} {ds : List Int}, Reps cInt F vs ds → vs = vi ds
  | [], [], _ => rfl
  | v :: vs, d :: ds, h => by
    have h1 : v = .int d := h.1
    have h2 := reps_vi (vs := vs) (ds := ds) h.2
    rw [h1, h2]; rfl
  | [], _ :: _, h => h.elim
  | _ :: _, [], h => h.elim
/-- a def that changes the one list handed to it as it likes, and tells a value -/
def SpM1 {β : Type} (pre : List Int → Prop) (c : Cod β) (f : List Int → β) : Sp := fun vs H Q _ => ∃ p ds F, vs = [.ref p] ∧ H p = some (.lst (vi ds)) ∧ Ex F (hid p H) ∧ pre ds ∧
  ∀ v F' H' ds', Ext F (hid p H) F' (hid p H') → H' p = some (.lst (vi ds')) → c.rep F' v (f ds) → Q v H'
section
variable {K : PySem.W.Frag} {Γ : Gam} {ta te : TE} {β : Type} {c : Cod β}
theorem ev_int1B {b : Bool} (h : Ev Γ ta cBool b) : Ev Γ (tCB rInt1 (tCons ta tNil)) cInt (if b then 1 else 0) := fun F H σ S Q q =>
  h F H σ S _ fun v F1 H1 e1 r1 => by
    cases (show v = .bl b from r1)
    exact .inr ⟨b, rfl, q _ F1 H1 e1 rfl⟩
theorem qm_join {ρ : Type} {cR : Cod ρ} {P : PsM ρ} {t tz : TS} {p : Addr} {ds : List Int} (M : List Int → Gam → Prop) (h1 : SM cR p ds Γ t { P with nx := M }) (h2 : ∀ d Γ', M d Γ' → SM cR p d Γ' tz P) : SM cR p ds Γ (tSeq t tz) P := fun F0 H0 F H σ D S hp o =>
  h1 F0 H0 F H σ _ S hp ⟨fun F' H' σ' Γ' d' T g m => h2 d' Γ' m F0 H0 F' H' σ' D T g o, o.rt⟩
theorem evMT_test {p : Addr} {ds ds' : List Int} {b : Bool} (h : EvM p ds Γ te cBool b ds') : EvMT p ds Γ (tTest te) b ds' := fun F H σ S hp Q q =>
  h F H σ S hp _ fun v F1 H1 e1 g1 r1 => by
    cases (show v = .bl b from r1)
    exact ⟨b, rfl, q F1 H1 e1 g1⟩
theorem ev_callM1 {pre : List Int → Prop} {f : List Int → β} {ds : List Int} {E : XK} (h : EvN Γ ta cInt ds) (hp : pre ds) : Ev Γ (tCall (SpM1 pre c f) [] E (tCons ta tNil)) c (f ds) := fun F H σ S Q q =>
  h F H σ S _ fun p vs F1 H1 e1 a1 b1 d1 r1 => by
    have e := reps_vi r1
    subst e
    refine ⟨p, ds, F1, rfl, d1, fun a o ha => ?_, hp, fun v F' H' ds' e2 g r => q v F' H' ⟨e1.f.trans e2.f, fun a o ha => ?_, hid_ex e2.i, fun a o ha => ?_⟩ r⟩
    · have z : a ≠ p := fun z => by subst z; rw [b1] at ha; cases ha
      rw [hid_ne z]; exact e1.i a o ha
    · have z : a ≠ p := fun z => by subst z; rw [a1] at ha; cases ha
      have := e2.h a o (by rw [hid_ne z]; exact e1.h a o ha)
      exact (hid_some this).2
    · rcases e2.n a o ha with z | z
      · exact e1.n a o z
      · by_cases y : a = p
        · subst y; exact .inr a1
        · rw [hid_ne y] at z; exact .inr (e1.h.free z)
end
theorem body_M1 {β : Type} {pre : List Int → Prop} {c : Cod β} {f : List Int → β} {t : TS} {vs : List V} {H : Hp} {Q : VK} {E : XK} {N : List Str} (m : Nat)
    (h : ∀ p ds, pre ds → SM c p ds ([.val (cHand p) ()] ++ List.replicate m .any) t { nx := fun _ _ => False, rt := fun _ v => v = f ds }) (hN : N.length = 1 + m) (hs : SpM1 pre c f vs H Q E) : t (ends Q) (start N vs) H := by
  obtain ⟨p, ds, F, rfl, hp, e, pr, q⟩ := hs
  have S : Stt F (hid p H) F (hid p H) (start N [.ref p]) ([.val (cHand p) ()] ++ List.replicate m .any) :=
    stt_start (ca := aCons (cHand p) aNil) (a := ((), ())) e ⟨_, _, rfl, rfl, rfl⟩ m (by rw [hN]; rfl)
  exact h p ds pr F (hid p H) F H _ _ S hp ⟨fun _ _ _ _ _ _ _ z => z.elim, fun F' H' v d ds' x g r z => by
    subst z
    exact q v F' H' ds' x g r⟩
theorem len_M1 {β : Type} {pre : List Int → Prop} {c : Cod β} {f : List Int → β} {vs : List V} {H : Hp} {Q : VK} {E : XK} (hs : SpM1 pre c f vs H Q E) : vs.length = 1 := by
  obtain ⟨p, ds, F, rfl, _⟩ := hs; rfl
end Pw

/-! raise C() of an own class; an own list emptied -/
namespace L2
open PySem PySem.Spec PyProof.Rows
section
variable {X : Cx} {C : Addr} {bmB : List Value} {B newId initId : String}
/-- X() -/
theorem pmk_own0 {x : Str} {p pos : Pos} (F : ExcBaseFacts B newId initId bmB) (q : PySem.W.excIn X.K C bmB newId = true) (gC : X.mg x = some (.ref C)) (kC : PySem.W.keepIn X.K (.ref C) = true) (r : Raises X (.ref C)) (hg : Gl X x)
    (hdb : (x == ("__debug__" : Str)) = false := by decide) : PMk X (.Call (.Name x p) [] [] pos) (fun _ H Q => Q (.ref C) none H) := by
  intro pins s σ H Q I h
  refine wpAny_Call_Name_kw (ld_glob I hg gC ?_ hdb)
  refine PySem.W.callWith_K0 I.kIn kC ?_
  show wpAny _ _ (call (.ref C) []) _ _ _
  obtain ⟨bm, N, nm, qn, bs, hdct, sn, sub, ab, col, dd, k0, k1, k2, k3, k5, mN, hC, hN, hni, T⟩ := exc_obj I.kIn q
  refine wpAny_call_exc_subT F T hC hN hni (fun h' e hm => ?_) (Nat.zero_le _)
  exact mk_of I hm r h (I.hok.gone hm.new)
end
end L2
namespace L2N
open PySem PySem.Spec PyProof.Rows L2
section
variable {X : Cx} {C : Addr} {bmB : List Value} {B newId initId : String}
theorem pmk_own0 {x : Str} {p pos : Pos} (F : ExcBaseFacts B newId initId bmB) (q : PySem.W.excIn X.K C bmB newId = true) (gC : X.mg x = some (.ref C)) (kC : PySem.W.keepIn X.K (.ref C) = true) (r : Raises X (.ref C)) (hg : Gl X x)
    (hdb : (x == ("__debug__" : Str)) = false := by decide) : PMk X (.Call (.Name x p) [] [] pos) (fun _ H Q => Q (.ref C) none H) := by
  intro pins s σ H Q I h
  refine wpAny_Call_Name_kw (ld_glob I hg gC ?_ hdb)
  refine PySem.W.callWith_K0 I.kIn kC ?_
  show wpAny _ _ (call (.ref C) []) _ _ _
  obtain ⟨bm, N, nm, qn, bs, hdct, sn, sub, ab, col, dd, k0, k1, k2, k3, k5, mN, hC, hN, hni, T⟩ := exc_obj I.kIn q
  refine wpAny_call_exc_subT F T hC hN hni (fun h' e hm => ?_) (Nat.zero_le _)
  exact mk_of I hm r h (I.hok.gone hm.new)
end
end L2N

/-! a list of new lists that stands aside: it grows, its lists are looked at and changed -/
namespace Pw
open PySem PySem.Spec PyProof.Rows L2
def hidS (L : List Addr) (H : Hp) : Hp := fun a => if a ∈ L then none else H a
theorem hidS_in {L : List Addr} {H : Hp} {a : Addr} (h : a ∈ L) : hidS L H a = none := if_pos h
theorem hidS_ne {L : List Addr} {H : Hp} {a : Addr} (h : a ∉ L) : hidS L H a = H a := if_neg h
theorem hidS_some {L : List Addr} {H : Hp} {a : Addr} {o : HO} (h : hidS L H a = some o) : a ∉ L ∧ H a = some o := by
  by_cases z : a ∈ L
  · rw [hidS_in z] at h; cases h
  · rw [hidS_ne z] at h; exact ⟨z, h⟩
abbrev adr {α : Type} (q : Addr) (os : Os α) : List Addr := q :: os.map Prod.fst
structure HL {α : Type} (c : Cod α) (F H : Hp) (q : Addr) (os : Os α) : Prop where
  n : (adr q os).Nodup
  q : H q = some (.lst (refs os))
  i : ∀ o ∈ os, ∃ ws, H o.1 = some (.lst ws) ∧ Reps c F ws o.2
section
variable {α : Type} {c : Cod α} {F H F' H' : Hp} {σ : L2.St} {Γ : Gam} {q : Addr} {os : Os α} {L : List Addr}
theorem HL.live (h : HL c F H q os) : ∀ a ∈ adr q os, ∃ u, H a = some u := fun a ha => by
  rcases List.mem_cons.mp ha with z | z
  · subst z; exact ⟨_, h.q⟩
  · obtain ⟨o, ho, e⟩ := List.mem_map.mp z
    subst e
    obtain ⟨ws, h1, _⟩ := h.i o ho
    exact ⟨_, h1⟩
theorem hidS_free (e : Ex F (hidS L H)) {a : Addr} (h : a ∈ L) : F a = none := e.free (hidS_in h)
theorem hidS_ex (e : Ex F (hidS L H)) : Ex F H := fun a u h => (hidS_some (e a u h)).2
theorem hidS_ent {s : Option V} {e : Ent} (h : EntOk F (hidS L H) s e) : EntOk F H s e := by
  cases e with
  | any => trivial
  | val c d => exact h
  | ob c ds =>
    obtain ⟨q, vs, h1, h2, h3, h4⟩ := h
    exact ⟨q, vs, h1, h2, (hidS_some h3).2, h4⟩
theorem hidS_sl (S : Sl F (hidS L H) σ Γ) : Sl F H σ Γ := ⟨hidS_ex S.ex, S.len, fun i s e h1 h2 => hidS_ent (S.ok i s e h1 h2), S.dis⟩
/-- what goes on beside leaves the lists as they are -/
theorem hidS_ext (hf : ∀ a ∈ L, F a = none) (hl : ∀ a ∈ L, ∃ u, H a = some u) (e : Ext F H F' H') : Ext F (hidS L H) F' (hidS L H') := by
  have f' : ∀ a ∈ L, F' a = none := fun a ha => by
    obtain ⟨u, hu⟩ := hl a ha
    cases y : F' a with
    | none => rfl
    | some w =>
      rcases e.n a w y with z | z
      · rw [hf a ha] at z; cases z
      · rw [hu] at z; cases z
  refine ⟨e.f, fun a u h => ?_, fun a u h => ?_, fun a u h => ?_⟩
  · obtain ⟨z, h⟩ := hidS_some h
    rw [hidS_ne z]; exact e.h a u h
  · have z : a ∉ L := fun z => by rw [f' a z] at h; cases h
    rw [hidS_ne z]; exact e.i a u h
  · rcases e.n a u h with y | y
    · exact .inl y
    · right
      by_cases z : a ∈ L
      · exact hidS_in z
      · rw [hidS_ne z]; exact y
theorem HL.grow (h : HL c F H q os) (e : Ext F H F' H') : HL c F' H' q os := ⟨h.n, e.h _ _ h.q, fun o ho => by
  obtain ⟨ws, h1, h2⟩ := h.i o ho
  exact ⟨ws, e.h _ _ h1, h2.mono e.f⟩⟩
/-- lists that are new are put aside -/
theorem stt_hide {F0 H0 : Hp} (S : Stt F0 H0 F H σ Γ) (hf : ∀ a ∈ L, F a = none) (h0 : ∀ a ∈ L, H0 a = none) (ho : ∀ (l : Nat) p, IsOwn Γ[l]? → σ[l]? = some (some (.ref p)) → p ∉ L) : Stt F0 H0 F (hidS L H) σ Γ := by
  refine ⟨⟨fun a u h => ?_, S.sl.len, fun l s f e1 e2 => ?_, S.sl.dis⟩, S.f, fun a u h => ?_, S.n, S.own⟩
  · have z : a ∉ L := fun z => by rw [hf a z] at h; cases h
    rw [hidS_ne z]; exact S.sl.ex a u h
  · have ok := S.sl.ok l s f e1 e2
    cases f with
    | any => trivial
    | val c' d' => exact ok
    | ob c' ds' =>
      obtain ⟨p', vs', y1, y2, y3, y4⟩ := ok
      subst y1
      exact ⟨p', vs', rfl, y2, by rw [hidS_ne (ho l p' (by rw [e2]; trivial) e1)]; exact y3, y4⟩
  · have z : a ∉ L := fun z => by rw [h0 a z] at h; cases h
    rw [hidS_ne z]; exact S.h a u h
end
/-- a list of new lists -/
def rLn {β : Type} (c : Cod β) : RR (List (List β)) := fun H0 F H v dss => ∃ q os, v = .ref q ∧ HL c F H q os ∧ (∀ a ∈ adr q os, F a = none ∧ H0 a = none) ∧ os.map Prod.snd = dss
structure PsL (α ρ : Type) where
  nx : Os α → Gam → Prop
  bk : Os α → Gam → Prop
  rt : ρ → Prop
structure ObL {α ρ : Type} (R : RR ρ) (c : Cod α) (q : Addr) (P : PsL α ρ) (F0 H0 : Hp) (D : Ends) : Prop where
  nx : ∀ F H σ Γ os, Stt F0 H0 F (hidS (adr q os) H) σ Γ → HL c F H q os → P.nx os Γ → D.nx σ H
  bk : ∀ F H σ Γ os, Stt F0 H0 F (hidS (adr q os) H) σ Γ → HL c F H q os → P.bk os Γ → D.bk σ H
  rt : ∀ F H v d, Ext F0 H0 F H → R H0 F H v d → P.rt d → D.rt v H
def SL {α ρ : Type} (R : RR ρ) (c : Cod α) (q : Addr) (os : Os α) (Γ : Gam) (t : TS) (P : PsL α ρ) : Prop := ∀ F0 H0 F H σ D, Stt F0 H0 F (hidS (adr q os) H) σ Γ → HL c F H q os → ObL R c q P F0 H0 D → t D σ H
section
variable {K : PySem.W.Frag} {Γ : Gam} {ta tb te : TE} {α β γ ρ : Type} {c : Cod α} {c2 : Cod β} {x : β} {R : RR ρ} {q : Addr} {os : Os α} {i j : Nat} {P : PsL α ρ} {t u tz : TS} {ds1 ds2 : List α}
theorem stt_unhide {F0 H0 F H : Hp} {σ : L2.St} (S : Stt F0 H0 F (hidS (adr q os) H) σ Γ) : Ext F0 H0 F H := by
  have e := S.ext
  exact ⟨e.f, fun a u h => (hidS_some (e.h a u h)).2, hidS_ex e.i, e.n⟩
theorem ObL.seq {F0 H0 : Hp} {D : Ends} (o : ObL R c q P F0 H0 D) : ObL R c q { P with nx := fun os' Γ' => SL R c q os' Γ' u P } F0 H0 { D with nx := u D } :=
  ⟨fun F H σ Γ os S h k => k F0 H0 F H σ D S h o, o.bk, o.rt⟩
theorem sl_seq (h : SL R c q os Γ t { P with nx := fun os' Γ' => SL R c q os' Γ' u P }) : SL R c q os Γ (tSeq t u) P := fun F0 H0 F H σ D S hl o => h F0 H0 F H σ _ S hl o.seq
theorem sl_next (h : P.nx os Γ) : SL R c q os Γ tNext P := fun F0 H0 F H σ D S hl o => o.nx F H σ Γ os S hl h
theorem sl_brk (h : P.bk os Γ) : SL R c q os Γ tBreak P := fun F0 H0 F H σ D S hl o => o.bk F H σ Γ os S hl h
theorem sl_wk {Γ' : Gam} (w : Wk Γ Γ') (h : SL R c q os Γ' t P) : SL R c q os Γ t P := fun F0 H0 F H σ D S hl o => h F0 H0 F H σ D (S.wk w) hl o
theorem sl_freeze (K : PySem.W.Frag) {ds : List β} (i : Nat) (e : Γ[i]? = some (.own c2 ds)) (h : SL R c q os (Γ.set i (.val (cList K c2) ds)) t P) : SL R c q os Γ t P := fun F0 H0 F H σ D S hl o => by
  obtain ⟨F', f1, S'⟩ := S.freeze K e
  exact h F0 H0 F' H σ D S' ⟨hl.n, hl.q, fun o ho => by obtain ⟨ws, h1, h2⟩ := hl.i o ho; exact ⟨ws, h1, h2.mono f1⟩⟩ o
/-- a value beside the lists -/
theorem sl_asg (h : Ev Γ te c2 x) (k : P.nx os (Γ.set j (.val c2 x))) : SL R c q os Γ (tAsg te (gName j)) P := fun F0 H0 F H σ D S hl o =>
  h F H σ (hidS_sl S.sl) _ fun v F1 H1 e1 r1 => by
    have e2 := hidS_ext (fun a ha => hidS_free S.sl.ex ha) hl.live e1
    exact o.nx F1 H1 _ _ os ((S.grow e2).setV r1) (hl.grow e1) k
theorem sl_if {tt : TT} {b : Bool} (h : EvT Γ tt b) (k1 : b = true → SL R c q os Γ t P) (k2 : b = false → SL R c q os Γ u P) : SL R c q os Γ (tIfS tt t u) P := fun F0 H0 F H σ D S hl o =>
  h F H σ (hidS_sl S.sl) _ fun F1 H1 e1 => by
    have e2 := hidS_ext (fun a ha => hidS_free S.sl.ex ha) hl.live e1
    cases b with
    | true => exact k1 rfl F0 H0 F1 H1 σ D (S.grow e2) (hl.grow e1) o
    | false => exact k2 rfl F0 H0 F1 H1 σ D (S.grow e2) (hl.grow e1) o
/-- the list of lists handed back -/
theorem sl_ret {P : PsL α (List (List α))} (e : Γ[i]? = some (.val (cHand q) ())) (k : P.rt (os.map Prod.snd)) : SL (rLn c) c q os Γ (tRet (tVar i)) P := fun F0 H0 F H σ D S hl o => by
  obtain ⟨v, hv, rv⟩ := S.sl.var e
  cases (show v = .ref q from rv)
  refine ⟨.ref q, hv, o.rt F H (.ref q) _ (stt_unhide S) ⟨q, os, rfl, hl, fun a ha => ⟨hidS_free S.sl.ex ha, S.h.free (hidS_in ha)⟩, rfl⟩ k⟩
/-- found.append(a new list) -/
theorem sl_app (e : Γ[i]? = some (.val (cHand q) ())) (h : EvN Γ te c ds1) (hz : os.length < 1000000) (k : ∀ p, P.nx (os ++ [(p, ds1)]) Γ) : SL R c q os Γ (tDrop (tBM K "list" rAppend (tVar i) (tCons te tNil))) P := fun F0 H0 F H σ D S hl o => by
  obtain ⟨v, hv, rv⟩ := S.sl.var e
  cases (show v = .ref q from rv)
  refine ⟨.ref q, hv, .inl ⟨rfl, refs os, .inl (.inl hl.q)⟩, h F H σ (hidS_sl S.sl) _ fun p ws F1 H1 e1 a1 b1 d1 r1 => ?_⟩
  have hf : ∀ a ∈ adr q os, F a = none := fun a ha => hidS_free S.sl.ex ha
  have e2 := hidS_ext hf hl.live e1
  have hl1 := hl.grow e1
  have S1 := S.grow e2
  have pn : p ∉ adr q os := fun z => by
    obtain ⟨w, hw⟩ := hl.live p z
    rw [a1] at hw; cases hw
  have pq : p ≠ q := fun z => pn (z ▸ List.mem_cons_self)
  refine ⟨q, refs os, .ref p, rfl, rfl, hl1.q, by unfold refs; rw [List.length_map]; exact sz_lt hz, ?_⟩
  have er : refs os ++ [V.ref p] = refs (os ++ [(p, ds1)]) := by unfold refs; rw [List.map_append]; rfl
  rw [er]
  have hh : hidS (adr q (os ++ [(p, ds1)])) (upd H1 q (.lst (refs (os ++ [(p, ds1)])))) = hidS [p] (hidS (adr q os) H1) := by
    funext a
    by_cases y : a ∈ adr q os
    · have y2 : a ∈ adr q (os ++ [(p, ds1)]) := by
        unfold adr at y ⊢
        rw [List.map_append]
        rcases List.mem_cons.mp y with z | z
        · exact List.mem_cons.mpr (.inl z)
        · exact List.mem_cons.mpr (.inr (List.mem_append_left _ z))
      rw [hidS_in y2]
      by_cases z : a ∈ [p]
      · rw [hidS_in z]
      · rw [hidS_ne z, hidS_in y]
    · have yq : a ≠ q := fun z => y (z ▸ List.mem_cons_self)
      by_cases z : a = p
      · subst z
        rw [hidS_in (List.mem_singleton.mpr rfl), hidS_in (by unfold adr; rw [List.map_append]; exact List.mem_cons.mpr (.inr (List.mem_append_right _ (List.mem_singleton.mpr rfl))))]
      · have y2 : a ∉ adr q (os ++ [(p, ds1)]) := fun w => by
          unfold adr at w
          rw [List.map_append] at w
          rcases List.mem_cons.mp w with w | w
          · exact yq w
          · rcases List.mem_append.mp w with w | w
            · exact y (List.mem_cons.mpr (.inr w))
            · exact z (List.mem_singleton.mp w)
        rw [hidS_ne y2, hidS_ne (fun w => z (List.mem_singleton.mp w)), hidS_ne y, upd_ne yq]
  refine o.nx F1 _ σ Γ (os ++ [(p, ds1)]) ?_ ⟨?_, upd_same, fun o' ho' => ?_⟩ (k p)
  · rw [hh]
    refine stt_hide S1 (fun a ha => by rw [List.mem_singleton.mp ha]; exact b1) (fun a ha => by
      rw [List.mem_singleton.mp ha]
      cases y : H0 p with
      | none => rfl
      | some w =>
        have := (hidS_some (S.h p w y)).2
        rw [a1] at this; cases this) fun l p' ol hp' z => ?_
    have z := List.mem_singleton.mp z
    subst z
    cases g : Γ[l]? with
    | none => rw [g] at ol; exact ol.elim
    | some en =>
      cases en with
      | any => rw [g] at ol; exact ol.elim
      | val _ _ => rw [g] at ol; exact ol.elim
      | ob c' ds' =>
        obtain ⟨p2, vs2, y1, y2, y3, y4⟩ := S.sl.obj g
        rw [hp'] at y1; cases y1
        have := (hidS_some y3).2
        rw [a1] at this; cases this
  · unfold adr
    rw [List.map_append]
    have hn := hl.n
    unfold adr at hn pn
    rw [← List.cons_append]
    refine List.nodup_append.mpr ⟨hn, by simp, fun a ha b hb => ?_⟩
    rw [show b = p by simpa using hb]
    exact fun z => pn (z ▸ ha)
  · rcases List.mem_append.mp ho' with w | w
    · obtain ⟨ws', h1, h2⟩ := hl1.i o' w
      have ne : o'.1 ≠ q := fun z => by
        have hn := hl.n
        unfold adr at hn
        rw [List.nodup_cons] at hn
        exact hn.1 (z ▸ List.mem_map.mpr ⟨o', w, rfl⟩)
      exact ⟨ws', by rw [upd_ne ne]; exact h1, h2⟩
    · rw [List.mem_singleton.mp w]
      exact ⟨ws, by rw [upd_ne pq]; exact d1, r1⟩
/-- all of them in the lasting heap for a while -/
theorem lendL (K : PySem.W.Frag) {F H : Hp} {σ : L2.St} (S : Sl F (hidS (adr q os) H) σ Γ) (hl : HL c F H q os) (e : Γ[i]? = some (.val (cHand q) ())) :
    ∃ G, Ex F G ∧ Sl G H σ (Γ.set i (.val (cList K (cList K c)) (os.map Prod.snd))) ∧ (∀ a u, G a = some u → F a = some u ∨ a ∈ adr q os) ∧ (∀ a, a ∉ adr q os → G a = F a) ∧ ∀ a ∈ adr q os, ∃ xs, G a = some (.lst xs) := by
  have hf : ∀ a ∈ adr q os, F a = none := fun a ha => hidS_free S.ex ha
  have hn := hl.n
  unfold adr at hn
  rw [List.nodup_cons] at hn
  obtain ⟨G1, g1, g2, g3, g4, g5⟩ := NewL.frame (c := c) (os := os) (H0 := F) (hidS_ex S.ex) ⟨hn.2, fun o ho => by
    obtain ⟨ws, h1, h2⟩ := hl.i o ho
    have := hf o.1 (List.mem_cons.mpr (.inr (List.mem_map.mpr ⟨o, ho, rfl⟩)))
    exact ⟨this, this, ws, h1, h2⟩⟩
  have gq : G1 q = none := by
    rw [g5 q fun o ho z => hn.1 (z ▸ List.mem_map.mpr ⟨o, ho, rfl⟩)]
    exact hf q List.mem_cons_self
  have xq : Ex G1 (upd G1 q (.lst (refs os))) := Ex.new gq
  have eG : Ex F (upd G1 q (.lst (refs os))) := g1.trans xq
  have il : i < Γ.length := (List.getElem?_eq_some_iff.mp e).1
  obtain ⟨v, hv, rv⟩ := S.var e
  cases (show v = .ref q from rv)
  have own' : ∀ y : Nat, IsOwn (Γ.set i (.val (cList K (cList K c)) (os.map Prod.snd)))[y]? → IsOwn Γ[y]? := fun y hy => by
    rw [List.getElem?_set] at hy
    by_cases z : i = y
    · subst z; rw [if_pos rfl, if_pos il] at hy; exact hy.elim
    · rw [if_neg z] at hy; exact hy
  have out : ∀ a, a ∉ adr q os → upd G1 q (.lst (refs os)) a = F a := fun a ha => by
    have n1 : a ≠ q := fun z => ha (by rw [z]; exact List.mem_cons_self)
    rw [upd_ne n1]
    exact g5 a fun o ho z => ha (List.mem_cons.mpr (.inr (List.mem_map.mpr ⟨o, ho, z.symm⟩)))
  refine ⟨upd G1 q (.lst (refs os)), eG, ⟨ex_add g2 hl.q, by rw [List.length_set]; exact S.len, fun y s f e1 e2 => ?_, fun a b q' hab oa ob => S.dis a b q' hab (own' a oa) (own' b ob)⟩, fun a u ha => ?_, out, fun a ha => ?_⟩
  · rw [List.getElem?_set] at e2
    by_cases z : i = y
    · subst z
      rw [if_pos rfl, if_pos il] at e2
      cases e2
      rw [hv] at e1; cases e1
      refine ⟨_, rfl, q, refs os, rfl, .inl (.inl upd_same), ?_⟩
      have : ∀ os' : Os α, (∀ o ∈ os', o ∈ os) → Reps (cList K c) (upd G1 q (.lst (refs os))) (refs os') (os'.map Prod.snd) := fun os' => by
        induction os' with
        | nil => intro _; trivial
        | cons o os' ih =>
          intro hm
          obtain ⟨ws, k1, k2⟩ := g3 o (hm o List.mem_cons_self)
          exact ⟨⟨o.1, ws, rfl, .inl (.inl (xq _ _ k1)), k2.mono xq⟩, ih fun o' ho' => hm o' (List.mem_cons_of_mem _ ho')⟩
      exact this os fun _ h => h
    · rw [if_neg z] at e2
      have ok := S.ok y s f e1 e2
      cases f with
      | any => trivial
      | val c' d' => obtain ⟨v, h1, h2⟩ := ok; exact ⟨v, h1, c'.mono eG h2⟩
      | ob c' ds' =>
        obtain ⟨p', vs', h1, h2, h3, h4⟩ := ok
        subst h1
        obtain ⟨ne, h3⟩ := hidS_some h3
        exact ⟨p', vs', rfl, by rw [out p' ne]; exact h2, h3, c'.mono eG h4⟩
  · by_cases z : a ∈ adr q os
    · exact .inr z
    · rw [out a z] at ha; exact .inl ha
  · rcases List.mem_cons.mp ha with z | z
    · subst z; exact ⟨_, upd_same⟩
    · obtain ⟨o, ho, w⟩ := List.mem_map.mp z
      subst w
      obtain ⟨ws, k1, _⟩ := g3 o ho
      exact ⟨ws, xq _ _ k1⟩
/-- .. and out of it again -/
theorem backL {F H G F' H' : Hp} {L : List Addr} (hf : ∀ a ∈ L, F a = none) (hl : ∀ a ∈ L, ∃ u, H a = some u) (eG : Ex F G) (gn : ∀ a u, G a = some u → F a = some u ∨ a ∈ L) (e : Ext G H F' H') : Ext F (hidS L H) (hidS L F') (hidS L H') := by
  refine ⟨fun a u h => ?_, fun a u h => ?_, fun a u h => ?_, fun a u h => ?_⟩
  · have z : a ∉ L := fun z => by rw [hf a z] at h; cases h
    rw [hidS_ne z]; exact e.f a u (eG a u h)
  · obtain ⟨z, h⟩ := hidS_some h
    rw [hidS_ne z]; exact e.h a u h
  · obtain ⟨z, h⟩ := hidS_some h
    rw [hidS_ne z]; exact e.i a u h
  · obtain ⟨z, h⟩ := hidS_some h
    rcases e.n a u h with y | y
    · rcases gn a u y with w | w
      · exact .inl w
      · exact (z w).elim
    · right; rw [hidS_ne z]; exact y
theorem noL_hid (nl : NoL c2) {F : Hp} {v : V} {d : β} : ∀ (L : List Addr), (∀ a ∈ L, ∃ xs, F a = some (.lst xs)) → c2.rep F v d → c2.rep (hidS L F) v d
  | [], _, h => by
    have : hidS [] F = F := funext fun a => hidS_ne (by simp)
    rw [this]; exact h
  | a :: L, hL, h => by
    have h1 := noL_hid nl L (fun b hb => hL b (List.mem_cons_of_mem _ hb)) h
    obtain ⟨xs, hx⟩ := hL a List.mem_cons_self
    by_cases z : a ∈ L
    · have : hidS (a :: L) F = hidS L F := funext fun b => by
        by_cases y : b ∈ L
        · rw [hidS_in y, hidS_in (List.mem_cons_of_mem _ y)]
        · have : b ∉ a :: L := fun w => by
            rcases List.mem_cons.mp w with w | w
            · exact y (w ▸ z)
            · exact y w
          rw [hidS_ne y, hidS_ne this]
      rw [this]; exact h1
    · have h2 := nl (hidS L F) a xs v d (by rw [hidS_ne z]; exact hx) h1
      have : hidS (a :: L) F = fun b => if b = a then none else hidS L F b := funext fun b => by
        by_cases y : b = a
        · subst y; rw [if_pos rfl, hidS_in List.mem_cons_self]
        · rw [if_neg y]
          by_cases w : b ∈ L
          · rw [hidS_in w, hidS_in (List.mem_cons_of_mem _ w)]
          · rw [hidS_ne w, hidS_ne fun u => (List.mem_cons.mp u).elim y w]
      rw [this]; exact h2
theorem noL_hidR (nl : NoL c2) {F : Hp} {L : List Addr} (hL : ∀ a ∈ L, ∃ xs, F a = some (.lst xs)) : ∀ {vs : List V} {ds : List β}, Reps c2 F vs ds → Reps c2 (hidS L F) vs ds
  | [], [], _ => trivial
  | _ :: _, _ :: _, h => ⟨noL_hid nl L hL h.1, noL_hidR nl hL h.2⟩
  | [], _ :: _, h => h.elim
  | _ :: _, [], h => h.elim
/-- a test that looks at the lists -/
theorem sl_ifL (K : PySem.W.Frag) {tt : TT} {b : Bool} (nl : NoL c) (e : Γ[i]? = some (.val (cHand q) ())) (h : EvT (Γ.set i (.val (cList K (cList K c)) (os.map Prod.snd))) tt b) (k1 : b = true → SL R c q os Γ t P) (k2 : b = false → SL R c q os Γ u P) : SL R c q os Γ (tIfS tt t u) P := fun F0 H0 F H σ D S hl o => by
  obtain ⟨G, g1, g2, g3, g4, g5⟩ := lendL K S.sl hl e
  have hf : ∀ a ∈ adr q os, F a = none := fun a ha => hidS_free S.sl.ex ha
  refine h G H σ g2 _ fun F1 H1 e1 => ?_
  have e2 := backL hf hl.live g1 g3 e1
  have S1 := S.grow e2
  have gl : ∀ a ∈ adr q os, ∃ xs, F1 a = some (.lst xs) := fun a ha => by obtain ⟨xs, hx⟩ := g5 a ha; exact ⟨xs, e1.f a _ hx⟩
  have hl1 : HL c (hidS (adr q os) F1) H1 q os := ⟨hl.n, e1.h _ _ hl.q, fun o ho => by
    obtain ⟨ws, h1, h2⟩ := hl.i o ho
    exact ⟨ws, e1.h _ _ h1, noL_hidR nl gl (h2.mono (g1.trans e1.f))⟩⟩
  cases b with
  | true => exact k1 rfl F0 H0 _ H1 σ D S1 hl1 o
  | false => exact k2 rfl F0 H0 _ H1 σ D S1 hl1 o
/-- a new list made by looking at the lists -/
theorem sl_asgN (K : PySem.W.Frag) {ds : List β} (nl : NoL c) (nl2 : NoL c2) (e : Γ[i]? = some (.val (cHand q) ())) (h : EvN (Γ.set i (.val (cList K (cList K c)) (os.map Prod.snd))) te c2 ds) (k : P.nx os (Γ.set j (.own c2 ds))) : SL R c q os Γ (tAsg te (gName j)) P := fun F0 H0 F H σ D S hl o => by
  obtain ⟨G, g1, g2, g3, g4, g5⟩ := lendL K S.sl hl e
  have hf : ∀ a ∈ adr q os, F a = none := fun a ha => hidS_free S.sl.ex ha
  refine h G H σ g2 _ fun p ws F1 H1 e1 a1 b1 d1 r1 => ?_
  have e2 := backL hf hl.live g1 g3 e1
  have S1 := S.grow e2
  have gl : ∀ a ∈ adr q os, ∃ xs, F1 a = some (.lst xs) := fun a ha => by obtain ⟨xs, hx⟩ := g5 a ha; exact ⟨xs, e1.f a _ hx⟩
  have hl1 : HL c (hidS (adr q os) F1) H1 q os := ⟨hl.n, e1.h _ _ hl.q, fun o ho => by
    obtain ⟨ws, h1, h2⟩ := hl.i o ho
    exact ⟨ws, e1.h _ _ h1, noL_hidR nl gl (h2.mono (g1.trans e1.f))⟩⟩
  have pn : p ∉ adr q os := fun z => by
    obtain ⟨w, hw⟩ := hl.live p z
    rw [a1] at hw; cases hw
  have p0 : H0 p = none := by
    cases y : H0 p with
    | none => rfl
    | some w =>
      have := (hidS_some (S.h p w y)).2
      rw [a1] at this; cases this
  exact o.nx _ H1 _ _ os (S1.setOwn p0 (by rw [hidS_ne pn]; exact b1) (by rw [hidS_ne pn]; exact d1) (noL_hidR nl2 gl r1) fun l _ ol hp' => by
    cases g : Γ[l]? with
    | none => rw [g] at ol; exact ol.elim
    | some en =>
      cases en with
      | any => rw [g] at ol; exact ol.elim
      | val _ _ => rw [g] at ol; exact ol.elim
      | ob c' ds' =>
        obtain ⟨p2, vs2, y1, y2, y3, y4⟩ := S.sl.obj g
        rw [hp'] at y1; cases y1
        have := (hidS_some y3).2
        rw [a1] at this; cases this) hl1 k
theorem own_notin {F H : Hp} {σ : L2.St} (S : Sl F H σ Γ) (l : Nat) (p : Addr) (ol : IsOwn Γ[l]?) (hp : σ[l]? = some (some (.ref p))) (h0 : H p = none) : False := own_live S l p ol hp h0
/-- x = [new, new]: from here on the list of lists stands aside -/
theorem sw_startL {P : Pst ρ} (h1 : EvN Γ ta c ds1) (h2 : EvN Γ tb c ds2) (hi : ¬ IsOwn Γ[i]?) (k : ∀ q p1 p2, SL R c q [(p1, ds1), (p2, ds2)] (Γ.set i (.val (cHand q) ())) tz { nx := fun _ Γ' => P.nx Γ', bk := fun _ Γ' => P.bk Γ', rt := P.rt })
    (hnx : ∀ Γ', ¬ P.nx Γ') (hbk : ∀ Γ', ¬ P.bk Γ') : SW R Γ (tSeq (tAsg (tLst (tCons ta (tCons tb tNil))) (gName i)) tz) P := fun F0 H0 F H σ D S o =>
  h1 F H σ S.sl _ fun p1 vs1 F1 H1 e1 a1 b1 d1 r1 => h2 F1 H1 σ (S.grow e1).sl _ fun p2 vs2 F2 H2 e2 a2 b2 d2 r2 => ⟨sz_of (by decide : 2 ≤ 1000000), fun q hq => by
    have z1 : H2 p1 = some (.lst vs1) := e2.h _ _ d1
    have f1 : F2 p1 = none := fr_grow e2 b1 d1
    have n12 : p1 ≠ p2 := fun z => by rw [z, a2] at d1; cases d1
    have q1 : p1 ≠ q := fun z => by rw [z, hq] at z1; cases z1
    have q2 : p2 ≠ q := fun z => by rw [z, hq] at d2; cases d2
    have fq : F2 q = none := e2.i.free hq
    have ea : Ext F2 H2 F2 (upd H2 q (.lst [.ref p1, .ref p2])) := Ext.aside e2.i hq
    have S2 := (S.grow e1).grow e2
    have S3 := S2.grow ea
    have hp1 : H p1 = none := a1
    have hp2 : H p2 = none := e1.h.free a2
    have hqq : H q = none := (e1.trans e2).h.free hq
    have S4 : Stt F0 H0 F2 (upd H2 q (.lst [.ref p1, .ref p2])) (σ.set i (some (.ref q))) (Γ.set i (.val (cHand q) ())) := S3.setV rfl
    have S5 := stt_hide (L := adr q [(p1, ds1), (p2, ds2)]) S4 (fun a ha => by
      simp only [adr, List.map_cons, List.map_nil, List.mem_cons, List.not_mem_nil, or_false] at ha
      rcases ha with rfl | rfl | rfl
      · exact fq
      · exact f1
      · exact b2) (fun a ha => by
      simp only [adr, List.map_cons, List.map_nil, List.mem_cons, List.not_mem_nil, or_false] at ha
      rcases ha with rfl | rfl | rfl
      · exact S.h.free hqq
      · exact S.h.free hp1
      · exact S.h.free hp2) (fun l p ol hp ha => by
      have ol' : i ≠ l ∧ IsOwn Γ[l]? := by
        rw [List.getElem?_set] at ol
        by_cases z : i = l
        · subst z
          by_cases y : i < Γ.length
          · rw [if_pos rfl, if_pos y] at ol; exact ol.elim
          · rw [if_pos rfl, if_neg y] at ol; exact ol.elim
        · rw [if_neg z] at ol; exact ⟨z, ol⟩
      rw [List.getElem?_set_ne ol'.1] at hp
      simp only [adr, List.map_cons, List.map_nil, List.mem_cons, List.not_mem_nil, or_false] at ha
      rcases ha with rfl | rfl | rfl
      · exact own_live S.sl l _ ol'.2 hp hqq
      · exact own_live S.sl l _ ol'.2 hp hp1
      · exact own_live S.sl l _ ol'.2 hp hp2)
    refine k q p1 p2 F0 H0 F2 _ _ D S5 ⟨?_, upd_same, fun o ho => ?_⟩ ⟨fun _ _ _ Γ' _ _ _ z => (hnx Γ' z).elim, fun _ _ _ Γ' _ _ _ z => (hbk Γ' z).elim, fun F H v d e r z => o.rt F H v d e r z⟩
    · simp [adr, q1, q2, n12, Ne.symm q1, Ne.symm q2]
    · simp only [List.mem_cons, List.not_mem_nil, or_false] at ho
      rcases ho with rfl | rfl
      · exact ⟨vs1, by rw [upd_ne q1]; exact z1, r1.mono e2.f⟩
      · exact ⟨vs2, by rw [upd_ne q2]; exact d2, r2⟩⟩
/-- while, the test looking at the lists -/
theorem sl_while (K : PySem.W.Frag) {ι : Type} (G : ι → Gam) (I : ι → Os α → Prop) (μ : ι → Nat) (b : ι → Os α → Bool) (nl : NoL c) (x0 : ι) (hG : Wk Γ (G x0)) (h0 : I x0 os) {tt : TT} (he : ∀ x, (G x)[i]? = some (.val (cHand q) ()))
    (ht : ∀ x os, I x os → EvT ((G x).set i (.val (cList K (cList K c)) (os.map Prod.snd))) tt (b x os))
    (hb : ∀ x os, I x os → b x os = true → SL R c q os (G x) t { P with nx := fun os' Γ' => ∃ y, Wk Γ' (G y) ∧ I y os' ∧ μ y < μ x, bk := P.nx })
    (hd : ∀ x os, I x os → b x os = false → P.nx os (G x)) : SL R c q os Γ (tWhile tt t) P := fun F0 H0 F H σ D S hl o => by
  refine ⟨fun m σ H => ∃ F x os, Stt F0 H0 F (hidS (adr q os) H) σ (G x) ∧ HL c F H q os ∧ I x os ∧ m = μ x, ⟨μ x0, F, x0, os, S.wk hG, hl, h0, rfl⟩, fun m σ H ⟨F, x, os, S, hl, hI, hm⟩ => ?_⟩
  obtain ⟨G', g1, g2, g3, g4, g5⟩ := lendL K S.sl hl (he x)
  have hf : ∀ a ∈ adr q os, F a = none := fun a ha => hidS_free S.sl.ex ha
  refine ht x os hI G' H σ g2 _ fun F1 H1 e1 => ?_
  have e2 := backL hf hl.live g1 g3 e1
  have S1 := S.grow e2
  have gl : ∀ a ∈ adr q os, ∃ xs, F1 a = some (.lst xs) := fun a ha => by obtain ⟨xs, hx⟩ := g5 a ha; exact ⟨xs, e1.f a _ hx⟩
  have hl1 : HL c (hidS (adr q os) F1) H1 q os := ⟨hl.n, e1.h _ _ hl.q, fun o ho => by
    obtain ⟨ws, h1, h2⟩ := hl.i o ho
    exact ⟨ws, e1.h _ _ h1, noL_hidR nl gl (h2.mono (g1.trans e1.f))⟩⟩
  cases hx : b x os with
  | true =>
    refine iteT ⟨fun σ' H' => ∃ F y os', Stt F0 H0 F (hidS (adr q os') H') σ' (G y) ∧ HL c F H' q os' ∧ I y os' ∧ μ y < μ x, fun σ' H' ⟨F, y, os', T, hl', hy, hlt⟩ => ⟨μ y, by omega, F, y, os', T, hl', hy, rfl⟩, ?_⟩
    exact hb x os hI hx F0 H0 _ H1 σ _ S1 hl1 ⟨fun F2 H2 σ2 Γ2 os2 T hl2 ⟨y, hw, hy, hlt⟩ => ⟨F2, y, os2, T.wk hw, hl2, hy, hlt⟩, fun F2 H2 σ2 Γ2 os2 T hl2 k => o.nx F2 H2 σ2 Γ2 os2 T hl2 k, o.rt⟩
  | false => exact iteF (o.nx _ H1 σ (G x) os S1 hl1 (hd x os hI hx))
end
end Pw

/-! a def that tells a list of new lists or an error; one that is called for it; its lists changed -/
namespace Pw
open PySem PySem.Spec PyProof.Rows L2
def SpLX {α β : Type} (ca : CodA α) (pre : α → Prop) (c : Cod β) (f : α → Option (List (List β))) (C : Addr) : Sp := fun vs H Q E => ∃ F a, Ex F H ∧ ca.rep F vs a ∧ pre a ∧
  (∀ d v F' H', f a = some d → Ext F H F' H' → rLn c H F' H' v d → Q v H') ∧ (f a = none → ∀ F' H', Ext F H F' H' → E (.ref C) none H')
section
variable {α β : Type} {ca : CodA α} {pre : α → Prop} {c : Cod β} {t : TS} {vs : List V} {H : Hp} {Q : VK} {E : XK} {N : List Str}
theorem body_LX {f : α → Option (List (List β))} {C : Addr} (m : Nat) (h : ∀ a, pre a → SW (rLn c) (ca.env a ++ List.replicate m .any) t (PX (f a) C E)) (hN : ∀ a, N.length = (ca.env a).length + m) (hs : SpLX ca pre c f C vs H Q E) : t (ends Q) (start N vs) H := by
  obtain ⟨F, a, e, r, hp, q, qx⟩ := hs
  exact h a hp F H F H _ _ (stt_start e r m (hN a)) ⟨fun _ _ _ _ _ z => z.elim, fun F' H' v d x r z => q d v F' H' z x r, fun _ _ _ _ _ z => z.elim, fun _ _ _ _ _ z => z.elim, fun D F' H' z x => by obtain ⟨z1, z2⟩ := z; subst z1; exact qx z2 F' H' x⟩
theorem len_LX {f : α → Option (List (List β))} {C : Addr} {n : Nat} (hn : ∀ a, (ca.env a).length = n) (hs : SpLX ca pre c f C vs H Q E) : vs.length = n := by
  obtain ⟨F, a, e, r, _⟩ := hs; rw [ca.len r, hn]
end
section
variable {K : PySem.W.Frag} {Γ : Gam} {ta tb te : TE} {α β γ ρ : Type} {c : Cod α} {c1 : Cod α} {c2 : Cod β} {x : α} {R : RR ρ} {q : Addr} {os : Os α} {i j : Nat} {P : PsL α ρ} {t u tz : TS} {ds1 ds2 : List α}
/-- the second of a tuple of two new lists is a new list -/
theorem evN_callT2b {ca : CodA γ} {a : γ} {pre : γ → Prop} {f : γ → Option (List α × List β)} {C : Addr} {tr : TA} {E : XK} {d : List α × List β} (h : EvA Γ tr ca a) (hp : pre a) (hd : f a = some d) :
    EvN Γ (tOp (rIxT K) (tCall (SpT2 ca pre c1 c2 f C) [] E tr) (tC (.int 1))) c2 d.2 := fun F H σ S Q q =>
  h F H σ S _ fun vs F1 H1 e1 r1 => ⟨F1, a, e1.i, by rw [List.append_nil]; exact r1, hp, fun d' v F' H' e e2 r2 => by
    rw [hd] at e; cases e
    obtain ⟨t, p1, p2, rfl, ht, n, ⟨z1, f1, ws1, h1, g1⟩, ⟨z2, f2, ws2, h2, g2⟩⟩ := r2
    exact ⟨t, [.ref p1, .ref p2], 1, .ref p2, rfl, rfl, .inl (.inl (e2.i t _ ht)), rfl, q p2 ws2 F' H' (e1.trans e2) (e1.h.free z2) f2 h2 g2⟩,
    fun e => by rw [hd] at e; cases e⟩
/-- x = f(..), a list of new lists: it stands aside from here on -/
theorem q_callLX {P : Pst ρ} {ca : CodA γ} {a : γ} {pre : γ → Prop} {f : γ → Option (List (List α))} {C : Addr} {tr : TA} {E : XK} {dss : List (List α)} (h : EvA Γ tr ca a) (hp : pre a) (hd : f a = some dss) (hi : ¬ IsOwn Γ[i]?)
    (k : ∀ q os, os.map Prod.snd = dss → SL R c q os (Γ.set i (.val (cHand q) ())) tz { nx := fun _ Γ' => P.nx Γ', bk := fun _ Γ' => P.bk Γ', rt := P.rt }) (hnx : ∀ Γ', ¬ P.nx Γ') (hbk : ∀ Γ', ¬ P.bk Γ') :
    SW R Γ (tSeq (tAsg (tCall (SpLX ca pre c f C) [] E tr) (gName i)) tz) P := fun F0 H0 F H σ D S o =>
  h F H σ S.sl _ fun vs F1 H1 e1 r1 => ⟨F1, a, e1.i, by rw [List.append_nil]; exact r1, hp, fun d' v F' H' e e2 r2 => by
    rw [hd] at e; cases e
    obtain ⟨q, os, rfl, hl, hf, he⟩ := r2
    have S1 := S.grow e1
    have S2 := S1.grow e2
    have S3 : Stt F0 H0 F' H' (σ.set i (some (.ref q))) (Γ.set i (.val (cHand q) ())) := S2.setV rfl
    refine k q os he F0 H0 F' H' _ D (stt_hide S3 (fun a ha => (hf a ha).1) (fun a ha => S1.h.free (hf a ha).2) fun l p ol hp' ha => ?_) hl ⟨fun _ _ _ Γ' _ _ _ z => (hnx Γ' z).elim, fun _ _ _ Γ' _ _ _ z => (hbk Γ' z).elim, fun F H v d e r z => o.rt F H v d e r z⟩
    have ol' : i ≠ l ∧ IsOwn Γ[l]? := by
      rw [List.getElem?_set] at ol
      by_cases z : i = l
      · subst z
        by_cases y : i < Γ.length
        · rw [if_pos rfl, if_pos y] at ol; exact ol.elim
        · rw [if_pos rfl, if_neg y] at ol; exact ol.elim
      · rw [if_neg z] at ol; exact ⟨z, ol⟩
    rw [List.getElem?_set_ne ol'.1] at hp'
    exact own_live S1.sl l _ ol'.2 hp' (hf p ha).2,
    fun e => by rw [hd] at e; cases e⟩
/-- .. as a lasting value -/
theorem ev_callLX {ca : CodA γ} {a : γ} {pre : γ → Prop} {f : γ → Option (List (List α))} {C : Addr} {tr : TA} {E : XK} {dss : List (List α)} (h : EvA Γ tr ca a) (hp : pre a) (hd : f a = some dss) : Ev Γ (tCall (SpLX ca pre c f C) [] E tr) (cList K (cList K c)) dss := fun F H σ S Q q =>
  h F H σ S _ fun vs F1 H1 e1 r1 => ⟨F1, a, e1.i, by rw [List.append_nil]; exact r1, hp, fun d' v F' H' e e2 r2 => by
    rw [hd] at e; cases e
    obtain ⟨l, os, rfl, hl, hf, he⟩ := r2
    have hn := hl.n
    unfold adr at hn
    rw [List.nodup_cons] at hn
    obtain ⟨G1, g1, g2, g3, g4, g5⟩ := NewL.frame (c := c) (os := os) (H0 := H1) e2.i ⟨hn.2, fun o ho => by
      obtain ⟨ws, h1, h2⟩ := hl.i o ho
      have := hf o.1 (List.mem_cons.mpr (.inr (List.mem_map.mpr ⟨o, ho, rfl⟩)))
      exact ⟨this.1, this.2, ws, h1, h2⟩⟩
    have gq : G1 l = none := by
      rw [g5 l fun o ho z => hn.1 (z ▸ List.mem_map.mpr ⟨o, ho, rfl⟩)]
      exact (hf l List.mem_cons_self).1
    have xq : Ex G1 (upd G1 l (.lst (refs os))) := Ex.new gq
    have ee := e1.trans e2
    refine q (.ref l) (upd G1 l (.lst (refs os))) H' ⟨(ee.f.trans g1).trans xq, ee.h, ex_add g2 hl.q, fun b w hb => ?_⟩ ⟨l, refs os, rfl, .inl (.inl upd_same), ?_⟩
    · by_cases z : b = l
      · subst z; exact .inr (e1.h.free (hf b List.mem_cons_self).2)
      · rw [upd_ne z] at hb
        rcases g4 b w hb with y | ⟨o, ho, y⟩
        · exact ee.n b w y
        · subst y; exact .inr (e1.h.free (hf o.1 (List.mem_cons.mpr (.inr (List.mem_map.mpr ⟨o, ho, rfl⟩)))).2)
    · rw [← he]
      have : ∀ os' : Os α, (∀ o ∈ os', o ∈ os) → Reps (cList K c) (upd G1 l (.lst (refs os))) (refs os') (os'.map Prod.snd) := fun os' => by
        induction os' with
        | nil => intro _; trivial
        | cons o os' ih =>
          intro hm
          obtain ⟨ws, k1, k2⟩ := g3 o (hm o List.mem_cons_self)
          exact ⟨⟨o.1, ws, rfl, .inl (.inl (xq _ _ k1)), k2.mono xq⟩, ih fun o' ho' => hm o' (List.mem_cons_of_mem _ ho')⟩
      exact this os fun _ h => h,
    fun e => by rw [hd] at e; cases e⟩
/-- from here on the lists are left alone -/
theorem sl_done {P : Pst ρ} (hnx : ∀ Γ', P.nx Γ' → False) (hbk : ∀ Γ', P.bk Γ' → False) (hct : ∀ Γ', P.ct Γ' → False) (hex : ∀ C, P.ex C → False) (hR : ∀ H0 H0' F H v d, Ex H0 H0' → R H0' F H v d → R H0 F H v d) (h : SW R Γ t P) :
    SL R c q os Γ t { nx := fun _ Γ' => P.nx Γ', bk := fun _ Γ' => P.bk Γ', rt := P.rt } := fun F0 H0 F H σ D S hl o => by
  refine h F0 H0 F H σ D ?_ ⟨fun _ _ _ Γ' _ z => (hnx Γ' z).elim, fun F' H' v d e r z => o.rt F' H' v d e r z, fun _ _ _ Γ' _ z => (hbk Γ' z).elim, fun _ _ _ Γ' _ z => (hct Γ' z).elim, fun C _ _ z => (hex C z).elim⟩
  exact ⟨hidS_sl S.sl, S.f, fun a u z => (hidS_some (S.h a u z)).2, S.n, S.own⟩
theorem put_fst {k : Nat} {p : Addr} {ds ds' : List α} (hk : os[k]? = some (p, ds)) : (os.set k (p, ds')).map Prod.fst = os.map Prod.fst := by
  have kl : k < os.length := (List.getElem?_eq_some_iff.mp hk).1
  refine List.ext_getElem? fun x => ?_
  rw [List.getElem?_map, List.getElem?_map, List.getElem?_set]
  by_cases z : k = x
  · subst z; rw [if_pos rfl, if_pos kl, hk]; rfl
  · rw [if_neg z]
theorem refs_fst (os : Os α) : refs os = (os.map Prod.fst).map V.ref := by unfold refs; rw [List.map_map]; rfl
theorem hl_put {F H : Hp} {k : Nat} {p : Addr} {ds ds' : List α} {ws : List V} (hl : HL c F H q os) (hk : os[k]? = some (p, ds)) (hr : Reps c F ws ds') :
    HL c F (upd H p (.lst ws)) q (os.set k (p, ds')) ∧ hidS (adr q (os.set k (p, ds'))) (upd H p (.lst ws)) = hidS (adr q os) H := by
  have kl : k < os.length := (List.getElem?_eq_some_iff.mp hk).1
  have hm := List.mem_of_getElem? hk
  have ef := put_fst (ds' := ds') hk
  have ea : adr q (os.set k (p, ds')) = adr q os := by unfold adr; rw [ef]
  have er : refs (os.set k (p, ds')) = refs os := by rw [refs_fst, refs_fst, ef]
  have hn := hl.n
  unfold adr at hn
  rw [List.nodup_cons] at hn
  have pin : p ∈ adr q os := List.mem_cons.mpr (.inr (List.mem_map.mpr ⟨_, hm, rfl⟩))
  have pq : q ≠ p := fun z => hn.1 (z ▸ List.mem_map.mpr ⟨_, hm, rfl⟩)
  refine ⟨⟨by rw [ea]; exact hl.n, by rw [er, upd_ne pq]; exact hl.q, fun o ho => ?_⟩, ?_⟩
  · obtain ⟨x, hx⟩ := List.getElem?_of_mem ho
    rw [List.getElem?_set] at hx
    by_cases z : k = x
    · subst z
      rw [if_pos rfl, if_pos kl] at hx
      cases hx
      exact ⟨ws, upd_same, hr⟩
    · rw [if_neg z] at hx
      obtain ⟨ws', g3, g4⟩ := hl.i o (List.mem_of_getElem? hx)
      have ne : o.1 ≠ p := fun y => by
        have h1 : (os.map Prod.fst)[k]? = some p := by rw [List.getElem?_map, hk]; rfl
        have h2 : (os.map Prod.fst)[x]? = some p := by rw [List.getElem?_map, hx, ← y]; rfl
        exact z ((List.getElem?_inj (by rw [List.length_map]; exact kl) hn.2).mp (h1.trans h2.symm))
      exact ⟨ws', by rw [upd_ne ne]; exact g3, g4⟩
  · rw [ea]
    funext a
    by_cases y : a ∈ adr q os
    · rw [hidS_in y, hidS_in y]
    · have n1 : a ≠ p := fun z => y (by rw [z]; exact pin)
      rw [hidS_ne y, hidS_ne y, upd_ne n1]
/-- x[k].append(e) -/
theorem sl_iapp {k : Nat} {p : Addr} {ds : List α} (e : Γ[i]? = some (.val (cHand q) ())) (hk : os[k]? = some (p, ds)) (h : Ev Γ te c x) (hz : ds.length < 1000000) (kk : P.nx (os.set k (p, ds ++ [x])) Γ) :
    SL R c q os Γ (tDrop (tBM K "list" rAppend (tOp (rIxL K) (tVar i) (tC (.int (k : Int)))) (tCons te tNil))) P := fun F0 H0 F H σ D S hl o => by
  obtain ⟨v, hv, rv⟩ := S.sl.var e
  cases (show v = .ref q from rv)
  obtain ⟨ws, a1, b1⟩ := hl.i _ (List.mem_of_getElem? hk)
  have hx : atI (refs os) (k : Int) = some (.ref p) := atI_nat' (by unfold refs; rw [List.getElem?_map, hk]; rfl)
  refine ⟨.ref q, hv, q, refs os, (k : Int), .ref p, rfl, rfl, .inl (.inl hl.q), hx, .inl ⟨rfl, ws, .inl (.inl a1)⟩, h F H σ (hidS_sl S.sl) _ fun x F1 H1 e1 r1 => ?_⟩
  have e2 := hidS_ext (fun a ha => hidS_free S.sl.ex ha) hl.live e1
  refine ⟨p, ws, x, rfl, rfl, e1.h _ _ a1, by rw [b1.len]; exact sz_lt hz, ?_⟩
  obtain ⟨l2, e3⟩ := hl_put (hl.grow e1) hk ((b1.mono e1.f).append (Reps.one r1))
  exact o.nx F1 _ σ Γ _ (by rw [e3]; exact S.grow e2) l2 kk
/-- x[k].clear() -/
theorem sl_iclear {k : Nat} {p : Addr} {ds : List α} (e : Γ[i]? = some (.val (cHand q) ())) (hk : os[k]? = some (p, ds)) (kk : P.nx (os.set k (p, [])) Γ) :
    SL R c q os Γ (tDrop (tBM0 K "list" rClear (tOp (rIxL K) (tVar i) (tC (.int (k : Int)))))) P := fun F0 H0 F H σ D S hl o => by
  obtain ⟨v, hv, rv⟩ := S.sl.var e
  cases (show v = .ref q from rv)
  obtain ⟨ws, a1, b1⟩ := hl.i _ (List.mem_of_getElem? hk)
  have hx : atI (refs os) (k : Int) = some (.ref p) := atI_nat' (by unfold refs; rw [List.getElem?_map, hk]; rfl)
  refine ⟨.ref q, hv, q, refs os, (k : Int), .ref p, rfl, rfl, .inl (.inl hl.q), hx, .inl ⟨rfl, ws, .inl (.inl a1)⟩, ?_⟩
  obtain ⟨l2, e3⟩ := hl_put hl hk (show Reps c F [] [] from trivial)
  exact ⟨p, ws, rfl, rfl, a1, o.nx F _ σ Γ _ (by rw [e3]; exact S) l2 kk⟩
end
end Pw

/-! [e for a, b in pairs] -/
namespace Pw
open PySem PySem.Spec PyProof.Rows L2
section
variable {K : PySem.W.Frag} {Γ : Gam} {ta te : TE} {α β γ δ : Type} {c : Cod α} {c1 : Cod β} {c2 : Cod γ} {i j : Nat}
theorem wipe2 {i j : Nat} (σ : L2.St) (x y : V) : wipe (((wipe σ [i, j]).set i (some x)).set j (some y)) [i, j] = wipe σ [i, j] := by
  show ((((σ.set j none).set i none).set i (some x)).set j (some y) |>.set j none).set i none = (σ.set j none).set i none
  refine List.ext_getElem? fun k => ?_
  simp only [List.getElem?_set, List.length_set]
  by_cases a : i = k
  · subst a; simp
  · by_cases b : j = k
    · subst b; simp [a]
    · simp [a, b]
theorem evN_lcL2 {ds : List (α × β)} (h : Ev Γ ta (cList K (cPair K c c1)) ds) (g : α × β → γ) (hz : ds.length ≤ 1000000)
    (he : ∀ d ∈ ds, Ev ((([i, j].foldr (fun v G => G.set v .any) Γ).set i (.val c d.1)).set j (.val c1 d.2)) te c2 (g d)) : EvN Γ (tLc (iList K ta) (gTup K 2 (gCons (gName i) (gCons (gName j) gNil))) tYes te [i, j]) c2 (ds.map g) := fun F H σ S Q q => h F H σ S _ fun v F1 H1 e1 r1 => by
  obtain ⟨a, us, rfl, hs, hr⟩ := r1
  refine ⟨a, rfl, ⟨us, ex_l e1.i hs⟩, fun D hD => lc_list (xs := us) (fun n H' => ∃ F' acc, Ext F1 H1 F' H' ∧ F' D = none ∧ H' D = some (.lst acc) ∧ Reps c2 F' acc ((ds.take n).map g))
    ⟨F1, [], Ext.aside e1.i hD, e1.i.free hD, upd_same, trivial⟩ (fun n H' _ ⟨F', acc, x, _⟩ => ex_l (x.f.trans x.i) hs) (fun n x H' hx ⟨F', acc, e2, k1, k2, k3⟩ => ?_) (fun H' ⟨F', acc, e2, k1, k2, k3⟩ => ?_)⟩
  · obtain ⟨d, hd1, hd2⟩ := hr.getV hx
    have hm : d ∈ ds := List.mem_of_getElem? hd1
    have hi : n < ds.length := (List.getElem?_eq_some_iff.mp hd1).1
    have etake : ds.take (n + 1) = ds.take n ++ [d] := by rw [List.take_add_one, hd1]; rfl
    obtain ⟨b, ws, rfl, ht, y, _, rfl, hy, z, _, rfl, hzz, hn⟩ := (cPair K c c1).mono e2.f hd2
    cases (show _ = [] from hn)
    have S1 := S.grow (e1.trans e2)
    have S2 : Sl F' H' (((wipe σ [i, j]).set i (some y)).set j (some z)) ((([i, j].foldr (fun v G => G.set v .any) Γ).set i (.val c d.1)).set j (.val c1 d.2)) := ((sl_wipe S1 [i, j]).setV hy).setV hzz
    refine ⟨b, _, rfl, ex_t e2.i ht, rfl, y, _, rfl, z, _, rfl, rfl, wipe2 _ _ _, ?_⟩
    unfold tYes; dsimp only
    rw [if_pos rfl]
    refine he d hm F' H' _ S2 _ fun w F4 H4 e4 r4 => ⟨acc, e4.h D _ k2, by rw [k3.len, List.length_map, List.length_take]; exact sz_lt (by omega), F4, acc ++ [w], ?_⟩
    have k1'' : F4 D = none := by
      cases q : F4 D with
      | none => rfl
      | some o =>
        rcases e4.n D o q with z | z
        · rw [k1] at z; cases z
        · rw [k2] at z; cases z
    have x := e2.trans e4
    refine ⟨⟨x.f, fun b o q => ?_, x.i.mut k1'', x.n⟩, k1'', upd_same, ?_⟩
    · rw [upd_ne (ne_of_none q hD)]; exact x.h b o q
    · rw [etake, List.map_append]
      exact (k3.mono e4.f).append (Reps.one r4)
  · rw [hr.len, List.take_length] at k3
    exact q D acc F' H' (e1.trans e2) (e1.h.free hD) k1 k2 k3
end
end Pw

/-! try: f(..) except E as e: caught = e, where f tells a list of new lists or an error -/
namespace Pw
open PySem PySem.Spec PyProof.Rows L2
section
variable {K : PySem.W.Frag} {Γ : Gam} {α β γ ρ : Type} {c : Cod α} {R : RR ρ} {P : Pst ρ} {tz : TS} {i j : Nat}
theorem sw_tryLX {ca : CodA γ} {a : γ} {pre : γ → Prop} {f : γ → Option (List (List α))} {C : Addr} {cv : Value} {tr : TA} (h : EvA Γ tr ca a) (hp : pre a) (hn : f a = none) (hx : PySem.W.exmOne K (.ref C) cv = some true) (hi : i < Γ.length)
    (k : P.nx (((Γ.set i .any).set j (.val cExc C)).set i .any)) : SW R Γ (tTryH K cv i j (SpLX ca pre c f C) tr) P := fun F0 H0 F H σ D S o =>
  h F H σ S.sl _ fun vs F1 H1 e1 r1 => ⟨F1, a, e1.i, r1, hp, fun b v F' H' e => (by rw [hn] at e; cases e), fun _ F' H' e2 => ⟨true, hx, fun _ x nx => by
    have S2 := (S.grow e1).grow e2
    have S3 := S2.grow (Ext.new (o := ExV (.ref C) none x) e2.i nx)
    have hi' : i < σ.length := by rw [S.sl.len]; exact hi
    refine ⟨.ref x, by rw [List.getElem?_set_self hi'], ?_⟩
    show D.nx (((σ.set i (some (.ref x))).set j (some (.ref x))).set i none) (upd H' x (ExV (.ref C) none x))
    refine o.nx (upd F' x (ExV (.ref C) none x)) _ _ _ ?_ k
    exact ((S3.set (e := .any) (i := i) (s := some (.ref x)) (fun h => h) trivial).setV (c := cExc) (d := C) (i := j) ⟨x, rfl, upd_same⟩).set (e := .any) (i := i) (s := none) (fun h => h) trivial, fun q => nomatch q⟩⟩
theorem q_tryLX {ca : CodA γ} {a : γ} {pre : γ → Prop} {f : γ → Option (List (List α))} {C : Addr} {cv : Value} {tr : TA} (h : EvA Γ tr ca a) (hp : pre a) (hn : f a = none) (hx : PySem.W.exmOne K (.ref C) cv = some true) (hi : i < Γ.length)
    (k : SW R (((Γ.set i .any).set j (.val cExc C)).set i .any) tz P) : SW R Γ (tSeq (tTryH K cv i j (SpLX ca pre c f C) tr) tz) P := sw_seq (sw_tryLX h hp hn hx hi k)
theorem ev_isN0 {te : TE} {β : Type} {c2 : Cod β} (h : Ev Γ te (cOpt c2) none) : Ev Γ (tOp rIsN te (tC .non)) cBool true := fun F H σ S Q q =>
  h F H σ S _ fun v F1 H1 e1 r1 => by
    cases (show v = .non from r1)
    exact ⟨rfl, q _ F1 H1 e1 rfl⟩
theorem ev_isNS {te : TE} {ds : List α} (h : Ev Γ te (cOpt (cList K c)) (some ds)) : Ev Γ (tOp rIsN te (tC .non)) cBool false := fun F H σ S Q q =>
  h F H σ S _ fun v F1 H1 e1 r1 => by
    obtain ⟨a, vs, rfl, _⟩ := r1
    exact ⟨rfl, q _ F1 H1 e1 rfl⟩
end
end Pw

/-! texts: by their lists of signs -/
namespace Pw
open PySem PySem.Spec PyProof.Rows L2
abbrev Tx (l : List Nat) : Str := ⟨l.toArray⟩
theorem tx_inj {a b : List Nat} (h : Tx a = Tx b) : a = b := by
  have := congrArg (fun x : Str => x.cps.toList) h
  simpa using this
theorem tx_len (a : List Nat) : (Tx a).length = a.length := by simp [Str.length]
def cT : Cod (List Nat) := cMap cStr Tx
abbrev rCatS : R2 := fun x y H Q => ∃ i j, x = .str i ∧ y = .str j ∧ i.length + j.length ≤ sizeLine ∧ Q (.str (i ++ j)) H
abbrev rLenS : List V → Hp → VK → Prop := fun xs H Q => ∃ z, xs = [.str z] ∧ z.length ≤ sizeLine ∧ Q (.int z.length) H
abbrev rInSign : R2 := fun x y H Q => ∃ (c : Nat) (z : Str), x = .str ⟨#[c]⟩ ∧ y = .str z ∧ Q (.bl (decide (c ∈ z.cps.toList))) H
abbrev rIntS : List V → Hp → VK → Prop := fun xs H Q => ∃ a n, xs = [.str a] ∧ PySem.intText? a = some n ∧ a.length ≤ 640 ∧ Q (.int n) H
abbrev rStrI : List V → Hp → VK → Prop := fun xs H Q => ∃ i : Int, xs = [.int i] ∧ i.natAbs.log2 < 1920 ∧ Q (.str (toString i)) H
abbrev rStrS : List V → Hp → VK → Prop := fun xs H Q => ∃ a, xs = [.str a] ∧ Q (.str a) H
abbrev rStrB : List V → Hp → VK → Prop := fun xs H Q => rStrI xs H Q ∨ rStrS xs H Q
theorem call_strB {X : Cx} : CallR X (.type "str") rStrB := call_str_int.or SkE.call_str_str
def rMulS : R2 := fun x y H Q => ∃ z i, x = .str z ∧ y = .int i ∧ i ≤ 100000 ∧ 0 ≤ i ∧ z.length ≤ 100 ∧ Q (.str (Tx (List.replicate i.toNat z.cps.toList).flatten)) H
theorem foldl_rep_arr (x : Array Nat) : ∀ (k : Nat) (acc : Array Nat), ((List.replicate k x).foldl (· ++ ·) acc).toList = acc.toList ++ (List.replicate k x.toList).flatten
  | 0, acc => by simp
  | k + 1, acc => by
    rw [List.replicate_succ, List.foldl_cons, foldl_rep_arr x k, List.replicate_succ, List.flatten_cons, Array.toList_append, List.append_assoc]
theorem txt_mul (z : Str) (i : Int) (h : 0 ≤ i) : Txt.mul z i = Tx (List.replicate i.toNat z.cps.toList).flatten := by
  refine TL.ext_tl ?_
  show TL.tl (Txt.mul z i) = (List.replicate i.toNat z.cps.toList).flatten
  unfold Txt.mul
  by_cases h1 : i < 1
  · rw [if_pos h1, show i.toNat = 0 from by omega]; rfl
  · rw [if_neg h1]
    by_cases h2 : (i == 1 || z.length == 0) = true
    · rw [if_pos h2]
      rw [Bool.or_eq_true] at h2
      rcases h2 with h2 | h2
      · have : i = 1 := by simpa using h2
        subst this
        simp [TL.tl]
      · have hz : z.cps.toList = [] := by
          have : z.length = 0 := by simpa using h2
          exact List.length_eq_zero_iff.mp (by rw [← this]; simp [Str.length])
        show z.cps.toList = _
        rw [hz]
        have : ∀ k : Nat, (List.replicate k ([] : List Nat)).flatten = [] := fun k => by
          induction k with
          | zero => rfl
          | succ k ih => rw [List.replicate_succ, List.flatten_cons, ih]; rfl
        rw [this]
    · rw [if_neg h2]
      show ((List.replicate i.toNat z.cps).foldl (· ++ ·) #[]).toList = _
      rw [foldl_rep_arr]; simp
theorem op_mulS {X : Cx} : OpR X (binaryOp .Mult) rMulS := by
  intro pins s σ H x y v u Q I rx ry h
  obtain ⟨z, i, rfl, rfl, h1, h0, hz, q⟩ := h
  obtain ⟨t, rfl⟩ := rx
  obtain ⟨t', rfl⟩ := ry
  refine PySem.SB.mul (x := z) (n := i) ⟨?_, fun a b c => ?_, fun a b => ?_⟩ fun t'' k => ?_
  · rw [decide_eq_false (by omega), decide_eq_false (by omega)]; rfl
  · have hl : (z.length : Int) ≤ 100 := by omega
    have : (100 : Int) ≤ (2 ^ 63 - 1) / i := by
      rw [Int.le_ediv_iff_mul_le (by omega)]; omega
    omega
  · have h3 : z.length * i.toNat ≤ 100 * 100000 := Nat.mul_le_mul hz (by omega)
    have h4 := sizeLine_eq
    show decide (z.length * i.toNat > sizeLine) = false
    exact decide_eq_false (by omega)
  · rw [txt_mul z i h0]
    exact ⟨.str _, H, I.tok _, ⟨_, rfl⟩, q⟩
section
variable {K : PySem.W.Frag} {Γ : Gam} {ta tb tc te : TE} {α β γ ρ : Type} {c : Cod α} {d : α} {R : RR ρ} {P : Pst ρ} {t u tz : TS} {i j : Nat}
theorem sl_le {n : Nat} (h : n ≤ 1000000) : n ≤ sizeLine := Nat.le_trans h (by decide)
/-- a written text -/
theorem ev_t {s : Str} (l : List Nat) (h : s = Tx l) : Ev Γ (tC (.str s)) cT l := ev_c fun F => by subst h; rfl
theorem ev_tS {l : List Nat} (h : Ev Γ te cT l) : Ev Γ te cStr (Tx l) := h
theorem ev_catS {a b : List Nat} (h1 : Ev Γ ta cT a) (h2 : Ev Γ tb cT b) (hl : a.length + b.length ≤ 1000000) : Ev Γ (tOp rCatS ta tb) cT (a ++ b) :=
  ev_mono_op h1 h2 fun F H x y e r1 r2 Q q => ⟨_, _, r1, r2, sl_le (by rw [tx_len, tx_len]; exact hl), q _ F H (Ext.refl e) (congrArg V.str (SX.S_cat a b))⟩
theorem ev_mulS' {a : List Nat} {i : Int} (h1 : Ev Γ ta cT a) (h2 : Ev Γ tb cInt i) (hi : 0 ≤ i ∧ i ≤ 100000) (hl : a.length ≤ 100) : Ev Γ (tOp rMulS ta tb) cT (List.replicate i.toNat a).flatten :=
  ev_mono_op h1 h2 fun F H x y e r1 r2 Q q => ⟨_, _, r1, r2, hi.2, hi.1, by rw [tx_len]; exact hl, q _ F H (Ext.refl e) rfl⟩
theorem ev_lenS {a : List Nat} (h1 : Ev Γ ta cT a) (hl : a.length ≤ 1000000) : Ev Γ (tCB rLenS (tCons ta tNil)) cInt (a.length : Int) :=
  ev_cb1 h1 fun F H x e r1 Q q => ⟨Tx a, by rw [r1], sl_le (by rw [tx_len]; exact hl), q _ F H (Ext.refl e) (by rw [tx_len]; rfl)⟩
theorem ev_eqT {a b : List Nat} (h1 : Ev Γ ta cT a) (h2 : Ev Γ tb cT b) : Ev Γ (tOp rEq ta tb) cBool (decide (a = b)) :=
  ev_mono_op h1 h2 fun F H x y e r1 r2 Q q => by
    cases (show x = .str (Tx a) from r1); cases (show y = .str (Tx b) from r2)
    exact ⟨rfl, q _ F H (Ext.refl e) (by
      show V.bl (decide (V.str (Tx a) = V.str (Tx b))) = V.bl (decide (a = b))
      by_cases z : a = b
      · subst z; simp
      · rw [decide_eq_false z, decide_eq_false (fun w => z (tx_inj (by injection w)))])⟩
theorem ev_neT {a b : List Nat} (h1 : Ev Γ ta cT a) (h2 : Ev Γ tb cT b) : Ev Γ (tOp rNe ta tb) cBool (!decide (a = b)) :=
  ev_mono_op h1 h2 fun F H x y e r1 r2 Q q => by
    cases (show x = .str (Tx a) from r1); cases (show y = .str (Tx b) from r2)
    exact ⟨rfl, q _ F H (Ext.refl e) (by
      show V.bl (!decide (V.str (Tx a) = V.str (Tx b))) = V.bl (!decide (a = b))
      by_cases z : a = b
      · subst z; simp
      · rw [decide_eq_false z, decide_eq_false (fun w => z (tx_inj (by injection w)))])⟩
/-- s[i:j], the ends from 0 on, in order -/
theorem cutS_tx (l : List Nat) (i j : Nat) : cutS (Tx l) (some (i : Int)) (some (j : Int)) = Tx ((l.drop i).take (j - i)) := by
  refine TL.ext_tl ?_
  show ((l.drop _).take _) = _
  have hx : ∀ n d : Nat, HT.sIx n d (some (i : Int)) = min i n := fun n d => by
    have := clipS_eq n d (some (i : Int))
    unfold clipS at this
    dsimp only at this
    rw [if_neg (by omega)] at this; omega
  have hy : ∀ n d : Nat, HT.sIx n d (some (j : Int)) = min j n := fun n d => by
    have := clipS_eq n d (some (j : Int))
    unfold clipS at this
    dsimp only at this
    rw [if_neg (by omega)] at this; omega
  rw [hx, hy, tx_len]
  by_cases h : i ≤ l.length
  · rw [Nat.min_eq_left h]
    by_cases h2 : j ≤ l.length
    · rw [Nat.min_eq_left h2]
    · rw [Nat.min_eq_right (by omega)]
      show _ = (l.drop i).take (j - i)
      rw [List.take_of_length_le (by rw [List.length_drop]; exact Nat.le_refl _), List.take_of_length_le (by rw [List.length_drop]; omega)]
  · show _ = (l.drop i).take (j - i)
    rw [Nat.min_eq_right (Nat.le_of_lt (Nat.lt_of_not_le h)), List.drop_of_length_le (Nat.le_refl _), List.drop_of_length_le (by omega)]; simp
theorem ev_slS {tl th : TO} {l : List Nat} {a b : Int} (h : Ev Γ ta cT l) (h1 : EvO Γ tl (some a)) (h2 : EvO Γ th (some b)) (ha : 0 ≤ a) (hb : 0 ≤ b) (hl : l.length ≤ 1000000) : Ev Γ (tSl rSlS ta tl th) cT ((l.drop a.toNat).take (b.toNat - a.toNat)) := fun F H σ S Q q =>
  h F H σ S _ fun v F1 H1 e1 r1 => h1 F1 H1 σ (S.grow e1) _ fun F2 H2 e2 => h2 F2 H2 σ (S.grow (e1.trans e2)) _ fun F3 H3 e3 =>
    ⟨_, r1, sl_le (by rw [tx_len]; exact hl), q _ F3 H3 ((e1.trans e2).trans e3) (by
      show V.str _ = V.str _
      rw [← cutS_tx, Int.toNat_of_nonneg ha, Int.toNat_of_nonneg hb])⟩
/-- s[:b] -/
theorem cutS_tx0 (l : List Nat) (j : Nat) : cutS (Tx l) none (some (j : Int)) = Tx (l.take j) := by
  have := cutS_tx l 0 j
  rw [List.drop_zero, Nat.sub_zero] at this
  rw [← this]; rfl
theorem ev_slS0 {tl th : TO} {l : List Nat} {b : Int} (h : Ev Γ ta cT l) (h1 : EvO Γ tl none) (h2 : EvO Γ th (some b)) (hb : 0 ≤ b) (hl : l.length ≤ 1000000) : Ev Γ (tSl rSlS ta tl th) cT (l.take b.toNat) := fun F H σ S Q q =>
  h F H σ S _ fun v F1 H1 e1 r1 => h1 F1 H1 σ (S.grow e1) _ fun F2 H2 e2 => h2 F2 H2 σ (S.grow (e1.trans e2)) _ fun F3 H3 e3 =>
    ⟨_, r1, sl_le (by rw [tx_len]; exact hl), q _ F3 H3 ((e1.trans e2).trans e3) (by
      show V.str _ = V.str _
      rw [← cutS_tx0, Int.toNat_of_nonneg hb])⟩
/-- s[i] -/
theorem ev_ixS {l : List Nat} {a : Int} {x : Nat} (h : Ev Γ ta cT l) (h1 : Ev Γ tb cInt a) (hx : atI l a = some x) (hl : l.length ≤ 1000000) : Ev Γ (tOp rIxS ta tb) cT [x] :=
  ev_mono_op h h1 fun F H u v e r1 r2 Q q => ⟨_, _, x, r1, r2, sl_le (by rw [tx_len]; exact hl), hx, q _ F H (Ext.refl e) rfl⟩
theorem ev_ixSG {l : List Nat} {a : Int} (h : Ev Γ ta cT l) (h1 : Ev Γ tb cInt a) (hx : 0 ≤ a ∧ a < l.length) (hl : l.length ≤ 1000000) : Ev Γ (tOp rIxS ta tb) cT [l.getD a.toNat 0] := ev_ixS h h1 (atI_getD 0 hx) hl
/-- one sign in a text -/
theorem ev_inSign {x : Nat} {l : List Nat} (h : Ev Γ ta cT [x]) (h1 : Ev Γ tb cT l) : Ev Γ (tOp rInSign ta tb) cBool (decide (x ∈ l)) :=
  ev_mono_op h h1 fun F H u v e r1 r2 Q q => ⟨x, Tx l, r1, r2, q _ F H (Ext.refl e) rfl⟩
theorem inV_tx (x : List Nat) : ∀ {F : Hp} {vs : List V} {ds : List (List Nat)}, Reps cT F vs ds → vs.all flatV = true ∧ inV (.str (Tx x)) vs = decide (x ∈ ds)
  | _, [], [], _ => ⟨rfl, rfl⟩
  | _, v :: vs, d :: ds, h => by
    obtain ⟨h1, h2⟩ := inV_tx x h.2
    have hv : v = .str (Tx d) := h.1
    subst hv
    refine ⟨by rw [List.all_cons, h1]; rfl, ?_⟩
    unfold inV at h2 ⊢
    rw [List.any_cons, h2]
    show ((Tx d == Tx x) || _) = _
    have : (Tx d == Tx x) = decide (x = d) := by
      rw [show (Tx d == Tx x) = (d == x) from SX.S_beq d x]
      by_cases z : x = d
      · subst z; simp
      · rw [decide_eq_false z]; simpa using fun w => z w.symm
    rw [this]; simp
  | _, [], _ :: _, h => h.elim
  | _, _ :: _, [], h => h.elim
/-- a text in a list, in a tuple of texts -/
theorem ev_inTL {x : List Nat} {ds : List (List Nat)} (h : Ev Γ ta cT x) (h1 : Ev Γ tb (cList K cT) ds) : Ev Γ (tOp (rIn K false) ta tb) cBool (decide (x ∈ ds)) :=
  ev_mono_op h h1 fun F H u v e r1 r2 Q q => by
    obtain ⟨a, vs, rfl, hs, hr⟩ := r2
    obtain ⟨h1, h2⟩ := inV_tx x hr
    cases (show u = .str (Tx x) from r1)
    exact ⟨a, vs, rfl, .inl (ex_l e hs), rfl, h1, q _ F H (Ext.refl e) (by rw [← h2]; rfl)⟩
theorem ev_inTT {x : List Nat} {ds : List (List Nat)} (h : Ev Γ ta cT x) (h1 : Ev Γ tb (cTupL K cT) ds) : Ev Γ (tOp (rIn K false) ta tb) cBool (decide (x ∈ ds)) :=
  ev_mono_op h h1 fun F H u v e r1 r2 Q q => by
    obtain ⟨a, vs, rfl, hs, hr⟩ := r2
    obtain ⟨h1, h2⟩ := inV_tx x hr
    cases (show u = .str (Tx x) from r1)
    exact ⟨a, vs, rfl, .inr (ex_t e hs), rfl, h1, q _ F H (Ext.refl e) (by rw [← h2]; rfl)⟩
theorem ev_inTO {x : List Nat} {ds : List (List Nat)} {k : Nat} (h : Ev Γ ta cT x) (h1 : Γ[k]? = some (.own cT ds)) : Ev Γ (tOp (rIn K false) ta (tVar k)) cBool (decide (x ∈ ds)) := fun F H σ S Q q =>
  h F H σ S _ fun v F1 H1 e1 r1 => by
    obtain ⟨p, vs, k1, k2, k3, k4⟩ := (S.grow e1).owned h1
    obtain ⟨g1, g2⟩ := inV_tx x k4
    cases (show v = .str (Tx x) from r1)
    exact ⟨.ref p, k1, p, vs, rfl, .inl (.inl (.inl k3)), rfl, g1, q _ F1 H1 e1 (by rw [← g2]; rfl)⟩
/-- int(text) of figures, str(number) -/
theorem ev_intS {l : List Nat} (h : Ev Γ ta cT l) (hd : l.all (fun c => decide (48 ≤ c) && decide (c ≤ 57)) = true) (h0 : l ≠ []) (hl : l.length ≤ 640) : Ev Γ (tCB rIntS (tCons ta tNil)) cInt (NumText.digitsVal l : Nat) :=
  ev_cb1 h fun F H x e r1 Q q => ⟨Tx l, _, by rw [r1], SX.int_S hd h0 (by omega), by rw [tx_len]; exact hl, q _ F H (Ext.refl e) rfl⟩
theorem ev_strI {n : Nat} (h : Ev Γ ta cInt (n : Int)) (hn : n.log2 < 1920) : Ev Γ (tCB rStrI (tCons ta tNil)) cT (TL.numL n) :=
  ev_cb1 h fun F H x e r1 Q q => ⟨n, by rw [r1], hn, q _ F H (Ext.refl e) (congrArg V.str (SX.num_S n))⟩
theorem ev_strS {l : List Nat} (h : Ev Γ ta cT l) : Ev Γ (tCB rStrS (tCons ta tNil)) cT l :=
  ev_cb1 h fun F H x e r1 Q q => ⟨Tx l, by rw [r1], q _ F H (Ext.refl e) rfl⟩
theorem ev_strBI {n : Nat} (h : Ev Γ ta cInt (n : Int)) (hn : n.log2 < 1920) : Ev Γ (tCB rStrB (tCons ta tNil)) cT (TL.numL n) :=
  ev_cb1 h fun F H x e r1 Q q => .inl ⟨n, by rw [r1], hn, q _ F H (Ext.refl e) (congrArg V.str (SX.num_S n))⟩
theorem ev_strBS {l : List Nat} (h : Ev Γ ta cT l) : Ev Γ (tCB rStrB (tCons ta tNil)) cT l :=
  ev_cb1 h fun F H x e r1 Q q => .inr ⟨Tx l, by rw [r1], q _ F H (Ext.refl e) rfl⟩
theorem ev_isiS {n : String} {b : Bool} {l : List Nat} (h1 : Ev Γ ta cT l) (hu : PySem.W.kitOne K (.type "str") (.type n) = some b) : Ev Γ (tCB (rIsi K) (tCons ta (tCons (tC (.ty n)) tNil))) cBool b :=
  ev_isi h1 (fun F H x e r => by cases (show x = .str (Tx l) from r); exact .base (.str _)) hu
/-- xs[::-1] -/
theorem evN_rev {ds : List α} (h : Ev Γ ta (cList K c) ds) : EvN Γ (tRevL K ta) c ds.reverse := fun F H σ S Q q => h F H σ S _ fun v F1 H1 e1 r1 => by
  obtain ⟨a, vs, rfl, hs, hr⟩ := r1
  exact ⟨a, vs, rfl, ex_l e1.i hs, fun l hl => q l _ F1 _ (e1.trans (Ext.aside e1.i hl)) (e1.h.free hl) (e1.i.free hl) upd_same hr.reverse⟩
theorem evN_revO {ds : List α} {k : Nat} (h : Γ[k]? = some (.own c ds)) : EvN Γ (tRevL K (tVar k)) c ds.reverse := fun F H σ S Q q => by
  obtain ⟨p, vs, k1, k2, k3, k4⟩ := S.owned h
  exact ⟨.ref p, k1, p, vs, rfl, .inl (.inl k3), fun l hl => q l _ F _ (Ext.aside S.ex hl) hl (S.ex.free hl) upd_same k4.reverse⟩
/-- one reading or the other -/
theorem pe_or {X : Cx} {e : Expr} {t u : TE} (h1 : PE X e t) (h2 : PE X e u) : PE X e (fun σ H Q => t σ H Q ∨ u σ H Q) := ⟨fun pins s σ H Q I h => by
  rcases h with h | h
  · exact h1.run pins s σ H Q I h
  · exact h2.run pins s σ H Q I h⟩
end
/-- a list against [] -/
def rNilQ (K : PySem.W.Frag) (neg : Bool) : R2 := fun x y H Q => ∃ p q xs, x = .ref p ∧ y = .ref q ∧ SqL K H p xs ∧ SqL K H q [] ∧ Q (.bl (if neg then !xs.isEmpty else xs.isEmpty)) H
theorem op_eqNil {X : Cx} (hu : X.A.units + 64 < cLine) : OpR X (compareOp .Eq) (rNilQ X.K false) := by
  intro pins s σ H x y v u Q I rx ry h
  obtain ⟨p, q, xs, rfl, rfl, h1, h2, hq⟩ := h
  cases rx; cases ry
  obtain ⟨its, r, ht, hz⟩ := I.list h1
  obtain ⟨its2, r2, ht2, hz2⟩ := I.list h2
  have e2 : its2 = [] := by cases r2; rfl
  subst e2
  cases r with
  | nil =>
    refine SeqAt.eq_listAt (e := fun _ => true) ht.isList ht2.isList rfl (by omega) (fun j h _ => by simp at h) ?_
    exact ⟨.bl _, H, I, rfl, hq⟩
  | cons r1 r2 =>
    refine SeqAt.eq_list_lengthsAt ht.isList ht2.isList (by simp) (by omega) ?_
    exact ⟨.bl _, H, I, rfl, hq⟩
theorem op_neNil {X : Cx} (hu : X.A.units + 64 < cLine) : OpR X (compareOp .NotEq) (rNilQ X.K true) := by
  intro pins s σ H x y v u Q I rx ry h
  obtain ⟨p, q, xs, rfl, rfl, h1, h2, hq⟩ := h
  cases rx; cases ry
  obtain ⟨its, r, ht, hz⟩ := I.list h1
  obtain ⟨its2, r2, ht2, hz2⟩ := I.list h2
  have e2 : its2 = [] := by cases r2; rfl
  subst e2
  cases r with
  | nil =>
    refine SeqAt.RcNeAt.lists (e := fun _ => true) ht.isList ht2.isList rfl (by omega) (fun j h _ => by simp at h) _ _ _ _ ?_
    exact ⟨.bl _, H, I, rfl, hq⟩
  | cons r1 r2 =>
    refine SeqAt.RcNeAt.lists_lengths ht.isList ht2.isList (by simp) (by omega) _ _ _ _ ?_
    exact ⟨.bl _, H, I, rfl, hq⟩
section
variable {K : PySem.W.Frag} {Γ : Gam} {ta tb tc te : TE} {α β γ ρ : Type} {c : Cod α} {d : α}
theorem reps_empty {F : Hp} {vs : List V} {ds : List α} (h : Reps c F vs ds) : vs.isEmpty = ds.isEmpty := by
  cases vs <;> cases ds <;> first | rfl | exact h.elim
theorem ev_eqNil {ds : List α} (h : Ev Γ ta (cList K c) ds) : Ev Γ (tOp (rNilQ K false) ta (tLst tNil)) cBool ds.isEmpty := fun F H σ S Q q =>
  h F H σ S _ fun v F1 H1 e1 r1 => by
    obtain ⟨a, vs, rfl, hs, hr⟩ := r1
    refine ⟨sz_of (by simp), fun p hp => ⟨a, p, vs, rfl, rfl, ex_l (e1.i.trans (Ex.new hp)) hs, .inl (.inl upd_same), ?_⟩⟩
    exact q _ F1 _ (e1.trans (Ext.aside e1.i hp)) (congrArg V.bl (reps_empty hr))
theorem ev_neNil {ds : List α} (h : Ev Γ ta (cList K c) ds) : Ev Γ (tOp (rNilQ K true) ta (tLst tNil)) cBool (!ds.isEmpty) := fun F H σ S Q q =>
  h F H σ S _ fun v F1 H1 e1 r1 => by
    obtain ⟨a, vs, rfl, hs, hr⟩ := r1
    refine ⟨sz_of (by simp), fun p hp => ⟨a, p, vs, rfl, rfl, ex_l (e1.i.trans (Ex.new hp)) hs, .inl (.inl upd_same), ?_⟩⟩
    exact q _ F1 _ (e1.trans (Ext.aside e1.i hp)) (congrArg (fun b => V.bl (!b)) (reps_empty hr))
theorem ev_eqNilO {ds : List α} {k : Nat} (h : Γ[k]? = some (.own c ds)) : Ev Γ (tOp (rNilQ K false) (tVar k) (tLst tNil)) cBool ds.isEmpty := fun F H σ S Q q => by
  obtain ⟨p, vs, k1, k2, k3, k4⟩ := S.owned h
  refine ⟨.ref p, k1, sz_of (by simp), fun l hl => ⟨p, l, vs, rfl, rfl, .inl (.inl (Ex.new hl _ _ k3)), .inl (.inl upd_same), ?_⟩⟩
  exact q _ F _ (Ext.aside S.ex hl) (congrArg V.bl (reps_empty k4))
theorem ev_neNilO {ds : List α} {k : Nat} (h : Γ[k]? = some (.own c ds)) : Ev Γ (tOp (rNilQ K true) (tVar k) (tLst tNil)) cBool (!ds.isEmpty) := fun F H σ S Q q => by
  obtain ⟨p, vs, k1, k2, k3, k4⟩ := S.owned h
  refine ⟨.ref p, k1, sz_of (by simp), fun l hl => ⟨p, l, vs, rfl, rfl, .inl (.inl (Ex.new hl _ _ k3)), .inl (.inl upd_same), ?_⟩⟩
  exact q _ F _ (Ext.aside S.ex hl) (congrArg (fun b => V.bl (!b)) (reps_empty k4))
end
end Pw

/-! expressions in the heap: the law's trees (tuples), the program's instances -/
namespace Pw
open PySem PySem.Spec PyProof.Rows L2 Xp
/-! ### the law's trees -/
abbrev tagName : List Nat := [110, 97, 109, 101]
abbrev tagNum : List Nat := [110, 117, 109, 98, 101, 114]
abbrev tagLess : List Nat := [108, 101, 115, 115]
def tag : Ep → List Nat
  | .num _ => tagNum
  | .name _ => tagName
  | .two s _ _ => [s]
  | .pow _ _ => [94]
  | .less _ => tagLess
def trRep (K : PySem.W.Frag) (F : Hp) : V → Ep → Prop
  | v, .num n => ∃ a, v = .ref a ∧ SqT K F a [.str (Tx tagNum), .int n]
  | v, .name w => ∃ a, v = .ref a ∧ SqT K F a [.str (Tx tagName), .str (Tx w)]
  | v, .two s l r => ∃ a x y, v = .ref a ∧ SqT K F a [.str (Tx [s]), x, y] ∧ trRep K F x l ∧ trRep K F y r
  | v, .pow b n => ∃ a x, v = .ref a ∧ SqT K F a [.str (Tx [94]), x, .int n] ∧ trRep K F x b
  | v, .less e => ∃ a x, v = .ref a ∧ SqT K F a [.str (Tx tagLess), x] ∧ trRep K F x e
theorem trRep_mono {K : PySem.W.Frag} {F F' : Hp} (e : Ex F F') : ∀ (t : Ep) (v : V), trRep K F v t → trRep K F' v t
  | .num n, v, ⟨a, h1, h2⟩ => ⟨a, h1, ex_t e h2⟩
  | .name w, v, ⟨a, h1, h2⟩ => ⟨a, h1, ex_t e h2⟩
  | .two s l r, v, ⟨a, x, y, h1, h2, h3, h4⟩ => ⟨a, x, y, h1, ex_t e h2, trRep_mono e l x h3, trRep_mono e r y h4⟩
  | .pow b n, v, ⟨a, x, h1, h2, h3⟩ => ⟨a, x, h1, ex_t e h2, trRep_mono e b x h3⟩
  | .less b, v, ⟨a, x, h1, h2, h3⟩ => ⟨a, x, h1, ex_t e h2, trRep_mono e b x h3⟩
def cTr (K : PySem.W.Frag) : Cod Ep := ⟨fun F v t => trRep K F v t, fun e h => trRep_mono e _ _ h⟩
section
variable {K : PySem.W.Frag} {Γ : Gam} {ta tb tc te : TE} {α β γ ρ : Type} {c : Cod α} {d : α}
theorem tr_at {F : Hp} {v : V} {t : Ep} (h : trRep K F v t) : ∃ a vs, v = .ref a ∧ SqT K F a (.str (Tx (tag t)) :: vs) := by
  cases t with
  | num n => obtain ⟨a, h1, h2⟩ := h; exact ⟨a, _, h1, h2⟩
  | name w => obtain ⟨a, h1, h2⟩ := h; exact ⟨a, _, h1, h2⟩
  | two s l r => obtain ⟨a, x, y, h1, h2, _⟩ := h; exact ⟨a, _, h1, h2⟩
  | pow b n => obtain ⟨a, x, h1, h2, _⟩ := h; exact ⟨a, _, h1, h2⟩
  | less b => obtain ⟨a, x, h1, h2, _⟩ := h; exact ⟨a, _, h1, h2⟩
theorem ev_tr0 {t : Ep} (h : Ev Γ ta (cTr K) t) : Ev Γ (tOp (rIxT K) ta (tC (.int 0))) cT (tag t) :=
  ev_mono_op h ev_int fun F H u v e r1 r2 Q q => by
    obtain ⟨a, vs, rfl, hs⟩ := tr_at r1
    cases r2
    exact ⟨a, _, 0, .str (Tx (tag t)), rfl, rfl, ex_t e hs, atI_nat' (j := 0) rfl, q _ F H (Ext.refl e) rfl⟩
theorem ev_trNum {n : Nat} (h : Ev Γ ta (cTr K) (.num n)) : Ev Γ (tOp (rIxT K) ta (tC (.int 1))) cInt (n : Int) :=
  ev_mono_op h ev_int fun F H u v e r1 r2 Q q => by
    obtain ⟨a, rfl, hs⟩ := r1
    cases r2
    exact ⟨a, _, 1, .int n, rfl, rfl, ex_t e hs, rfl, q _ F H (Ext.refl e) rfl⟩
theorem ev_trName {w : List Nat} (h : Ev Γ ta (cTr K) (.name w)) : Ev Γ (tOp (rIxT K) ta (tC (.int 1))) cT w :=
  ev_mono_op h ev_int fun F H u v e r1 r2 Q q => by
    obtain ⟨a, rfl, hs⟩ := r1
    cases r2
    exact ⟨a, _, 1, .str (Tx w), rfl, rfl, ex_t e hs, rfl, q _ F H (Ext.refl e) rfl⟩
theorem ev_trL {s : Nat} {l r : Ep} (h : Ev Γ ta (cTr K) (.two s l r)) : Ev Γ (tOp (rIxT K) ta (tC (.int 1))) (cTr K) l :=
  ev_mono_op h ev_int fun F H u v e r1 r2 Q q => by
    obtain ⟨a, x, y, rfl, hs, hx, hy⟩ := r1
    cases r2
    exact ⟨a, _, 1, x, rfl, rfl, ex_t e hs, rfl, q _ F H (Ext.refl e) hx⟩
theorem ev_trR {s : Nat} {l r : Ep} (h : Ev Γ ta (cTr K) (.two s l r)) : Ev Γ (tOp (rIxT K) ta (tC (.int 2))) (cTr K) r :=
  ev_mono_op h ev_int fun F H u v e r1 r2 Q q => by
    obtain ⟨a, x, y, rfl, hs, hx, hy⟩ := r1
    cases r2
    exact ⟨a, _, 2, y, rfl, rfl, ex_t e hs, rfl, q _ F H (Ext.refl e) hy⟩
theorem ev_trB {b : Ep} {n : Nat} (h : Ev Γ ta (cTr K) (.pow b n)) : Ev Γ (tOp (rIxT K) ta (tC (.int 1))) (cTr K) b :=
  ev_mono_op h ev_int fun F H u v e r1 r2 Q q => by
    obtain ⟨a, x, rfl, hs, hx⟩ := r1
    cases r2
    exact ⟨a, _, 1, x, rfl, rfl, ex_t e hs, rfl, q _ F H (Ext.refl e) hx⟩
theorem ev_trN {b : Ep} {n : Nat} (h : Ev Γ ta (cTr K) (.pow b n)) : Ev Γ (tOp (rIxT K) ta (tC (.int 2))) cInt (n : Int) :=
  ev_mono_op h ev_int fun F H u v e r1 r2 Q q => by
    obtain ⟨a, x, rfl, hs, hx⟩ := r1
    cases r2
    exact ⟨a, _, 2, .int n, rfl, rfl, ex_t e hs, rfl, q _ F H (Ext.refl e) rfl⟩
theorem ev_trI {b : Ep} (h : Ev Γ ta (cTr K) (.less b)) : Ev Γ (tOp (rIxT K) ta (tC (.int 1))) (cTr K) b :=
  ev_mono_op h ev_int fun F H u v e r1 r2 Q q => by
    obtain ⟨a, x, rfl, hs, hx⟩ := r1
    cases r2
    exact ⟨a, _, 1, x, rfl, rfl, ex_t e hs, rfl, q _ F H (Ext.refl e) hx⟩
/-! made -/
theorem ev_mkTr2 {t : Ep} {α β : Type} {c : Cod α} {c2 : Cod β} {x : α} {y : β} (h1 : Ev Γ ta c x) (h2 : Ev Γ tb c2 y)
    (hr : ∀ F v w a, c.rep F v x → c2.rep F w y → SqT K F a [v, w] → trRep K F (.ref a) t) : Ev Γ (tTup (tCons ta (tCons tb tNil))) (cTr K) t := fun F H σ S Q q =>
  h1 F H σ S _ fun v F1 H1 e1 r1 => h2 F1 H1 σ (S.grow e1) _ fun w F2 H2 e2 r2 => ⟨sz_of (by simp), fun p hp =>
    q _ _ _ ((e1.trans e2).trans (Ext.new e2.i hp)) (hr _ v w p (c.mono (e2.f.trans (Ex.new (e2.i.free hp))) r1) (c2.mono (Ex.new (e2.i.free hp)) r2) (.inl (.inl upd_same)))⟩
theorem ev_mkTr3 {t : Ep} {α β γ : Type} {c : Cod α} {c2 : Cod β} {c3 : Cod γ} {x : α} {y : β} {z : γ} (h1 : Ev Γ ta c x) (h2 : Ev Γ tb c2 y) (h3 : Ev Γ tc c3 z)
    (hr : ∀ F v w u a, c.rep F v x → c2.rep F w y → c3.rep F u z → SqT K F a [v, w, u] → trRep K F (.ref a) t) : Ev Γ (tTup (tCons ta (tCons tb (tCons tc tNil)))) (cTr K) t := fun F H σ S Q q =>
  h1 F H σ S _ fun v F1 H1 e1 r1 => h2 F1 H1 σ (S.grow e1) _ fun w F2 H2 e2 r2 => h3 F2 H2 σ ((S.grow e1).grow e2) _ fun u F3 H3 e3 r3 => ⟨sz_of (by simp), fun p hp =>
    have en := Ex.new (o := .tup [v, w, u]) (e3.i.free hp)
    q _ _ _ (((e1.trans e2).trans e3).trans (Ext.new e3.i hp)) (hr _ v w u p (c.mono ((e2.f.trans e3.f).trans en) r1) (c2.mono (e3.f.trans en) r2) (c3.mono en r3) (.inl (.inl upd_same)))⟩
theorem ev_mkTrNum {n : Nat} (h1 : Ev Γ ta cT tagNum) (h2 : Ev Γ tb cInt (n : Int)) : Ev Γ (tTup (tCons ta (tCons tb tNil))) (cTr K) (.num n) :=
  ev_mkTr2 h1 h2 fun F v w a r1 r2 hs => ⟨a, rfl, by rw [← show v = .str (Tx tagNum) from r1, ← show w = .int n from r2]; exact hs⟩
theorem ev_mkTrName {w : List Nat} (h1 : Ev Γ ta cT tagName) (h2 : Ev Γ tb cT w) : Ev Γ (tTup (tCons ta (tCons tb tNil))) (cTr K) (.name w) :=
  ev_mkTr2 h1 h2 fun F v x a r1 r2 hs => ⟨a, rfl, by rw [← show v = .str (Tx tagName) from r1, ← show x = .str (Tx w) from r2]; exact hs⟩
theorem ev_mkTrLess {b : Ep} (h1 : Ev Γ ta cT tagLess) (h2 : Ev Γ tb (cTr K) b) : Ev Γ (tTup (tCons ta (tCons tb tNil))) (cTr K) (.less b) :=
  ev_mkTr2 h1 h2 fun F v x a r1 r2 hs => ⟨a, x, rfl, by rw [← show v = .str (Tx tagLess) from r1]; exact hs, r2⟩
theorem ev_mkTrTwo {s : Nat} {l r : Ep} (h1 : Ev Γ ta cT [s]) (h2 : Ev Γ tb (cTr K) l) (h3 : Ev Γ tc (cTr K) r) : Ev Γ (tTup (tCons ta (tCons tb (tCons tc tNil)))) (cTr K) (.two s l r) :=
  ev_mkTr3 h1 h2 h3 fun F v x y a r1 r2 r3 hs => ⟨a, x, y, rfl, by rw [← show v = .str (Tx [s]) from r1]; exact hs, r2, r3⟩
theorem ev_mkTrPow {b : Ep} {n : Nat} (h1 : Ev Γ ta cT [94]) (h2 : Ev Γ tb (cTr K) b) (h3 : Ev Γ tc cInt (n : Int)) : Ev Γ (tTup (tCons ta (tCons tb (tCons tc tNil)))) (cTr K) (.pow b n) :=
  ev_mkTr3 h1 h2 h3 fun F v x y a r1 r2 r3 hs => ⟨a, x, rfl, by rw [← show v = .str (Tx [94]) from r1, ← show y = .int n from r3]; exact hs, r2⟩
end
/-! ### the program's instances -/
structure ExC where
  Number : Addr
  Name : Addr
  Two : Addr
  Power : Addr
  Less : Addr
def clsI : Ep → Nat
  | .num _ => 0
  | .name _ => 1
  | .two _ _ _ => 2
  | .pow _ _ => 3
  | .less _ => 4
def ExC.at_ (X : ExC) : Nat → Addr
  | 0 => X.Number
  | 1 => X.Name
  | 2 => X.Two
  | 3 => X.Power
  | _ => X.Less
abbrev fsNum (x : V) : List (Str × V) := [("whole", x)]
abbrev fsName (x : V) : List (Str × V) := [("word", x)]
abbrev fsTwo (x y z : V) : List (Str × V) := [("sign", x), ("left", y), ("right", z)]
abbrev fsPow (x y : V) : List (Str × V) := [("base", x), ("exponent", y)]
abbrev fsLess (x : V) : List (Str × V) := [("inner", x)]
def exRep (X : ExC) (F : Hp) : V → Ep → Prop
  | v, .num n => ∃ a dx, v = .ref a ∧ F a = some (.ins X.Number dx (fsNum (.int n)))
  | v, .name w => ∃ a dx, v = .ref a ∧ F a = some (.ins X.Name dx (fsName (.str (Tx w))))
  | v, .two s l r => ∃ a dx x y, v = .ref a ∧ F a = some (.ins X.Two dx (fsTwo (.str (Tx [s])) x y)) ∧ exRep X F x l ∧ exRep X F y r
  | v, .pow b n => ∃ a dx x, v = .ref a ∧ F a = some (.ins X.Power dx (fsPow x (.int n))) ∧ exRep X F x b
  | v, .less e => ∃ a dx x, v = .ref a ∧ F a = some (.ins X.Less dx (fsLess x)) ∧ exRep X F x e
theorem exRep_mono {X : ExC} {F F' : Hp} (e : Ex F F') : ∀ (t : Ep) (v : V), exRep X F v t → exRep X F' v t
  | .num n, v, ⟨a, dx, h1, h2⟩ => ⟨a, dx, h1, e _ _ h2⟩
  | .name w, v, ⟨a, dx, h1, h2⟩ => ⟨a, dx, h1, e _ _ h2⟩
  | .two s l r, v, ⟨a, dx, x, y, h1, h2, h3, h4⟩ => ⟨a, dx, x, y, h1, e _ _ h2, exRep_mono e l x h3, exRep_mono e r y h4⟩
  | .pow b n, v, ⟨a, dx, x, h1, h2, h3⟩ => ⟨a, dx, x, h1, e _ _ h2, exRep_mono e b x h3⟩
  | .less b, v, ⟨a, dx, x, h1, h2, h3⟩ => ⟨a, dx, x, h1, e _ _ h2, exRep_mono e b x h3⟩
def cEx (X : ExC) : Cod Ep := ⟨fun F v t => exRep X F v t, fun e h => exRep_mono e _ _ h⟩
/-- what the text says of a class -/
structure ClsK (K : PySem.W.Frag) (C : Addr) : Prop where
  cl : Cls K C
  ha : PySem.W.findIn K (.ref C) "__class__" = some (some (.builtin "object.__class__"))
  hn : PySem.W.specialIn K (.builtin "object.__class__") "__get__" = some (some (.builtin "getset_descriptor.__get__"))
  htk : PySem.W.takesIn K (.builtin "object.__class__") = some true
  hm : PySem.W.mroIn K C (.type "object") = some true
structure ExK (K : PySem.W.Frag) (X : ExC) : Prop where
  cNumber : ClsK K X.Number
  cName : ClsK K X.Name
  cTwo : ClsK K X.Two
  cPower : ClsK K X.Power
  cLess : ClsK K X.Less
  f_whole : NoAttr K X.Number "whole"
  f_word : NoAttr K X.Name "word"
  f_sign : NoAttr K X.Two "sign"
  f_left : NoAttr K X.Two "left"
  f_right : NoAttr K X.Two "right"
  f_base : NoAttr K X.Power "base"
  f_exponent : NoAttr K X.Power "exponent"
  f_inner : NoAttr K X.Less "inner"
  i2 : ∀ e : Ep, PySem.W.kitOne K (.ref (X.at_ (clsI e))) (.ref X.Two) = some (decide (clsI e = 2))
  i4 : ∀ e : Ep, PySem.W.kitOne K (.ref (X.at_ (clsI e))) (.ref X.Less) = some (decide (clsI e = 4))
theorem ExK.at_ {K : PySem.W.Frag} {X : ExC} (k : ExK K X) (e : Ep) : ClsK K (X.at_ (clsI e)) := by
  cases e
  · exact k.cNumber
  · exact k.cName
  · exact k.cTwo
  · exact k.cPower
  · exact k.cLess
/-- the fields' names -/
def fldNames : List Str := ["whole", "word", "sign", "left", "right", "base", "exponent", "inner"]
theorem f_whole : ("whole" : Str) ∈ fldNames := by decide +kernel
theorem f_word : ("word" : Str) ∈ fldNames := by decide +kernel
theorem f_sign : ("sign" : Str) ∈ fldNames := by decide +kernel
theorem f_left : ("left" : Str) ∈ fldNames := by decide +kernel
theorem f_right : ("right" : Str) ∈ fldNames := by decide +kernel
theorem f_base : ("base" : Str) ∈ fldNames := by decide +kernel
theorem f_exp : ("exponent" : Str) ∈ fldNames := by decide +kernel
theorem f_inner : ("inner" : Str) ∈ fldNames := by decide +kernel
theorem look_not {m : Str} : ∀ {fs : List (Str × V)}, (∀ x ∈ fs, ¬ m = x.1) → fs.lookup m = none
  | [], _ => rfl
  | (a, b) :: fs, h => by
    rw [List.lookup_cons, show (m == a) = false from beq_eq_false_iff_ne.mpr (h (a, b) List.mem_cons_self)]
    exact look_not fun x hx => h x (List.mem_cons_of_mem _ hx)
section
variable {X : ExC} {F H : Hp} {v : V}
theorem ex_at {e : Ep} (h : exRep X F v e) : ∃ a dx fs, v = .ref a ∧ F a = some (.ins (X.at_ (clsI e)) dx fs) ∧ ∀ m : Str, m ∉ fldNames → fs.lookup m = none := by
  have nn : ∀ {m : Str} {fs : List (Str × V)}, (∀ x ∈ fs, x.1 ∈ fldNames) → m ∉ fldNames → fs.lookup m = none := fun h1 h2 => look_not fun x hx z => h2 (z ▸ h1 x hx)
  cases e with
  | num n => obtain ⟨a, dx, h1, h2⟩ := h; exact ⟨a, dx, _, h1, h2, fun m hm => nn (by intro x hx; simp only [List.mem_singleton] at hx; subst hx; exact f_whole) hm⟩
  | name w => obtain ⟨a, dx, h1, h2⟩ := h; exact ⟨a, dx, _, h1, h2, fun m hm => nn (by intro x hx; simp only [List.mem_singleton] at hx; subst hx; exact f_word) hm⟩
  | two s l r => obtain ⟨a, dx, x, y, h1, h2, _⟩ := h; exact ⟨a, dx, _, h1, h2, fun m hm => nn (by intro x hx; simp only [List.mem_cons, List.not_mem_nil, or_false] at hx; rcases hx with hx | hx | hx <;> subst hx <;> first | exact f_sign | exact f_left | exact f_right) hm⟩
  | pow b n => obtain ⟨a, dx, x, h1, h2, _⟩ := h; exact ⟨a, dx, _, h1, h2, fun m hm => nn (by intro x hx; simp only [List.mem_cons, List.not_mem_nil, or_false] at hx; rcases hx with hx | hx <;> subst hx <;> first | exact f_base | exact f_exp) hm⟩
  | less b => obtain ⟨a, dx, x, h1, h2, _⟩ := h; exact ⟨a, dx, _, h1, h2, fun m hm => nn (by intro x hx; simp only [List.mem_singleton] at hx; subst hx; exact f_inner) hm⟩
end
section
variable {K : PySem.W.Frag} {X : ExC} {Γ : Gam} {ta tb tc te : TE} {α β γ ρ : Type} {c : Cod α} {d : α}
/-! fields -/
theorem ev_fWhole (k : ExK K X) {n : Nat} (h : Ev Γ ta (cEx X) (.num n)) : Ev Γ (tFld K ta "whole") cInt (n : Int) := fun F H σ S Q q => h F H σ S _ fun v F1 H1 e1 r1 => by
  obtain ⟨a, dx, rfl, ha⟩ := r1
  exact ⟨a, _, dx, _, _, rfl, e1.i a _ ha, k.cNumber.cl, k.f_whole, rfl, q _ F1 H1 e1 rfl⟩
theorem ev_fWord (k : ExK K X) {w : List Nat} (h : Ev Γ ta (cEx X) (.name w)) : Ev Γ (tFld K ta "word") cT w := fun F H σ S Q q => h F H σ S _ fun v F1 H1 e1 r1 => by
  obtain ⟨a, dx, rfl, ha⟩ := r1
  exact ⟨a, _, dx, _, _, rfl, e1.i a _ ha, k.cName.cl, k.f_word, rfl, q _ F1 H1 e1 rfl⟩
theorem ev_fSign (k : ExK K X) {s : Nat} {l r : Ep} (h : Ev Γ ta (cEx X) (.two s l r)) : Ev Γ (tFld K ta "sign") cT [s] := fun F H σ S Q q => h F H σ S _ fun v F1 H1 e1 r1 => by
  obtain ⟨a, dx, x, y, rfl, ha, hx, hy⟩ := r1
  exact ⟨a, _, dx, _, _, rfl, e1.i a _ ha, k.cTwo.cl, k.f_sign, rfl, q _ F1 H1 e1 rfl⟩
theorem ev_fLeft (k : ExK K X) {s : Nat} {l r : Ep} (h : Ev Γ ta (cEx X) (.two s l r)) : Ev Γ (tFld K ta "left") (cEx X) l := fun F H σ S Q q => h F H σ S _ fun v F1 H1 e1 r1 => by
  obtain ⟨a, dx, x, y, rfl, ha, hx, hy⟩ := r1
  exact ⟨a, _, dx, _, _, rfl, e1.i a _ ha, k.cTwo.cl, k.f_left, rfl, q _ F1 H1 e1 hx⟩
theorem ev_fRight (k : ExK K X) {s : Nat} {l r : Ep} (h : Ev Γ ta (cEx X) (.two s l r)) : Ev Γ (tFld K ta "right") (cEx X) r := fun F H σ S Q q => h F H σ S _ fun v F1 H1 e1 r1 => by
  obtain ⟨a, dx, x, y, rfl, ha, hx, hy⟩ := r1
  exact ⟨a, _, dx, _, _, rfl, e1.i a _ ha, k.cTwo.cl, k.f_right, rfl, q _ F1 H1 e1 hy⟩
theorem ev_fBase (k : ExK K X) {b : Ep} {n : Nat} (h : Ev Γ ta (cEx X) (.pow b n)) : Ev Γ (tFld K ta "base") (cEx X) b := fun F H σ S Q q => h F H σ S _ fun v F1 H1 e1 r1 => by
  obtain ⟨a, dx, x, rfl, ha, hx⟩ := r1
  exact ⟨a, _, dx, _, _, rfl, e1.i a _ ha, k.cPower.cl, k.f_base, rfl, q _ F1 H1 e1 hx⟩
theorem ev_fExp (k : ExK K X) {b : Ep} {n : Nat} (h : Ev Γ ta (cEx X) (.pow b n)) : Ev Γ (tFld K ta "exponent") cInt (n : Int) := fun F H σ S Q q => h F H σ S _ fun v F1 H1 e1 r1 => by
  obtain ⟨a, dx, x, rfl, ha, hx⟩ := r1
  exact ⟨a, _, dx, _, _, rfl, e1.i a _ ha, k.cPower.cl, k.f_exponent, rfl, q _ F1 H1 e1 rfl⟩
theorem ev_fInner (k : ExK K X) {b : Ep} (h : Ev Γ ta (cEx X) (.less b)) : Ev Γ (tFld K ta "inner") (cEx X) b := fun F H σ S Q q => h F H σ S _ fun v F1 H1 e1 r1 => by
  obtain ⟨a, dx, x, rfl, ha, hx⟩ := r1
  exact ⟨a, _, dx, _, _, rfl, e1.i a _ ha, k.cLess.cl, k.f_inner, rfl, q _ F1 H1 e1 hx⟩
/-- isinstance(e, D) -/
theorem ev_isEx (k : ExK K X) {e : Ep} {D : Addr} {b : Bool} (h : Ev Γ ta (cEx X) e) (hk : PySem.W.kitOne K (.ref (X.at_ (clsI e))) (.ref D) = some b) : Ev Γ (tCB (rIsi K) (tCons ta (tCons (tC (.ref D)) tNil))) cBool b := fun F H σ S Q q =>
  h F H σ S _ fun v F1 H1 e1 r1 => by
    obtain ⟨a, dx, fs, rfl, ha, _⟩ := ex_at r1
    have ck := k.at_ e
    exact ⟨_, _, _, _, b, rfl, .own D, .base (.ins (e1.i a _ ha) ck.cl ck.ha ck.hn ck.htk ck.hm), hk, q _ F1 H1 e1 rfl⟩
end
/-! ### __init__ -/
def spIni (C : Addr) (n : Nat) (mk : List V → List (Str × V)) : Sp := fun vs H Q _ => ∃ x dx us, vs = .ref x :: us ∧ us.length = n ∧ H x = some (.ins C dx []) ∧ Q .non (upd H x (.ins C dx (mk us)))
def mkNum : List V → List (Str × V) | [x] => fsNum x | _ => []
def mkName : List V → List (Str × V) | [x] => fsName x | _ => []
def mkTwo : List V → List (Str × V) | [x, y, z] => fsTwo x y z | _ => []
def mkPow : List V → List (Str × V) | [x, y] => fsPow x y | _ => []
def mkLess : List V → List (Str × V) | [x] => fsLess x | _ => []
theorem len_Ini {C : Addr} {n : Nat} {mk : List V → List (Str × V)} {vs : List V} {H : Hp} {Q : VK} {E : XK} (h : spIni C n mk vs H Q E) : vs.length = n + 1 := by
  obtain ⟨x, dx, us, rfl, h, _⟩ := h; simp [h]
theorem ini1 {K : PySem.W.Frag} {C : Addr} {f : Str} {mk : List V → List (Str × V)} (c : Cls K C) (n : NoAttr K C f) (hm : ∀ x, mk [x] = [(f, x)]) {N : List Str} (hN : N.length = 2) {vs : List V} {H : Hp} {Q : VK} {E : XK} (h : spIni C 1 mk vs H Q E) :
    (sFld K (tVar 0) (tVar 1) f) (ends Q) (start N vs) H := by
  obtain ⟨x, dx, us, rfl, hl, hx, q⟩ := h
  match us, hl with
  | [y], _ =>
    rw [hm] at q
    have es : start N [.ref x, y] = [some (.ref x), some y] := by unfold L2.start; rw [hN]; rfl
    rw [es]
    exact ⟨y, rfl, .ref x, rfl, x, C, dx, [], rfl, hx, c, n, by decide, q⟩
theorem ini2 {K : PySem.W.Frag} {C : Addr} {f g : Str} {mk : List V → List (Str × V)} (c : Cls K C) (n : NoAttr K C f) (n2 : NoAttr K C g) (hm : ∀ x y, mk [x, y] = [(f, x), (g, y)]) (hfg : ¬ f = g) {N : List Str} (hN : N.length = 3) {vs : List V} {H : Hp} {Q : VK} {E : XK} (h : spIni C 2 mk vs H Q E) :
    (tSeq (sFld K (tVar 0) (tVar 1) f) (sFld K (tVar 0) (tVar 2) g)) (ends Q) (start N vs) H := by
  obtain ⟨x, dx, us, rfl, hl, hx, q⟩ := h
  match us, hl with
  | [y, z], _ =>
    rw [hm] at q
    have es : start N [.ref x, y, z] = [some (.ref x), some y, some z] := by unfold L2.start; rw [hN]; rfl
    rw [es]
    refine ⟨y, rfl, .ref x, rfl, x, C, dx, [], rfl, hx, c, n, by decide, z, rfl, .ref x, rfl, x, C, dx, _, rfl, upd_same, c, n2, by show 1 < 1000; decide, ?_⟩
    rw [upd_upd]
    have : putF g z (putF f y []) = [(f, y), (g, z)] := by
      show (if f = g then _ else (f, y) :: putF g z []) = _
      rw [if_neg hfg]; rfl
    show Q .non _
    rw [this]; exact q
theorem ini3 {K : PySem.W.Frag} {C : Addr} {f g k : Str} {mk : List V → List (Str × V)} (c : Cls K C) (n : NoAttr K C f) (n2 : NoAttr K C g) (n3 : NoAttr K C k) (hm : ∀ x y z, mk [x, y, z] = [(f, x), (g, y), (k, z)]) (hfg : ¬ f = g) (hfk : ¬ f = k) (hgk : ¬ g = k) {N : List Str} (hN : N.length = 4) {vs : List V} {H : Hp} {Q : VK} {E : XK} (h : spIni C 3 mk vs H Q E) :
    (tSeq (sFld K (tVar 0) (tVar 1) f) (tSeq (sFld K (tVar 0) (tVar 2) g) (sFld K (tVar 0) (tVar 3) k))) (ends Q) (start N vs) H := by
  obtain ⟨x, dx, us, rfl, hl, hx, q⟩ := h
  match us, hl with
  | [y, z, u], _ =>
    rw [hm] at q
    have es : start N [.ref x, y, z, u] = [some (.ref x), some y, some z, some u] := by unfold L2.start; rw [hN]; rfl
    rw [es]
    have e1 : putF g z (putF f y []) = [(f, y), (g, z)] := by
      show (if f = g then _ else (f, y) :: putF g z []) = _
      rw [if_neg hfg]; rfl
    have e2 : putF k u [(f, y), (g, z)] = [(f, y), (g, z), (k, u)] := by
      show (if f = k then _ else (f, y) :: (if g = k then _ else (g, z) :: putF k u [])) = _
      rw [if_neg hfk, if_neg hgk]; rfl
    refine ⟨y, rfl, .ref x, rfl, x, C, dx, [], rfl, hx, c, n, by decide, z, rfl, .ref x, rfl, x, C, dx, _, rfl, upd_same, c, n2, by show 1 < 1000; decide, u, rfl, .ref x, rfl, x, C, dx, _, rfl, upd_same, c, n3, by rw [e1]; show 2 < 1000; decide, ?_⟩
    show Q .non _
    rw [upd_upd, upd_upd, e1, e2]; exact q
section
variable {K : PySem.W.Frag} {X : ExC} {Γ : Gam} {ta tb tc te : TE} {α β γ ρ : Type} {c : Cod α} {d : α} {E : XK}
/-- C(..) -/
theorem ev_make {ca : CodA α} {a : α} {t : TA} {C : Addr} {n : Nat} {mk : List V → List (Str × V)} {e : Ep} (h : EvA Γ t ca a) (hl : ∀ F vs, ca.rep F vs a → vs.length = n)
    (hr : ∀ F vs x dx, ca.rep F vs a → F x = some (.ins C dx (mk vs)) → exRep X F (.ref x) e) : Ev Γ (tMake C (spIni C n mk) [] E t) (cEx X) e := fun F H σ S Q q =>
  h F H σ S _ fun vs F1 H1 e1 r1 x dx nx ndx ne => ⟨x, dx, vs, by rw [List.append_nil], hl _ _ r1, upd_same, rfl, by
    rw [upd_upd]
    have fx := e1.i.free nx
    refine q _ (upd F1 x (.ins C dx (mk vs))) _ (e1.trans ?_) (hr _ vs x dx (ca.mono (Ex.new fx) r1) upd_same)
    have e2 : Ext F1 H1 F1 (upd H1 dx (.own x)) := Ext.aside e1.i ndx
    exact e2.trans (Ext.new e2.i (by rw [upd_ne ne.symm]; exact nx))⟩
theorem ev_mkNum {n : Nat} (h : Ev Γ ta cInt (n : Int)) : Ev Γ (tMake X.Number (spIni X.Number 1 mkNum) [] E (tCons ta tNil)) (cEx X) (.num n) :=
  ev_make (ea_cons h ea_nil) (fun _ _ r => by obtain ⟨_, _, rfl, _, rfl⟩ := r; rfl) fun F vs x dx r hx => by
    obtain ⟨v, _, rfl, rv, rfl⟩ := r
    cases (show v = .int n from rv)
    exact ⟨x, dx, rfl, hx⟩
theorem ev_mkName {w : List Nat} (h : Ev Γ ta cT w) : Ev Γ (tMake X.Name (spIni X.Name 1 mkName) [] E (tCons ta tNil)) (cEx X) (.name w) :=
  ev_make (ea_cons h ea_nil) (fun _ _ r => by obtain ⟨_, _, rfl, _, rfl⟩ := r; rfl) fun F vs x dx r hx => by
    obtain ⟨v, _, rfl, rv, rfl⟩ := r
    cases (show v = .str (Tx w) from rv)
    exact ⟨x, dx, rfl, hx⟩
theorem ev_mkLess {e : Ep} (h : Ev Γ ta (cEx X) e) : Ev Γ (tMake X.Less (spIni X.Less 1 mkLess) [] E (tCons ta tNil)) (cEx X) (.less e) :=
  ev_make (ea_cons h ea_nil) (fun _ _ r => by obtain ⟨_, _, rfl, _, rfl⟩ := r; rfl) fun F vs x dx r hx => by
    obtain ⟨v, _, rfl, rv, rfl⟩ := r
    exact ⟨x, dx, v, rfl, hx, rv⟩
theorem ev_mkPow {e : Ep} {n : Nat} (h : Ev Γ ta (cEx X) e) (h2 : Ev Γ tb cInt (n : Int)) : Ev Γ (tMake X.Power (spIni X.Power 2 mkPow) [] E (tCons ta (tCons tb tNil))) (cEx X) (.pow e n) :=
  ev_make (ea_cons h (ea_cons h2 ea_nil)) (fun _ _ r => by obtain ⟨_, _, rfl, _, _, _, rfl, _, rfl⟩ := r; rfl) fun F vs x dx r hx => by
    obtain ⟨v, _, rfl, rv, w, _, rfl, rw', rfl⟩ := r
    cases (show w = .int n from rw')
    exact ⟨x, dx, v, rfl, hx, rv⟩
theorem ev_mkTwo {s : Nat} {l r : Ep} (h : Ev Γ ta cT [s]) (h2 : Ev Γ tb (cEx X) l) (h3 : Ev Γ tc (cEx X) r) : Ev Γ (tMake X.Two (spIni X.Two 3 mkTwo) [] E (tCons ta (tCons tb (tCons tc tNil)))) (cEx X) (.two s l r) :=
  ev_make (ea_cons h (ea_cons h2 (ea_cons h3 ea_nil))) (fun _ _ r => by obtain ⟨_, _, rfl, _, _, _, rfl, _, _, _, rfl, _, rfl⟩ := r; rfl) fun F vs x dx r hx => by
    obtain ⟨v, _, rfl, rv, w, _, rfl, rw', u, _, rfl, ru, rfl⟩ := r
    cases (show v = .str (Tx [s]) from rv)
    exact ⟨x, dx, w, u, rfl, hx, rw', ru⟩
end
end Pw

/-! calls: of an expression's methods, of a def that a slot holds, calls that may raise out of the def -/
namespace Pw
open PySem PySem.Spec PyProof.Rows L2 Xp
structure MtOk (P : Program) (w : World) (K : PySem.W.Frag) (mg : Str → Option Value) (base : Heap) (CX : CXT) (k : Nat) (C : Addr) (m : Str) (sp : Sp) : Prop where
  ex : ∃ (f : Addr) (fd : FuncData) (ps : List Str), Meth K C m f ∧ FnOk P w K mg base CX k f fd ps sp ∧ Binds K fd ps []
def tM5 (Y : ExC) (m : Str) (sp : Nat → Sp) (E : XK) (ta : TE) (t : TA) : TE := fun σ H Q => ∃ k, k < 5 ∧ tMeth (Y.at_ k) m (sp k) [] E ta t σ H Q
theorem ExK.cl5 {K : PySem.W.Frag} {Y : ExC} (c : ExK K Y) : ∀ k, k < 5 → Cls K (Y.at_ k)
  | 0, _ => c.cNumber.cl
  | 1, _ => c.cName.cl
  | 2, _ => c.cTwo.cl
  | 3, _ => c.cPower.cl
  | 4, _ => c.cLess.cl
  | _ + 5, h => by omega
section
variable {X : Cx} {Y : ExC} {CX : CXT} {k : Nat} {m : Str} {sp : Nat → Sp} {E : XK} {o e : Expr} {es : List Expr} {apos pos : Pos} {ta : TE} {t : TA}
theorem pe_m5 {pl : Sem Bool} (he : PE X o ta) (c : ExK X.K Y) (h : ∀ j, j < 5 → MtOk X.prog X.w X.K X.mg X.base CX k (Y.at_ j) m (sp j)) (hr : Room k X.A) (hx : Passes CX X E) (ha : PA X (e :: es) t)
    (hst : starEach (e :: es) X.env = (false, eval e X.env) :: starEach es X.env := by rfl) (hpl : (backTo pos (starEach es X.env)).any (·.1) = false := by rfl)
    (ht : eval (.Call (.Attribute o m apos) (e :: es) [] pos) X.env = (do
      let ov ← eval o X.env
      standAt apos.atName
      let (f, first) ← holding [ov] (getMethod ov m pl)
      callWith pos f first (backTo pos (starEach (e :: es) X.env)) (backToKw pos (keywordEach [] X.env))) := by rfl) :
    PE X (.Call (.Attribute o m apos) (e :: es) [] pos) (tM5 Y m sp E ta t) := ⟨fun pins s σ H Q I hh => by
  obtain ⟨j, hj, hq⟩ := hh
  obtain ⟨f, fd, ps, hm, F, hb⟩ := (h j hj).ex
  exact (pe_meth (pl := pl) he (c.cl5 j hj) hm F hr hb .nil hx ha hst hpl ht).run pins s σ H Q I hq⟩
theorem pe_m50 {pl : Sem Bool} (he : PE X o ta) (c : ExK X.K Y) (h : ∀ j, j < 5 → MtOk X.prog X.w X.K X.mg X.base CX k (Y.at_ j) m (sp j)) (hr : Room k X.A) (hx : Passes CX X E)
    (ht : eval (.Call (.Attribute o m apos) [] [] pos) X.env = (do
      let ov ← eval o X.env
      standAt apos.atName
      let (f, first) ← holding [ov] (getMethod ov m pl)
      callWith pos f first (backTo pos (starEach [] X.env)) (backToKw pos (keywordEach [] X.env))) := by rfl) :
    PE X (.Call (.Attribute o m apos) [] [] pos) (tM5 Y m sp E ta tNil) := ⟨fun pins s σ H Q I hh => by
  obtain ⟨j, hj, hq⟩ := hh
  obtain ⟨f, fd, ps, hm, F, hb⟩ := (h j hj).ex
  exact (pe_meth0 (pl := pl) he (c.cl5 j hj) hm F hr hb .nil hx ht).run pins s σ H Q I hq⟩
/-- what a callee raises leaves this def, too -/
theorem passX {X : Cx} {E : XK} {E₁ : Value → Shared → Prop} (hs : X.stack = X.env :: X.outer) (hf : X.env.frame = some X.env.locals) (hex : X.ex = [])
    (hx : X.xe = fun e s' => wpAny (model X.prog X.w) X.A (leaving X.env e) (fun _ s'' => L2.CX X.prog X.w X.outer X.H_0 X.s_0 E e s'') E₁ s') : Passes (L2.CX X.prog X.w) X E :=
  passes_call (takes_of hs hf hex hx) fun _ _ _ _ h => h
end
theorem clsI_lt (e : Ep) : clsI e < 5 := by cases e <;> simp [clsI]
section
variable {K : PySem.W.Frag} {Y : ExC} {Γ : Gam} {ta tb tc te : TE} {t : TA} {α β γ ρ : Type} {c : Cod β} {m : Str} {sp : Nat → Sp} {E : XK} {R : RR ρ} {P : Pst ρ} {tz u v : TS} {i j : Nat}
theorem m5_of {e : Ep} (h : Ev Γ ta (cEx Y) e) (hm : m ∉ fldNames) {F H : Hp} {σ : L2.St} (S : Sl F H σ Γ) {Q : VK}
    (k : ∀ v F1 H1, Ext F H F1 H1 → exRep Y F1 v e → t σ H1 fun vs H2 => sp (clsI e) (v :: vs) H2 Q E) : tM5 Y m sp E ta t σ H Q :=
  ⟨clsI e, clsI_lt e, h F H σ S _ fun v F1 H1 e1 r1 => by
    obtain ⟨a, dx, fs, rfl, ha, hl⟩ := ex_at r1
    refine ⟨a, dx, fs, rfl, e1.i a _ ha, hl m hm, ?_⟩
    have k' := k _ F1 H1 e1 r1
    have e0 : (fun (vs : List V) (H2 : Hp) => sp (clsI e) (.ref a :: (vs ++ [])) H2 Q E) = fun vs H2 => sp (clsI e) (.ref a :: vs) H2 Q E := by
      funext vs H2; rw [List.append_nil]
    rw [e0]; exact k'⟩
/-- a method's promise, class by class -/
abbrev SpMF (Y : ExC) (ca : CodA α) (pre : Ep × α → Prop) (c : Cod β) (f : Ep × α → β) : Nat → Sp := fun k => SpF (aCons (cEx Y) ca) (fun z => clsI z.1 = k ∧ pre z) c f
abbrev SpMN (Y : ExC) (ca : CodA α) (pre : Ep × α → Prop) (c : Cod β) (f : Ep × α → List β) : Nat → Sp := fun k => SpN (aCons (cEx Y) ca) (fun z => clsI z.1 = k ∧ pre z) c f
abbrev SpMX (Y : ExC) (ca : CodA α) (pre : Ep × α → Prop) (c : Cod β) (f : Ep × α → Option β) (C : Addr) : Nat → Sp := fun k => SpX (aCons (cEx Y) ca) (fun z => clsI z.1 = k ∧ pre z) c f C
theorem ev_mF {e : Ep} {ca : CodA α} {a : α} {pre : Ep × α → Prop} {f : Ep × α → β} (h : Ev Γ ta (cEx Y) e) (ha : EvA Γ t ca a) (hp : pre (e, a)) (hm : m ∉ fldNames) : Ev Γ (tM5 Y m (SpMF Y ca pre c f) E ta t) c (f (e, a)) := fun F H σ S Q q =>
  m5_of h hm S fun v F1 H1 e1 r1 => ha F1 H1 σ (S.grow e1) _ fun vs F2 H2 e2 r2 => ⟨F2, (e, a), e2.i, ⟨v, vs, rfl, exRep_mono e2.f _ _ r1, r2⟩, ⟨rfl, hp⟩, fun w F' H' e3 r3 => q w F' H' ((e1.trans e2).trans e3) r3⟩
theorem evN_m {e : Ep} {ca : CodA α} {a : α} {pre : Ep × α → Prop} {f : Ep × α → List β} (h : Ev Γ ta (cEx Y) e) (ha : EvA Γ t ca a) (hp : pre (e, a)) (hm : m ∉ fldNames) : EvN Γ (tM5 Y m (SpMN Y ca pre c f) E ta t) c (f (e, a)) := fun F H σ S Q q =>
  m5_of h hm S fun v F1 H1 e1 r1 => ha F1 H1 σ (S.grow e1) _ fun vs F2 H2 e2 r2 => ⟨F2, (e, a), e2.i, ⟨v, vs, rfl, exRep_mono e2.f _ _ r1, r2⟩, ⟨rfl, hp⟩, fun p vs' F' H' e3 k1 k2 k3 k4 => q p vs' F' H' ((e1.trans e2).trans e3) ((e1.trans e2).h.free k1) k2 k3 k4⟩
/-- a reading that gives a value, or raises an error of the class at C -/
def EvX (Γ : Gam) (te : TE) (c : Cod β) (b : Option β) (C : Addr) (E : XK) : Prop := ∀ F H σ, Sl F H σ Γ → ∀ Q : VK, (∀ x v F' H', b = some x → Ext F H F' H' → c.rep F' v x → Q v H') → (b = none → ∀ F' H', Ext F H F' H' → E (.ref C) none H') → te σ H Q
theorem EvX.of {d : β} {C : Addr} (h : Ev Γ te c d) : EvX Γ te c (some d) C E := fun F H σ S Q q _ => h F H σ S Q fun v F' H' e r => q d v F' H' rfl e r
theorem EvX.ev {d : β} {C : Addr} {b : Option β} (h : EvX Γ te c b C E) (hb : b = some d) : Ev Γ te c d := fun F H σ S Q q => h F H σ S Q (fun x v F' H' e e2 r => by rw [hb] at e; cases e; exact q v F' H' e2 r) fun e => by rw [hb] at e; cases e
theorem evX_call {ca : CodA α} {a : α} {pre : α → Prop} {f : α → Option β} {C : Addr} (h : EvA Γ t ca a) (hp : pre a) : EvX Γ (tCall (SpX ca pre c f C) [] E t) c (f a) C E := fun F H σ S Q q qx =>
  h F H σ S _ fun vs F1 H1 e1 r1 => ⟨F1, a, e1.i, by rw [List.append_nil]; exact r1, hp, fun b v F' H' hb e2 r2 => q b v F' H' hb (e1.trans e2) r2, fun hn F' H' e2 => qx hn F' H' (e1.trans e2)⟩
theorem evX_m {e : Ep} {ca : CodA α} {a : α} {pre : Ep × α → Prop} {f : Ep × α → Option β} {C : Addr} (h : Ev Γ ta (cEx Y) e) (ha : EvA Γ t ca a) (hp : pre (e, a)) (hm : m ∉ fldNames) : EvX Γ (tM5 Y m (SpMX Y ca pre c f C) E ta t) c (f (e, a)) C E := fun F H σ S Q q qx =>
  m5_of h hm S fun v F1 H1 e1 r1 => ha F1 H1 σ (S.grow e1) _ fun vs F2 H2 e2 r2 => ⟨F2, (e, a), e2.i, ⟨v, vs, rfl, exRep_mono e2.f _ _ r1, r2⟩, ⟨rfl, hp⟩, fun b w F' H' hb e3 r3 => q b w F' H' hb ((e1.trans e2).trans e3) r3, fun hn F' H' e3 => qx hn F' H' ((e1.trans e2).trans e3)⟩
/-- a call of the def that a slot holds -/
def cFn (f : Addr) : Cod Unit := ⟨fun _ v _ => v = .ref f, fun _ h => h⟩
theorem evX_callL {f0 : Addr} {ca : CodA α} {a : α} {pre : α → Prop} {f : α → Option β} {C : Addr} (hs : Γ[i]? = some (.val (cFn f0) ())) (h : EvA Γ t ca a) (hp : pre a) : EvX Γ (tCallL i f0 (SpX ca pre c f C) [] E t) c (f a) C E := fun F H σ S Q q qx => by
  obtain ⟨v, h1, h2⟩ := S.var hs
  cases (show v = .ref f0 from h2)
  exact ⟨h1, h F H σ S _ fun vs F1 H1 e1 r1 => ⟨F1, a, e1.i, by rw [List.append_nil]; exact r1, hp, fun b v F' H' hb e2 r2 => q b v F' H' hb (e1.trans e2) r2, fun hn F' H' e2 => qx hn F' H' (e1.trans e2)⟩⟩
/-! statements with such readings -/
theorem sw_asgX {b : Option β} {C : Addr} (h : EvX Γ te c b C E) (hE : P.E = E) (k : ∀ x, b = some x → P.nx (Γ.set i (.val c x))) (kx : b = none → P.ex C) : SW R Γ (tAsg te (gName i)) P := fun F0 H0 F H σ D S o =>
  h F H σ S.sl _ (fun x v F1 H1 hb e1 r1 => o.nx F1 H1 _ _ ((S.grow e1).setV r1) (k x hb)) fun hb F1 H1 e1 => by
    have := o.ex C F1 H1 (kx hb) (S.grow e1).ext
    rw [hE] at this; exact this
theorem q_asgX {b : Option β} {C : Addr} (h : EvX Γ te c b C E) (hE : P.E = E) (k : ∀ x, b = some x → SW R (Γ.set i (.val c x)) tz P) (kx : b = none → P.ex C) : SW R Γ (tSeq (tAsg te (gName i)) tz) P := sw_seq (sw_asgX h hE k kx)
theorem sw_un2X {γ : Type} {c2 : Cod γ} {b : Option (β × γ)} {C : Addr} (h : EvX Γ te (cPair K c c2) b C E) (hE : P.E = E) (k : ∀ x y, b = some (x, y) → P.nx ((Γ.set i (.val c x)).set j (.val c2 y))) (kx : b = none → P.ex C) :
    SW R Γ (tAsg te (gTup K 2 (gCons (gName i) (gCons (gName j) gNil)))) P := fun F0 H0 F H σ D S o =>
  h F H σ S.sl _ (fun x v F1 H1 hb e1 r1 => by
    obtain ⟨a, vs, rfl, hs, x', _, rfl, hx, y, _, rfl, hy, h⟩ := r1
    cases (show _ = [] from h)
    exact ⟨a, _, rfl, ex_t e1.i hs, rfl, x', _, rfl, y, _, rfl, rfl, o.nx F1 H1 _ _ (((S.grow e1).setV hx).setV hy) (k x.1 x.2 hb)⟩) fun hb F1 H1 e1 => by
    have := o.ex C F1 H1 (kx hb) (S.grow e1).ext
    rw [hE] at this; exact this
theorem q_un2X {γ : Type} {c2 : Cod γ} {b : Option (β × γ)} {C : Addr} (h : EvX Γ te (cPair K c c2) b C E) (hE : P.E = E) (k : ∀ x y, b = some (x, y) → SW R ((Γ.set i (.val c x)).set j (.val c2 y)) tz P) (kx : b = none → P.ex C) :
    SW R Γ (tSeq (tAsg te (gTup K 2 (gCons (gName i) (gCons (gName j) gNil)))) tz) P := sw_seq (sw_un2X h hE k kx)
theorem sw_retX {c : Cod ρ} {P : Pst ρ} {b : Option ρ} {C : Addr} (h : EvX Γ te c b C E) (hE : P.E = E) (k : ∀ x, b = some x → P.rt x) (kx : b = none → P.ex C) : SW (rVal c) Γ (tRet te) P := fun F0 H0 F H σ D S o =>
  h F H σ S.sl _ (fun x v F1 H1 hb e1 r1 => o.rt F1 H1 v x (S.grow e1).ext r1 (k x hb)) fun hb F1 H1 e1 => by
    have := o.ex C F1 H1 (kx hb) (S.grow e1).ext
    rw [hE] at this; exact this
end
end Pw

/-! the program's reader of texts: its defs read -/
namespace Lw.X
open PySem PySem.Spec PyProof.Rows L2 Pw Xp
def figs : T := [48, 49, 50, 51, 52, 53, 54, 55, 56, 57]
def lets : T := (List.range 26).map (97 + ·)
theorem figs_is : (fun c => decide (c ∈ figs)) = isFig := by
  funext c
  have : c ∈ figs ↔ 48 ≤ c ∧ c ≤ 57 := by unfold figs; simp; omega
  unfold isFig
  rw [← Bool.decide_and]
  exact decide_eq_decide.mpr this
theorem lets_is : (fun c => decide (c ∈ lets)) = isLet := by
  funext c
  have : c ∈ lets ↔ 97 ≤ c ∧ c ≤ 122 := by
    unfold lets; simp
    constructor
    · rintro ⟨a, h1, h2⟩; omega
    · rintro ⟨h1, h2⟩; exact ⟨c - 97, by omega, by omega⟩
  unfold isLet
  rw [← Bool.decide_and]
  exact decide_eq_decide.mpr this
theorem getD_drop {l : T} {a x : Nat} : (l.drop a).getD x 0 = l.getD (a + x) 0 := by
  rw [List.getD_eq_getElem?_getD, List.getD_eq_getElem?_getD, List.getElem?_drop]
def sp_run_of (K : PySem.W.Frag) (C : ExA) : Sp := SpX (aCons cT (aCons cInt (aCons cT (aCons cInt aNil)))) (fun a => ∃ n m : Nat, a.2.1 = n ∧ a.2.2.2.1 = m ∧ n ≤ a.1.length ∧ a.1.length ≤ 1000) cT (fun a => runL (fun c => decide (c ∈ a.2.2.1)) a.2.2.2.1.toNat (a.1.drop a.2.1.toNat)) C.NoText
def t_run_of (K : PySem.W.Frag) (C : ExA) (E : XK) : TS := tSeq (tAsg (tVar 1) (gName 4)) (tSeq (tWhile (tAnd (tTest (tOp oLt (tVar 4) (tCB rLenS (tCons (tVar 0) tNil)))) (tTest (tOp (rInSign) (tOp (rIxS) (tVar 0) (tVar 4)) (tVar 2)))) (tAsg (tOp oAdd (tVar 4) (tC (.int 1))) (gName 4))) (tSeq (tIfS (tOr (tTest (tOp rEq (tVar 4) (tVar 1))) (tTest (tOp oGt (tOp oSub (tVar 4) (tVar 1)) (tVar 3)))) (tRaise C.NoText E) tNext) (tRet (tSl (rSlS) (tVar 0) (tPart (tVar 1)) (tPart (tVar 4))))))
theorem rd_run_of (K : PySem.W.Frag) (C : ExA) (E : XK) (text signs : T) (at_ most : Nat) (h1 : at_ ≤ text.length) (h2 : text.length ≤ 1000) :
    SW (rVal cT) [.val cT text, .val cInt (at_ : Int), .val cT signs, .val cInt (most : Int), .any] (t_run_of K C E) (PX (runL (fun c => decide (c ∈ signs)) most (text.drop at_)) C.NoText E) := by
  have hw : ∃ w, w = (text.drop at_).takeWhile (fun c => decide (c ∈ signs)) := ⟨_, rfl⟩
  obtain ⟨w, hw⟩ := hw
  have hl : w.length ≤ text.length - at_ := by rw [hw, ← List.length_drop]; exact tw_le _
  have ht : (text.drop at_).take w.length = w := by rw [hw]; exact tw_take _
  unfold t_run_of
  refine q_asg' (ev_var rfl) ?_
  refine q_while (fun x : Nat => [.val cT text, .val cInt (at_ : Int), .val cT signs, .val cInt (most : Int), .val cInt ((at_ + x : Nat) : Int)]) (fun x => x ≤ w.length) (fun x => w.length - x) (fun x => decide (x < w.length)) 0 (Wk.refl _) (Nat.zero_le _)
    (fun x hx => evT_is (evT_and (evT_test (ev_lt (ev_var rfl) (ev_lenS (ev_var rfl) (by omega)))) fun h => evT_test (ev_inSign (ev_ixSG (ev_var rfl) (ev_var rfl) ⟨by omega, of_decide_eq_true h⟩ (by omega)) (ev_var rfl))) ?_) (fun x hx hb => ?_) (fun x hx hb => ?_)
  · have := tw_at (p := fun c => decide (c ∈ signs)) (text.drop at_) x (by rw [← hw]; exact hx)
    rw [← hw, getD_drop, List.length_drop] at this
    rw [← this, Int.toNat_natCast]
    congr 1
    exact decide_eq_decide.mpr (by omega)
  · have hb := of_decide_eq_true hb
    exact sw_asg (ev_is (ev_add (ev_var rfl) ev_int) (by omega)) ⟨x + 1, Wk.refl _, hb, by omega⟩
  · have hb := of_decide_eq_false hb
    obtain rfl : x = w.length := by omega
    refine q_when (evT_or (evT_test (ev_eqI (ev_var rfl) (ev_var rfl))) fun _ => evT_test (ev_gt (ev_sub (ev_var rfl) (ev_var rfl)) (ev_var rfl))) (fun hc => ?_) (fun hc => ?_)
    · refine sw_raise rfl ⟨rfl, ?_⟩
      rw [Bool.or_eq_true, decide_eq_true_eq, decide_eq_true_eq] at hc
      unfold runL
      rw [← hw, if_pos]
      rcases hc with hc | hc
      · exact .inl (List.length_eq_zero_iff.mp (by omega))
      · exact .inr (by omega)
    · rw [Bool.or_eq_false_iff, decide_eq_false_iff_not, decide_eq_false_iff_not] at hc
      refine sw_ret (ev_is (ev_slS (ev_var rfl) (eo_some (ev_var rfl)) (eo_some (ev_var rfl)) (by omega) (by omega) (by omega)) (d' := w) ?_) ?_
      · rw [Int.toNat_natCast, Int.toNat_natCast, Nat.add_sub_cancel_left]; exact ht
      · show runL _ _ _ = some w
        unfold runL
        rw [← hw, if_neg]
        intro z
        rcases z with z | z
        · rw [z] at hc; exact hc.1 (by simp)
        · omega
def sp_whole_at (K : PySem.W.Frag) (C : ExA) : Sp := SpX (aCons cT (aCons cInt (aCons cInt aNil))) (fun a => ∃ n m : Nat, a.2.1 = n ∧ a.2.2.1 = m ∧ n ≤ a.1.length ∧ a.1.length ≤ 1000) cT (fun a => wholeL a.2.2.1.toNat (a.1.drop a.2.1.toNat)) C.NoText
def t_whole_at (K : PySem.W.Frag) (C : ExA) (E : XK) : TS := tSeq (tAsg (tCall (sp_run_of K C) [] E (tCons (tVar 0) (tCons (tVar 1) (tCons (tC (.str "0123456789")) (tCons (tVar 2) tNil))))) (gName 3)) (tSeq (tIfS (tAnd (tTest (tOp oGt (tCB rLenS (tCons (tVar 3) tNil)) (tC (.int 1)))) (tTest (tOp rEq (tOp (rIxS) (tVar 3) (tC (.int 0))) (tC (.str "0"))))) (tRaise C.NoText E) tNext) (tRet (tVar 3)))
theorem ev_figs {Γ : Gam} : Ev Γ (tC (.str "0123456789")) cT figs := ev_t figs (by decide +kernel)
theorem ev_lets {Γ : Gam} : Ev Γ (tC (.str "abcdefghijklmnopqrstuvwxyz")) cT lets := ev_t lets (by decide +kernel)
theorem rd_whole_at (K : PySem.W.Frag) (C : ExA) (E : XK) (text : T) (at_ most : Nat) (h1 : at_ ≤ text.length) (h2 : text.length ≤ 1000) :
    SW (rVal cT) [.val cT text, .val cInt (at_ : Int), .val cInt (most : Int), .any] (t_whole_at K C E) (PX (wholeL most (text.drop at_)) C.NoText E) := by
  unfold t_whole_at
  have hr : wholeL most (text.drop at_) = match runL isFig most (text.drop at_) with | none => none | some w => if 1 < w.length ∧ w.head? = some 48 then none else some w := rfl
  refine q_asgX (evX_call (ea_cons (ev_var rfl) (ea_cons (ev_var rfl) (ea_cons ev_figs (ea_cons (ev_var rfl) ea_nil)))) ⟨at_, most, rfl, rfl, h1, h2⟩) rfl (fun w hw => ?_) (fun hw => ?_)
  · dsimp only at hw
    rw [figs_is, Int.toNat_natCast, Int.toNat_natCast] at hw
    have hs := runL_some hw
    rw [hw] at hr
    dsimp only at hr
    have h0 := List.length_pos_iff.mpr hs.2.1
    rw [hr]
    refine q_when (evT_and (evT_test (ev_gt (ev_lenS (ev_var rfl) (by have := hs.2.2.2.1; rw [List.length_drop] at this; omega)) ev_int)) fun _ => evT_test (ev_eqT (ev_ixSG (ev_var rfl) ev_int ⟨by omega, by omega⟩ (by have := hs.2.2.2.1; rw [List.length_drop] at this; omega)) (ev_t [48] (by decide +kernel)))) (fun hc => ?_) (fun hc => ?_)
    · rw [Bool.and_eq_true, decide_eq_true_eq, decide_eq_true_eq] at hc
      refine sw_raise rfl ⟨rfl, ?_⟩
      rw [if_pos]
      refine ⟨by omega, ?_⟩
      have : w.getD 0 0 = 48 := by simpa using hc.2
      cases w with
      | nil => cases this
      | cons c w => simpa using this
    · refine sw_ret (ev_var rfl) ?_
      show _ = some w
      rw [if_neg]
      rintro ⟨z1, z2⟩
      rw [Bool.and_eq_false_iff, decide_eq_false_iff_not, decide_eq_false_iff_not] at hc
      rcases hc with hc | hc
      · omega
      · cases w with
        | nil => cases z2
        | cons c w => exact hc (by simpa using z2)
  · dsimp only at hw
    rw [figs_is, Int.toNat_natCast, Int.toNat_natCast] at hw
    rw [hw] at hr
    exact ⟨rfl, hr⟩
/-! ### the readers of parts -/
def sft (a : Nat) (q : Option (Ep × Nat)) : Option (Ep × Int) := q.map fun q => (q.1, ((a + q.2 : Nat) : Int))
theorem sft_some {a : Nat} {q : Option (Ep × Nat)} {e : Ep} {z : Int} (h : sft a q = some (e, z)) : ∃ n, q = some (e, n) ∧ z = ((a + n : Nat) : Int) := by
  cases q with
  | none => cases h
  | some q => obtain ⟨f, n⟩ := q; simp only [sft, Option.map_some, Option.some.injEq, Prod.mk.injEq] at h; exact ⟨n, by rw [h.1], h.2.symm⟩
theorem sft_none {a : Nat} {q : Option (Ep × Nat)} (h : sft a q = none) : q = none := by
  cases q with
  | none => rfl
  | some q => cases h
/-- the promise of a def that reads a part: r more brackets may be opened -/
def sp_rd (K : PySem.W.Frag) (Y : ExC) (C : ExA) (p : Rd) (r : Nat) : Sp := SpX (aCons cT (aCons cInt (aCons cInt aNil))) (fun a => ∃ n : Nat, a.2.1 = n ∧ a.2.2.1 = 30 - (r : Int) ∧ n ≤ a.1.length ∧ a.1.length ≤ 1000) (cPair K (cEx Y) cInt) (fun a => sft a.2.1.toNat (p (a.1.drop a.2.1.toNat))) C.NoText
theorem evX_rd {K : PySem.W.Frag} {Y : ExC} {C : ExA} {p : Rd} {r : Nat} {E : XK} {Γ : Gam} {ta tb tc : TE} {text : T} {n : Nat} {z d : Int} (h1 : Ev Γ ta cT text) (h2 : Ev Γ tb cInt z) (h3 : Ev Γ tc cInt d) (hz : z = n) (hd : d = 30 - (r : Int)) (hn : n ≤ text.length) (hl : text.length ≤ 1000) :
    EvX Γ (tCall (sp_rd K Y C p r) [] E (tCons ta (tCons tb (tCons tc tNil)))) (cPair K (cEx Y) cInt) (sft n (p (text.drop n))) C.NoText E := by
  have := evX_call (E := E) (c := cPair K (cEx Y) cInt) (f := fun a : T × Int × Int × Unit => sft a.2.1.toNat (p (a.1.drop a.2.1.toNat))) (C := C.NoText) (pre := fun a : T × Int × Int × Unit => ∃ n : Nat, a.2.1 = n ∧ a.2.2.1 = 30 - (r : Int) ∧ n ≤ a.1.length ∧ a.1.length ≤ 1000) (ea_cons h1 (ea_cons h2 (ea_cons h3 ea_nil))) ⟨n, hz, hd, hn, hl⟩
  subst hz
  exact this
theorem evX_rdL {K : PySem.W.Frag} {Y : ExC} {C : ExA} {p : Rd} {r i : Nat} {E : XK} {Γ : Gam} {f0 : Addr} {ta tb tc : TE} {text : T} {n : Nat} {z d : Int} (hs : Γ[i]? = some (.val (cFn f0) ())) (h1 : Ev Γ ta cT text) (h2 : Ev Γ tb cInt z) (h3 : Ev Γ tc cInt d) (hz : z = n) (hd : d = 30 - (r : Int)) (hn : n ≤ text.length) (hl : text.length ≤ 1000) :
    EvX Γ (tCallL i f0 (sp_rd K Y C p r) [] E (tCons ta (tCons tb (tCons tc tNil)))) (cPair K (cEx Y) cInt) (sft n (p (text.drop n))) C.NoText E := by
  have := evX_callL (E := E) (c := cPair K (cEx Y) cInt) (f := fun a : T × Int × Int × Unit => sft a.2.1.toNat (p (a.1.drop a.2.1.toNat))) (C := C.NoText) (pre := fun a : T × Int × Int × Unit => ∃ n : Nat, a.2.1 = n ∧ a.2.2.1 = 30 - (r : Int) ∧ n ≤ a.1.length ∧ a.1.length ≤ 1000) hs (ea_cons h1 (ea_cons h2 (ea_cons h3 ea_nil))) ⟨n, hz, hd, hn, hl⟩
  subst hz
  exact this
/-- text[at:at + 1] -/
theorem ev_sl1 {Γ : Gam} {ta tb tc : TE} {text : T} {n m : Nat} {z y : Int} (h : Ev Γ ta cT text) (h1 : Ev Γ tb cInt z) (h2 : Ev Γ tc cInt y) (hz : z = n) (hy : y = ((n + m : Nat) : Int)) (hl : text.length ≤ 1000) : Ev Γ (tSl rSlS ta (tPart tb) (tPart tc)) cT ((text.drop n).take m) := by
  subst hz; subst hy
  refine ev_is (ev_slS h (eo_some h1) (eo_some h2) (by omega) (by omega) (by omega)) ?_
  rw [Int.toNat_natCast, Int.toNat_natCast, Nat.add_sub_cancel_left]
theorem take1 {l : T} {c : Nat} : l.take 1 = [c] ↔ l.head? = some c := by
  cases l <;> simp
def t_atom_at0 (K : PySem.W.Frag) (C : ExA) (Y : ExC) (E : XK) : TS := tSeq (tAsg (tSl (rSlS) (tVar 0) (tPart (tVar 1)) (tPart (tOp oAdd (tVar 1) (tC (.int 1))))) (gName 3)) (tSeq (tIfS (tTest (tOp rEq (tVar 3) (tC (.str "(")))) (tSeq (tIfS (tTest (tOp rEq (tVar 2) (tC (.int 30)))) (tRaise C.NoText E) tNext) (tSeq (tNever) (tSeq (tIfS (tTest (tOp rNe (tSl (rSlS) (tVar 0) (tPart (tVar 1)) (tPart (tOp oAdd (tVar 1) (tC (.int 1))))) (tC (.str ")")))) (tRaise C.NoText E) tNext) (tRet (tTup (tCons (tVar 4) (tCons (tOp oAdd (tVar 1) (tC (.int 1))) tNil))))))) tNext) (tSeq (tIfS (tAnd (tTest (tOp rNe (tVar 3) (tC (.str "")))) (tTest (tOp (rInSign) (tVar 3) (tC (.str "0123456789"))))) (tSeq (tAsg (tCall (sp_whole_at K C) [] E (tCons (tVar 0) (tCons (tVar 1) (tCons (tC (.int 30)) tNil)))) (gName 5)) (tRet (tTup (tCons (tMake Y.Number (spIni Y.Number 1 mkNum) [] E0 (tCons (tCB rIntS (tCons (tVar 5) tNil)) tNil)) (tCons (tOp oAdd (tVar 1) (tCB rLenS (tCons (tVar 5) tNil))) tNil))))) tNext) (tSeq (tAsg (tCall (sp_run_of K C) [] E (tCons (tVar 0) (tCons (tVar 1) (tCons (tC (.str "abcdefghijklmnopqrstuvwxyz")) (tCons (tC (.int 8)) tNil))))) (gName 6)) (tRet (tTup (tCons (tMake Y.Name (spIni Y.Name 1 mkName) [] E0 (tCons (tVar 6) tNil)) (tCons (tOp oAdd (tVar 1) (tCB rLenS (tCons (tVar 6) tNil))) tNil)))))))
def t_atom_at (K : PySem.W.Frag) (C : ExA) (Y : ExC) (r : Nat) (E : XK) : TS := tSeq (tAsg (tSl (rSlS) (tVar 0) (tPart (tVar 1)) (tPart (tOp oAdd (tVar 1) (tC (.int 1))))) (gName 3)) (tSeq (tIfS (tTest (tOp rEq (tVar 3) (tC (.str "(")))) (tSeq (tIfS (tTest (tOp rEq (tVar 2) (tC (.int 30)))) (tRaise C.NoText E) tNext) (tSeq (tAsg (tCall (sp_rd K Y C (pS r) r) [] E (tCons (tVar 0) (tCons (tOp oAdd (tVar 1) (tC (.int 1))) (tCons (tOp oAdd (tVar 2) (tC (.int 1))) tNil)))) (gTup K 2 (gCons (gName 4) (gCons (gName 1) (gNil))))) (tSeq (tIfS (tTest (tOp rNe (tSl (rSlS) (tVar 0) (tPart (tVar 1)) (tPart (tOp oAdd (tVar 1) (tC (.int 1))))) (tC (.str ")")))) (tRaise C.NoText E) tNext) (tRet (tTup (tCons (tVar 4) (tCons (tOp oAdd (tVar 1) (tC (.int 1))) tNil))))))) tNext) (tSeq (tIfS (tAnd (tTest (tOp rNe (tVar 3) (tC (.str "")))) (tTest (tOp (rInSign) (tVar 3) (tC (.str "0123456789"))))) (tSeq (tAsg (tCall (sp_whole_at K C) [] E (tCons (tVar 0) (tCons (tVar 1) (tCons (tC (.int 30)) tNil)))) (gName 5)) (tRet (tTup (tCons (tMake Y.Number (spIni Y.Number 1 mkNum) [] E0 (tCons (tCB rIntS (tCons (tVar 5) tNil)) tNil)) (tCons (tOp oAdd (tVar 1) (tCB rLenS (tCons (tVar 5) tNil))) tNil))))) tNext) (tSeq (tAsg (tCall (sp_run_of K C) [] E (tCons (tVar 0) (tCons (tVar 1) (tCons (tC (.str "abcdefghijklmnopqrstuvwxyz")) (tCons (tC (.int 8)) tNil))))) (gName 6)) (tRet (tTup (tCons (tMake Y.Name (spIni Y.Name 1 mkName) [] E0 (tCons (tVar 6) tNil)) (tCons (tOp oAdd (tVar 1) (tCB rLenS (tCons (tVar 6) tNil))) tNil)))))))
theorem digit_val {w : T} (h : ∀ c ∈ w, isFig c = true) : w.all (fun c => decide (48 ≤ c) && decide (c ≤ 57)) = true := List.all_eq_true.mpr fun c hc => h c hc
/-- behind the brackets' way -/
theorem rd_atom_tail (K : PySem.W.Frag) (C : ExA) (Y : ExC) (E : XK) (sub : Option Rd) (text : T) (at_ : Nat) (d : Int) (h1 : at_ ≤ text.length) (h2 : text.length ≤ 1000) (h40 : (text.drop at_).head? ≠ some 40) :
    SW (rVal (cPair K (cEx Y) cInt)) [.val cT text, .val cInt (at_ : Int), .val cInt d, .val cT ((text.drop at_).take 1), .any, .any, .any]
      (tSeq (tIfS (tAnd (tTest (tOp rNe (tVar 3) (tC (.str "")))) (tTest (tOp (rInSign) (tVar 3) (tC (.str "0123456789"))))) (tSeq (tAsg (tCall (sp_whole_at K C) [] E (tCons (tVar 0) (tCons (tVar 1) (tCons (tC (.int 30)) tNil)))) (gName 5)) (tRet (tTup (tCons (tMake Y.Number (spIni Y.Number 1 mkNum) [] E0 (tCons (tCB rIntS (tCons (tVar 5) tNil)) tNil)) (tCons (tOp oAdd (tVar 1) (tCB rLenS (tCons (tVar 5) tNil))) tNil))))) tNext) (tSeq (tAsg (tCall (sp_run_of K C) [] E (tCons (tVar 0) (tCons (tVar 1) (tCons (tC (.str "abcdefghijklmnopqrstuvwxyz")) (tCons (tC (.int 8)) tNil))))) (gName 6)) (tRet (tTup (tCons (tMake Y.Name (spIni Y.Name 1 mkName) [] E0 (tCons (tVar 6) tNil)) (tCons (tOp oAdd (tVar 1) (tCB rLenS (tCons (tVar 6) tNil))) tNil)))))) (PX (sft at_ (atomL sub (text.drop at_))) C.NoText E) := by
  have hat : atomL sub (text.drop at_) = if (text.drop at_).head?.any isFig then (match wholeL 30 (text.drop at_) with | none => none | some w => some (.num (valL w), w.length)) else match runL isLet 8 (text.drop at_) with | none => none | some w => some (.name w, w.length) := by
    unfold atomL; rw [if_neg h40]; try rfl
  refine q_when (b := (text.drop at_).head?.any isFig) (evT_is (b := !decide ((text.drop at_).take 1 = []) && (match (text.drop at_) with | [] => false | c :: _ => decide (c ∈ figs))) (evT_and (evT_test (ev_neT (ev_var rfl) (ev_t [] (by decide +kernel)))) fun h => ?_) ?_) (fun hb => ?_) (fun hb => ?_)
  · cases hl : text.drop at_ with
    | nil => rw [hl] at h; simp at h
    | cons c l => exact evT_test (ev_inSign (x := c) (by rw [show [c] = (c :: l).take 1 from rfl]; exact ev_var rfl) ev_figs)
  · cases hl : text.drop at_ with
    | nil => rfl
    | cons c l => rw [← figs_is]; simp
  · rw [hat, if_pos hb]
    refine q_asgX (evX_call (ea_cons (ev_var rfl) (ea_cons (ev_var rfl) (ea_cons ev_int ea_nil))) ⟨at_, 30, rfl, rfl, h1, h2⟩) rfl (fun w hw => ?_) (fun hw => ?_)
    · dsimp only at hw
      rw [Int.toNat_natCast, show (30 : Int).toNat = 30 from rfl] at hw
      have hs := wholeL_some hw
      rw [hw]
      dsimp only
      refine sw_ret (ev_is (ev_pair (K := K) (ev_mkNum (n := valL w) (ev_intS (ev_var rfl) (digit_val hs.2.2.2) hs.1 (by omega))) (ev_add (ev_var rfl) (ev_lenS (ev_var rfl) (by omega)))) (d' := (Ep.num (valL w), ((at_ + w.length : Nat) : Int))) rfl) rfl
    · dsimp only at hw
      rw [Int.toNat_natCast, show (30 : Int).toNat = 30 from rfl] at hw
      rw [hw]; exact ⟨rfl, rfl⟩
  · rw [hat, if_neg (by rw [hb]; decide)]
    refine q_asgX (evX_call (ea_cons (ev_var rfl) (ea_cons (ev_var rfl) (ea_cons ev_lets (ea_cons ev_int ea_nil)))) ⟨at_, 8, rfl, rfl, h1, h2⟩) rfl (fun w hw => ?_) (fun hw => ?_)
    · dsimp only at hw
      rw [Int.toNat_natCast, show (8 : Int).toNat = 8 from rfl, lets_is] at hw
      have hs := runL_some hw
      rw [hw]
      dsimp only
      refine sw_ret (ev_is (ev_pair (K := K) (ev_mkName (ev_var rfl)) (ev_add (ev_var rfl) (ev_lenS (ev_var rfl) (by omega)))) (d' := (Ep.name w, ((at_ + w.length : Nat) : Int))) rfl) rfl
    · dsimp only at hw
      rw [Int.toNat_natCast, show (8 : Int).toNat = 8 from rfl, lets_is] at hw
      rw [hw]; exact ⟨rfl, rfl⟩
theorem rd_atom_at0 (K : PySem.W.Frag) (C : ExA) (Y : ExC) (E : XK) (text : T) (at_ : Nat) (h1 : at_ ≤ text.length) (h2 : text.length ≤ 1000) :
    SW (rVal (cPair K (cEx Y) cInt)) [.val cT text, .val cInt (at_ : Int), .val cInt (30 - ((0 : Nat) : Int)), .any, .any, .any, .any] (t_atom_at0 K C Y E) (PX (sft at_ (atomL (subL 0) (text.drop at_))) C.NoText E) := by
  unfold t_atom_at0
  refine q_asg' (ev_sl1 (n := at_) (m := 1) (ev_var rfl) (ev_var rfl) (ev_add (ev_var rfl) ev_int) rfl (by omega) h2) ?_
  refine q_when (evT_test (ev_eqT (ev_var rfl) (ev_t [40] (by decide +kernel)))) (fun hb => ?_) (fun hb => ?_)
  · have hb := take1.mp (of_decide_eq_true hb)
    refine q_when (evT_test (ev_eqI (ev_var rfl) ev_int)) (fun hc => ?_) (fun hc => ?_)
    · refine sw_raise rfl ⟨rfl, ?_⟩
      unfold atomL; rw [if_pos hb]; rfl
    · exact absurd rfl (of_decide_eq_false hc)
  · exact rd_atom_tail K C Y E _ text at_ _ h1 h2 fun z => of_decide_eq_false hb (take1.mpr z)
theorem rd_atom_at (K : PySem.W.Frag) (C : ExA) (Y : ExC) (r : Nat) (E : XK) (text : T) (at_ : Nat) (h1 : at_ ≤ text.length) (h2 : text.length ≤ 1000) :
    SW (rVal (cPair K (cEx Y) cInt)) [.val cT text, .val cInt (at_ : Int), .val cInt (30 - ((r + 1 : Nat) : Int)), .any, .any, .any, .any] (t_atom_at K C Y r E) (PX (sft at_ (atomL (subL (r + 1)) (text.drop at_))) C.NoText E) := by
  unfold t_atom_at
  refine q_asg' (ev_sl1 (n := at_) (m := 1) (ev_var rfl) (ev_var rfl) (ev_add (ev_var rfl) ev_int) rfl (by omega) h2) ?_
  refine q_when (evT_test (ev_eqT (ev_var rfl) (ev_t [40] (by decide +kernel)))) (fun hb => ?_) (fun hb => ?_)
  · have hb := take1.mp (of_decide_eq_true hb)
    have hat : atomL (subL (r + 1)) (text.drop at_) = match pS r ((text.drop at_).drop 1) with | none => none | some (e, n) => if ((text.drop at_).drop (1 + n)).head? = some 41 then some (e, 1 + n + 1) else none := by
      unfold atomL; rw [if_pos hb]; rfl
    rw [List.drop_drop] at hat
    have hlt : at_ + 1 ≤ text.length := by
      have : text.drop at_ ≠ [] := fun z => by rw [z] at hb; cases hb
      have := List.length_pos_iff.mpr this
      rw [List.length_drop] at this; omega
    refine q_when (evT_test (ev_eqI (ev_var rfl) ev_int)) (fun hc => ?_) (fun hc => ?_)
    · have := of_decide_eq_true hc; omega
    · refine q_un2X (evX_rd (n := at_ + 1) (ev_var rfl) (ev_add (ev_var rfl) ev_int) (ev_add (ev_var rfl) ev_int) (by omega) (by omega) hlt h2) rfl (fun e z he => ?_) (fun he => ?_)
      · obtain ⟨n, hn, rfl⟩ := sft_some he
        rw [hn] at hat
        dsimp only at hat
        rw [List.drop_drop] at hat
        have hbd := (pS_bd r).1 _ _ _ hn
        rw [List.length_drop] at hbd
        refine q_when (evT_test (ev_neT (ev_sl1 (n := at_ + 1 + n) (m := 1) (ev_var rfl) (ev_var rfl) (ev_add (ev_var rfl) ev_int) rfl (by omega) h2) (ev_t [41] (by decide +kernel)))) (fun hd => ?_) (fun hd => ?_)
        · refine sw_raise rfl ⟨rfl, ?_⟩
          rw [hat, if_neg]
          · rfl
          · intro z
            rw [← Nat.add_assoc] at z
            simp only [Bool.not_eq_true', decide_eq_false_iff_not] at hd
            exact hd (take1.mpr z)
        · simp only [Bool.not_eq_false', decide_eq_true_eq] at hd
          have z := take1.mp hd
          rw [Nat.add_assoc] at z
          rw [hat, if_pos z]
          refine sw_ret (ev_is (ev_pair (K := K) (ev_var rfl) (ev_add (ev_var rfl) ev_int)) (d' := (e, ((at_ + (1 + n + 1) : Nat) : Int))) (by congr 1; omega)) rfl
      · rw [sft_none he] at hat
        rw [hat]; exact ⟨rfl, rfl⟩
  · exact rd_atom_tail K C Y E _ text at_ _ h1 h2 fun z => of_decide_eq_false hb (take1.mpr z)
def t_power_at (K : PySem.W.Frag) (C : ExA) (Y : ExC) (r : Nat) (E : XK) : TS := tSeq (tAsg (tCall (sp_rd K Y C (atomL (subL r)) r) [] E (tCons (tVar 0) (tCons (tVar 1) (tCons (tVar 2) tNil)))) (gTup K 2 (gCons (gName 3) (gCons (gName 1) (gNil))))) (tSeq (tIfS (tTest (tOp rNe (tSl (rSlS) (tVar 0) (tPart (tVar 1)) (tPart (tOp oAdd (tVar 1) (tC (.int 1))))) (tC (.str "^")))) (tRet (tTup (tCons (tVar 3) (tCons (tVar 1) tNil)))) tNext) (tSeq (tAsg (tCall (sp_whole_at K C) [] E (tCons (tVar 0) (tCons (tOp oAdd (tVar 1) (tC (.int 1))) (tCons (tC (.int 2)) tNil)))) (gName 4)) (tSeq (tIfS (tTest (tOp oGt (tCB rIntS (tCons (tVar 4) tNil)) (tC (.int 12)))) (tRaise C.NoText E) tNext) (tRet (tTup (tCons (tMake Y.Power (spIni Y.Power 2 mkPow) [] E0 (tCons (tVar 3) (tCons (tCB rIntS (tCons (tVar 4) tNil)) tNil))) (tCons (tOp oAdd (tOp oAdd (tVar 1) (tC (.int 1))) (tCB rLenS (tCons (tVar 4) tNil))) tNil)))))))
theorem rd_power_at (K : PySem.W.Frag) (C : ExA) (Y : ExC) (r : Nat) (E : XK) (text : T) (at_ : Nat) (h1 : at_ ≤ text.length) (h2 : text.length ≤ 1000) :
    SW (rVal (cPair K (cEx Y) cInt)) [.val cT text, .val cInt (at_ : Int), .val cInt (30 - (r : Int)), .any, .any] (t_power_at K C Y r E) (PX (sft at_ (powerL (subL r) (text.drop at_))) C.NoText E) := by
  have hat : powerL (subL r) (text.drop at_) = match atomL (subL r) (text.drop at_) with
    | none => none
    | some (e, n) => if ((text.drop at_).drop n).head? = some 94 then (match wholeL 2 ((text.drop at_).drop (n + 1)) with | none => none | some w => if 12 < valL w then none else some (.pow e (valL w), n + 1 + w.length)) else some (e, n) := rfl
  unfold t_power_at
  refine q_un2X (evX_rd (n := at_) (ev_var rfl) (ev_var rfl) (ev_var rfl) rfl rfl h1 h2) rfl (fun e z he => ?_) (fun he => ?_)
  · obtain ⟨n, hn, rfl⟩ := sft_some he
    have hbd := (pS_bd r).2.1 _ _ _ hn
    rw [List.length_drop] at hbd
    rw [hn] at hat
    dsimp only at hat
    rw [List.drop_drop, List.drop_drop] at hat
    refine q_when (evT_test (ev_neT (ev_sl1 (n := at_ + n) (m := 1) (ev_var rfl) (ev_var rfl) (ev_add (ev_var rfl) ev_int) rfl (by omega) h2) (ev_t [94] (by decide +kernel)))) (fun hd => ?_) (fun hd => ?_)
    · simp only [Bool.not_eq_true', decide_eq_false_iff_not] at hd
      rw [if_neg (fun z => hd (take1.mpr z))] at hat
      rw [hat]
      exact sw_ret (ev_pair (K := K) (ev_var rfl) (ev_var rfl)) rfl
    · simp only [Bool.not_eq_false', decide_eq_true_eq] at hd
      have hh := take1.mp hd
      rw [if_pos hh] at hat
      have hlt : at_ + n + 1 ≤ text.length := by
        have : text.drop (at_ + n) ≠ [] := fun z => by rw [z] at hh; cases hh
        have := List.length_pos_iff.mpr this
        rw [List.length_drop] at this; omega
      refine q_asgX (evX_call (ea_cons (ev_var rfl) (ea_cons (ev_add (ev_var rfl) ev_int) (ea_cons ev_int ea_nil))) ⟨at_ + n + 1, 2, by show ((at_ + n : Nat) : Int) + 1 = ((at_ + n + 1 : Nat) : Int); omega, rfl, hlt, h2⟩) rfl (fun w hw => ?_) (fun hw => ?_)
      · dsimp only at hw
        rw [show (((at_ + n : Nat) : Int) + 1).toNat = at_ + (n + 1) from by omega, show (2 : Int).toNat = 2 from rfl] at hw
        have hs := wholeL_some hw
        rw [hw] at hat
        dsimp only at hat
        have ei : ∀ {Γ : Gam} {ta : TE}, Ev Γ ta cT w → Ev Γ (tCB rIntS (tCons ta tNil)) cInt ((valL w : Nat) : Int) := fun h => ev_intS h (digit_val hs.2.2.2) hs.1 (by omega)
        refine q_when (evT_test (ev_gt (ei (ev_var rfl)) ev_int)) (fun hc => ?_) (fun hc => ?_)
        · have hc := of_decide_eq_true hc
          refine sw_raise rfl ⟨rfl, ?_⟩
          rw [hat, if_pos (by omega)]; rfl
        · have hc := of_decide_eq_false hc
          rw [hat, if_neg (by omega)]
          refine sw_ret (ev_is (ev_pair (K := K) (ev_mkPow (ev_var rfl) (ei (ev_var rfl))) (ev_add (ev_add (ev_var rfl) ev_int) (ev_lenS (ev_var rfl) (by omega)))) (d' := (Ep.pow e (valL w), ((at_ + (n + 1 + w.length) : Nat) : Int))) (by congr 1; omega)) rfl
      · dsimp only at hw
        rw [show (((at_ + n : Nat) : Int) + 1).toNat = at_ + (n + 1) from by omega, show (2 : Int).toNat = 2 from rfl] at hw
        rw [hw] at hat
        rw [hat]; exact ⟨rfl, rfl⟩
  · rw [sft_none he] at hat
    rw [hat]; exact ⟨rfl, rfl⟩
def t_factor_at (K : PySem.W.Frag) (C : ExA) (Y : ExC) (r : Nat) (E : XK) : TS := tSeq (tAsg (tC (.int 0)) (gName 3)) (tSeq (tWhile (tTest (tOp rEq (tSl (rSlS) (tVar 0) (tPart (tVar 1)) (tPart (tOp oAdd (tVar 1) (tC (.int 1))))) (tC (.str "-")))) (tSeq (tAsg (tOp oAdd (tVar 3) (tC (.int 1))) (gName 3)) (tAsg (tOp oAdd (tVar 1) (tC (.int 1))) (gName 1)))) (tSeq (tIfS (tTest (tOp oGt (tVar 3) (tC (.int 30)))) (tRaise C.NoText E) tNext) (tSeq (tAsg (tCall (sp_rd K Y C (powerL (subL r)) r) [] E (tCons (tVar 0) (tCons (tVar 1) (tCons (tVar 2) tNil)))) (gTup K 2 (gCons (gName 4) (gCons (gName 1) (gNil))))) (tSeq (tFor (iRng1 (tCons (tVar 3) tNil)) (gName 5) (tAsg (tMake Y.Less (spIni Y.Less 1 mkLess) [] E0 (tCons (tVar 4) tNil)) (gName 4))) (tRet (tTup (tCons (tVar 4) (tCons (tVar 1) tNil))))))))
theorem rd_factor_at (K : PySem.W.Frag) (C : ExA) (Y : ExC) (r : Nat) (E : XK) (text : T) (at_ : Nat) (h1 : at_ ≤ text.length) (h2 : text.length ≤ 1000) :
    SW (rVal (cPair K (cEx Y) cInt)) [.val cT text, .val cInt (at_ : Int), .val cInt (30 - (r : Int)), .any, .any, .any] (t_factor_at K C Y r E) (PX (sft at_ (factorL (subL r) (text.drop at_))) C.NoText E) := by
  have hw : ∃ k, k = minuses (text.drop at_) := ⟨_, rfl⟩
  obtain ⟨k, hk⟩ := hw
  have hkl : k ≤ text.length - at_ := by rw [hk, ← List.length_drop]; exact minuses_le _
  have hat : factorL (subL r) (text.drop at_) = if 30 < k then none else match powerL (subL r) ((text.drop at_).drop k) with
    | none => none
    | some (e, n) => some (lessN k e, k + n) := by rw [hk]; rfl
  rw [List.drop_drop] at hat
  unfold t_factor_at
  refine q_asg' ev_int ?_
  refine q_while (fun x : Nat => [.val cT text, .val cInt ((at_ + x : Nat) : Int), .val cInt (30 - (r : Int)), .val cInt (x : Int), .any, .any]) (fun x => x ≤ k) (fun x => k - x) (fun x => decide (x < k)) 0 (Wk.refl _) (Nat.zero_le _)
    (fun x hx => evT_is (evT_test (ev_eqT (ev_sl1 (n := at_ + x) (m := 1) (ev_var rfl) (ev_var rfl) (ev_add (ev_var rfl) ev_int) rfl (by omega) h2) (ev_t [45] (by decide +kernel)))) ?_) (fun x hx hb => ?_) (fun x hx hb => ?_)
  · have h3 := tw_at (p := fun c => c == 45) (text.drop at_) x (by unfold minuses at hk; rw [← hk]; exact hx)
    unfold minuses at hk
    rw [← hk] at h3
    rw [← h3, getD_drop, ← List.drop_drop]
    by_cases hlt : x < (text.drop at_).length
    · rw [decide_eq_true hlt, Bool.true_and, List.drop_eq_getElem_cons hlt]
      have : text.getD (at_ + x) 0 = (text.drop at_)[x] := by rw [← getD_drop, List.getD_eq_getElem?_getD, List.getElem?_eq_getElem hlt]; rfl
      rw [this]; simp
      by_cases z : (text.drop at_)[x] = 45
      · rw [List.getElem_drop] at z; rw [z]; rfl
      · rw [List.getElem_drop] at z; rw [decide_eq_false z]; symm; simpa using z
    · rw [decide_eq_false hlt, Bool.false_and, List.drop_of_length_le (by omega)]; rfl
  · have hb := of_decide_eq_true hb
    refine q_asg' (ev_is (ev_add (ev_var rfl) ev_int) (d' := ((x + 1 : Nat) : Int)) (by omega)) ?_
    exact sw_asg (ev_is (ev_add (ev_var rfl) ev_int) (d' := ((at_ + (x + 1) : Nat) : Int)) (by omega)) ⟨x + 1, Wk.refl _, hb, by omega⟩
  · have hb := of_decide_eq_false hb
    obtain rfl : x = k := by omega
    refine q_when (evT_test (ev_gt (ev_var rfl) ev_int)) (fun hc => ?_) (fun hc => ?_)
    · have hc := of_decide_eq_true hc
      refine sw_raise rfl ⟨rfl, ?_⟩
      rw [hat, if_pos (by omega)]; rfl
    · have hc := of_decide_eq_false hc
      rw [if_neg (by omega)] at hat
      refine q_un2X (evX_rd (n := at_ + x) (ev_var rfl) (ev_var rfl) (ev_var rfl) rfl rfl (by omega) h2) rfl (fun e z he => ?_) (fun he => ?_)
      · obtain ⟨n, hn, rfl⟩ := sft_some he
        rw [hn] at hat
        dsimp only at hat
        rw [hat]
        refine q_forR1G (fun i => [.val cT text, .val cInt ((at_ + x + n : Nat) : Int), .val cInt (30 - (r : Int)), .val cInt (x : Int), .val (cEx Y) (lessN i e), .any]) (ev_var rfl) (by omega) (by omega) (.same (.same (.same (.same (.same (.any .nil)))))) (fun i hi => ?_) ?_
        · exact sw_asg (ev_mkLess (ev_var rfl)) (.same (.same (.same (.same (.same (.any .nil))))))
        · rw [Int.toNat_natCast]
          exact sw_ret (ev_is (ev_pair (K := K) (ev_var rfl) (ev_var rfl)) (d' := (lessN x e, ((at_ + (x + n) : Nat) : Int))) (by congr 1; omega)) rfl
      · rw [sft_none he] at hat
        rw [hat]; exact ⟨rfl, rfl⟩
/-! rows -/
def sp_row (K : PySem.W.Frag) (Y : ExC) (C : ExA) (f0 : Addr) (ss : List Nat) (p : Rd) (r : Nat) : Sp := SpX (aCons cT (aCons cInt (aCons cInt (aCons (cTupL K cT) (aCons (cFn f0) aNil))))) (fun a => ∃ n : Nat, a.2.1 = n ∧ a.2.2.1 = 30 - (r : Int) ∧ a.2.2.2.1 = ss.map (fun s => [s]) ∧ n ≤ a.1.length ∧ a.1.length ≤ 1000)
  (cPair K (cEx Y) cInt) (fun a => sft a.2.1.toNat (rowL ss p (a.1.drop a.2.1.toNat))) C.NoText
def t_row_at (K : PySem.W.Frag) (Y : ExC) (f0 : Addr) (sp0 : Sp) (E : XK) : TS := tSeq (tAsg (tCallL 4 f0 sp0 [] E (tCons (tVar 0) (tCons (tVar 1) (tCons (tVar 2) tNil)))) (gTup K 2 (gCons (gName 5) (gCons (gName 1) (gNil))))) (tSeq (tWhile (tAnd (tTest (tOp rEq (tSl (rSlS) (tVar 0) (tPart (tVar 1)) (tPart (tOp oAdd (tVar 1) (tC (.int 1))))) (tC (.str " ")))) (tAnd (tTest (tOp (rIn K false) (tSl (rSlS) (tVar 0) (tPart (tOp oAdd (tVar 1) (tC (.int 1)))) (tPart (tOp oAdd (tVar 1) (tC (.int 2))))) (tVar 3))) (tTest (tOp rEq (tSl (rSlS) (tVar 0) (tPart (tOp oAdd (tVar 1) (tC (.int 2)))) (tPart (tOp oAdd (tVar 1) (tC (.int 3))))) (tC (.str " ")))))) (tSeq (tAsg (tOp (rIxS) (tVar 0) (tOp oAdd (tVar 1) (tC (.int 1)))) (gName 6)) (tSeq (tAsg (tCallL 4 f0 sp0 [] E (tCons (tVar 0) (tCons (tOp oAdd (tVar 1) (tC (.int 3))) (tCons (tVar 2) tNil)))) (gTup K 2 (gCons (gName 7) (gCons (gName 1) (gNil))))) (tAsg (tMake Y.Two (spIni Y.Two 3 mkTwo) [] E0 (tCons (tVar 6) (tCons (tVar 5) (tCons (tVar 7) tNil)))) (gName 5))))) (tRet (tTup (tCons (tVar 5) (tCons (tVar 1) tNil)))))
theorem ahead_t {ss : List Nat} {l : T} : (decide (l.take 1 = [32]) && (decide ((l.drop 1).take 1 ∈ ss.map (fun s => [s])) && decide ((l.drop 2).take 1 = [32]))) = (ahead ss l).isSome ∧ ∀ s, ahead ss l = some s → l.getD 1 0 = s ∧ 3 ≤ l.length := by
  match l with
  | [] => exact ⟨rfl, fun s h => by cases h⟩
  | [a] =>
    refine ⟨?_, fun s h => ?_⟩
    · have : ahead ss [a] = none := by unfold ahead; split <;> first | rfl | (rename_i h; cases h)
      rw [this]; simp
    · unfold ahead at h; split at h
      · rename_i h'; cases h'
      · cases h
  | [a, b] =>
    refine ⟨?_, fun s h => ?_⟩
    · have : ahead ss [a, b] = none := by unfold ahead; split <;> first | rfl | (rename_i h; cases h)
      rw [this]; simp
    · unfold ahead at h; split at h
      · rename_i h'; cases h'
      · cases h
  | a :: b :: c :: l =>
    refine ⟨?_, fun s h => ?_⟩
    · by_cases h1 : a = 32
      · by_cases h2 : c = 32
        · subst h1; subst h2
          show _ = (if b ∈ ss then some b else none).isSome
          by_cases h3 : b ∈ ss
          · rw [if_pos h3]; simp [h3]
          · rw [if_neg h3]; simp [h3]
        · have : ahead ss (a :: b :: c :: l) = none := by
            unfold ahead; split
            · rename_i h; cases h; exact absurd rfl h2
            · rfl
          rw [this]; simp [h2]
      · have : ahead ss (a :: b :: c :: l) = none := by
          unfold ahead; split
          · rename_i h; cases h; exact absurd rfl h1
          · rfl
        rw [this]; simp [h1]
    · unfold ahead at h; split at h
      · rename_i h'; cases h'
        split at h
        · cases h; exact ⟨rfl, by simp⟩
        · cases h
      · cases h
theorem rd_row_at (K : PySem.W.Frag) (C : ExA) (Y : ExC) (f0 : Addr) (ss : List Nat) (p : Rd) (hp : Bd p) (r : Nat) (E : XK) (text : T) (at_ : Nat) (h1 : at_ ≤ text.length) (h2 : text.length ≤ 1000) :
    SW (rVal (cPair K (cEx Y) cInt)) [.val cT text, .val cInt (at_ : Int), .val cInt (30 - (r : Int)), .val (cTupL K cT) (ss.map (fun s => [s])), .val (cFn f0) (), .any, .any, .any] (t_row_at K Y f0 (sp_rd K Y C p r) E) (PX (sft at_ (rowL ss p (text.drop at_))) C.NoText E) := by
  have hat : rowL ss p (text.drop at_) = match p (text.drop at_) with
    | none => none
    | some (e, n) => rowGo ss p ((text.drop at_).length + 1) ((text.drop at_).drop n) e n := rfl
  unfold t_row_at
  refine q_un2X (evX_rdL (n := at_) rfl (ev_var rfl) (ev_var rfl) (ev_var rfl) rfl rfl h1 h2) rfl (fun e z he => ?_) (fun he => ?_)
  · obtain ⟨n, hn, rfl⟩ := sft_some he
    have hbd := hp _ _ _ hn
    rw [List.length_drop] at hbd
    rw [hn] at hat
    dsimp only at hat
    rw [List.drop_drop] at hat
    -- the loop, by what is left to be reckoned
    refine q_while (fun x : Nat × Ep × Nat => [.val cT text, .val cInt ((at_ + x.2.2 : Nat) : Int), .val cInt (30 - (r : Int)), .val (cTupL K cT) (ss.map (fun s => [s])), .val (cFn f0) (), .val (cEx Y) x.2.1, .any, .any])
      (fun x => at_ + x.2.2 ≤ text.length ∧ text.length < at_ + x.2.2 + x.1 ∧ rowL ss p (text.drop at_) = rowGo ss p x.1 (text.drop (at_ + x.2.2)) x.2.1 x.2.2) (fun x => x.1) (fun x => (ahead ss (text.drop (at_ + x.2.2))).isSome) ((text.drop at_).length + 1, e, n)
      (.same (.same (.same (.same (.same (.same (.any (.any .nil)))))))) ⟨by dsimp only; omega, by dsimp only; rw [List.length_drop]; omega, hat⟩ (fun x hx => ?_) (fun x hx hb => ?_) (fun x hx hb => ?_)
    · obtain ⟨k, f, m⟩ := x
      obtain ⟨hx1, hx2, hx3⟩ := hx
      dsimp only at hx1 hx2 hx3 ⊢
      refine evT_is (evT_and (evT_test (ev_eqT (ev_sl1 (n := at_ + m) (m := 1) (ev_var rfl) (ev_var rfl) (ev_add (ev_var rfl) ev_int) rfl (by omega) h2) (ev_t [32] (by decide +kernel)))) fun _ => evT_and (evT_test (ev_inTT (ev_sl1 (n := at_ + m + 1) (m := 1) (ev_var rfl) (ev_add (ev_var rfl) ev_int) (ev_add (ev_var rfl) ev_int) (by omega) (by omega) h2) (ev_var rfl))) fun _ =>
        evT_test (ev_eqT (ev_sl1 (n := at_ + m + 2) (m := 1) (ev_var rfl) (ev_add (ev_var rfl) ev_int) (ev_add (ev_var rfl) ev_int) (by omega) (by omega) h2) (ev_t [32] (by decide +kernel)))) ?_
      rw [← ahead_t.1, List.drop_drop, List.drop_drop]
    · obtain ⟨k, f, m⟩ := x
      obtain ⟨hx1, hx2, hx3⟩ := hx
      dsimp only at hx1 hx2 hx3 hb ⊢
      obtain ⟨s, hs⟩ := Option.isSome_iff_exists.mp hb
      obtain ⟨hs1, hs2⟩ := ahead_t.2 s hs
      rw [getD_drop] at hs1
      rw [List.length_drop] at hs2
      obtain ⟨j, rfl⟩ : ∃ j, k = j + 1 := ⟨k - 1, by omega⟩
      rw [rowGo, hs] at hx3
      dsimp only at hx3
      rw [List.drop_drop] at hx3
      refine q_asg' (ev_is (ev_ixSG (ev_var rfl) (ev_add (ev_var rfl) ev_int) ⟨by omega, by omega⟩ (by omega)) (d' := [s]) (by rw [show (((at_ + m : Nat) : Int) + 1).toNat = at_ + m + 1 from by omega, hs1])) ?_
      refine q_un2X (evX_rdL (n := at_ + m + 3) rfl (ev_var rfl) (ev_add (ev_var rfl) ev_int) (ev_var rfl) (by omega) rfl (by omega) h2) rfl (fun g z hg => ?_) (fun hg => ?_)
      · obtain ⟨q, hq, rfl⟩ := sft_some hg
        have hbq := hp _ _ _ hq
        rw [List.length_drop] at hbq
        rw [hq] at hx3
        dsimp only at hx3
        rw [List.drop_drop] at hx3
        refine sw_asg (ev_mkTwo (ev_var rfl) (ev_var rfl) (ev_var rfl)) ⟨(j, .two s f g, m + (3 + q)), ?_, ⟨by dsimp only; omega, by dsimp only; omega, ?_⟩, by dsimp only; omega⟩
        · have : ((at_ + m + 3 + q : Nat) : Int) = ((at_ + (m + (3 + q)) : Nat) : Int) := by omega
          show Wk [Ent.val cT text, .val cInt ((at_ + m + 3 + q : Nat) : Int), .val cInt (30 - (r : Int)), .val (cTupL K cT) (ss.map (fun s => [s])), .val (cFn f0) (), .val (cEx Y) (.two s f g), .val cT [s], .val (cEx Y) g] _
          rw [this]
          exact .same (.same (.same (.same (.same (.same (.any (.any .nil)))))))
        · dsimp only
          rw [hx3, show at_ + m + (3 + q) = at_ + (m + (3 + q)) from by omega]
      · rw [sft_none hg] at hx3
        refine ⟨rfl, ?_⟩
        rw [hx3]; rfl
    · obtain ⟨k, f, m⟩ := x
      obtain ⟨hx1, hx2, hx3⟩ := hx
      dsimp only at hx1 hx2 hx3 hb ⊢
      have hn' : ahead ss (text.drop (at_ + m)) = none := by
        cases h : ahead ss (text.drop (at_ + m)) with
        | none => rfl
        | some s => rw [h] at hb; cases hb
      obtain ⟨j, rfl⟩ : ∃ j, k = j + 1 := ⟨k - 1, by omega⟩
      rw [rowGo, hn'] at hx3
      rw [hx3]
      exact sw_ret (ev_pair (K := K) (ev_var rfl) (ev_var rfl)) rfl
  · rw [sft_none he] at hat
    rw [hat]; exact ⟨rfl, rfl⟩
theorem evX_row {K : PySem.W.Frag} {Y : ExC} {C : ExA} {p : Rd} {r s1 s2 : Nat} {E : XK} {Γ : Gam} {f0 : Addr} {ta tb tc t1 t2 t3 : TE} {text : T} {n : Nat} {d : Int} (h1 : Ev Γ ta cT text) (h2 : Ev Γ tb cInt (n : Int)) (h3 : Ev Γ tc cInt d) (g1 : Ev Γ t1 cT [s1]) (g2 : Ev Γ t2 cT [s2]) (g3 : Ev Γ t3 (cFn f0) ())
    (hd : d = 30 - (r : Int)) (hn : n ≤ text.length) (hl : text.length ≤ 1000) : EvX Γ (tCall (sp_row K Y C f0 [s1, s2] p r) [] E (tCons ta (tCons tb (tCons tc (tCons (tTup (tCons t1 (tCons t2 tNil))) (tCons t3 tNil)))))) (cPair K (cEx Y) cInt) (sft n (rowL [s1, s2] p (text.drop n))) C.NoText E :=
  evX_call (E := E) (c := cPair K (cEx Y) cInt) (f := fun a : T × Int × Int × List T × Unit × Unit => sft a.2.1.toNat (rowL [s1, s2] p (a.1.drop a.2.1.toNat))) (C := C.NoText) (pre := fun a : T × Int × Int × List T × Unit × Unit => ∃ n : Nat, a.2.1 = n ∧ a.2.2.1 = 30 - (r : Int) ∧ a.2.2.2.1 = [s1, s2].map (fun s => [s]) ∧ n ≤ a.1.length ∧ a.1.length ≤ 1000)
    (ea_cons h1 (ea_cons h2 (ea_cons h3 (ea_cons (ev_l_pair (K := K) (ev_pair (K := K) g1 g2)) (ea_cons g3 ea_nil))))) ⟨n, rfl, hd, rfl, hn, hl⟩
def t_term_at (K : PySem.W.Frag) (C : ExA) (Y : ExC) (a_factor_at : Addr) (r : Nat) (E : XK) : TS := tRet (tCall (sp_row K Y C a_factor_at [42, 47] (factorL (subL r)) r) [] E (tCons (tVar 0) (tCons (tVar 1) (tCons (tVar 2) (tCons (tTup (tCons (tC (.str "*")) (tCons (tC (.str "/")) tNil))) (tCons (tC (.ref a_factor_at)) tNil))))))
theorem rd_term_at (K : PySem.W.Frag) (C : ExA) (Y : ExC) (a_factor_at : Addr) (r : Nat) (E : XK) (text : T) (at_ : Nat) (h1 : at_ ≤ text.length) (h2 : text.length ≤ 1000) :
    SW (rVal (cPair K (cEx Y) cInt)) [.val cT text, .val cInt (at_ : Int), .val cInt (30 - (r : Int))] (t_term_at K C Y a_factor_at r E) (PX (sft at_ (termL (subL r) (text.drop at_))) C.NoText E) := by
  unfold t_term_at
  exact sw_retX (evX_row (n := at_) (ev_var rfl) (ev_var rfl) (ev_var rfl) (ev_t [42] (by decide +kernel)) (ev_t [47] (by decide +kernel)) (ev_c fun _ => rfl) rfl h1 h2) rfl (fun x hx => hx) (fun hx => ⟨rfl, hx⟩)
def t_sum_at (K : PySem.W.Frag) (C : ExA) (Y : ExC) (a_term_at : Addr) (r : Nat) (E : XK) : TS := tRet (tCall (sp_row K Y C a_term_at [43, 45] (termL (subL r)) r) [] E (tCons (tVar 0) (tCons (tVar 1) (tCons (tVar 2) (tCons (tTup (tCons (tC (.str "+")) (tCons (tC (.str "-")) tNil))) (tCons (tC (.ref a_term_at)) tNil))))))
theorem rd_sum_at (K : PySem.W.Frag) (C : ExA) (Y : ExC) (a_term_at : Addr) (r : Nat) (E : XK) (text : T) (at_ : Nat) (h1 : at_ ≤ text.length) (h2 : text.length ≤ 1000) :
    SW (rVal (cPair K (cEx Y) cInt)) [.val cT text, .val cInt (at_ : Int), .val cInt (30 - (r : Int))] (t_sum_at K C Y a_term_at r E) (PX (sft at_ (pS r (text.drop at_))) C.NoText E) := by
  unfold t_sum_at
  rw [pS_eq]
  exact sw_retX (evX_row (n := at_) (ev_var rfl) (ev_var rfl) (ev_var rfl) (ev_t [43] (by decide +kernel)) (ev_t [45] (by decide +kernel)) (ev_c fun _ => rfl) rfl h1 h2) rfl (fun x hx => hx) (fun hx => ⟨rfl, hx⟩)
def sp_read (K : PySem.W.Frag) (Y : ExC) (C : ExA) : Sp := SpX (aCons cT aNil) (fun a => a.1.length ≤ 1000000) (cEx Y) (fun a => readL a.1) C.NoText
def t_read (K : PySem.W.Frag) (C : ExA) (Y : ExC) (E : XK) : TS := tSeq (tIfS (tTest (tOp oGt (tCB rLenS (tCons (tVar 0) tNil)) (tC (.int 1000)))) (tRaise C.NoText E) tNext) (tSeq (tAsg (tCall (sp_rd K Y C (pS 30) 30) [] E (tCons (tVar 0) (tCons (tC (.int 0)) (tCons (tC (.int 0)) tNil)))) (gTup K 2 (gCons (gName 1) (gCons (gName 2) (gNil))))) (tSeq (tIfS (tTest (tOp rNe (tVar 2) (tCB rLenS (tCons (tVar 0) tNil)))) (tRaise C.NoText E) tNext) (tRet (tVar 1))))
theorem rd_read (K : PySem.W.Frag) (C : ExA) (Y : ExC) (E : XK) (text : T) (h0 : text.length ≤ 1000000) :
    SW (rVal (cEx Y)) [.val cT text, .any, .any] (t_read K C Y E) (PX (readL text) C.NoText E) := by
  unfold t_read
  refine q_when (evT_test (ev_gt (ev_lenS (ev_var rfl) h0) ev_int)) (fun hc => ?_) (fun hc => ?_)
  · have hc := of_decide_eq_true hc
    refine sw_raise rfl ⟨rfl, ?_⟩
    unfold readL; rw [if_pos (by omega)]
  · have hc := of_decide_eq_false hc
    have hat : readL text = match pS 30 text with | none => none | some (e, n) => if n = text.length then some e else none := by unfold readL; rw [if_neg (by omega)]; try rfl
    refine q_un2X (evX_rd (n := 0) (ev_var rfl) ev_int ev_int rfl rfl (by omega) (by omega)) rfl (fun e z he => ?_) (fun he => ?_)
    · obtain ⟨n, hn, rfl⟩ := sft_some he
      rw [List.drop_zero] at hn
      rw [hn] at hat
      dsimp only at hat
      refine q_when (evT_test (ev_neI (ev_var rfl) (ev_lenS (ev_var rfl) h0))) (fun hd => ?_) (fun hd => ?_)
      · simp only [Bool.not_eq_true', decide_eq_false_iff_not] at hd
        refine sw_raise rfl ⟨rfl, ?_⟩
        rw [hat, if_neg (by omega)]
      · simp only [Bool.not_eq_false', decide_eq_true_eq] at hd
        rw [hat, if_pos (by omega)]
        exact sw_ret (ev_var rfl) rfl
    · have := sft_none he
      rw [List.drop_zero] at this
      rw [this] at hat
      rw [hat]; exact ⟨rfl, rfl⟩
end Lw.X

/-! expressions shown -/
namespace Xp
open PySem L2
/-- outermost left, and what comes behind it, in order -/
def spineF : Ep → Ep × List Ep
  | .two s l r => ((spineF l).1, (spineF l).2 ++ [.two s l r])
  | e => (e, [])
def pvx (f : Ep) (xs : List Ep) (i : Nat) : Ep := (f :: xs).getD i f
theorem spine_at : ∀ (e : Ep) (i : Nat) (d : Ep), (spineF e).2[i]? = some d → ∃ s r, d = .two s (pvx (spineF e).1 (spineF e).2 i) r
  | .two s l r, i, d, h => by
    have ih := spine_at l
    show ∃ s' r', d = Ep.two s' (pvx (spineF l).1 ((spineF l).2 ++ [Ep.two s l r]) i) r'
    have h' : ((spineF l).2 ++ [Ep.two s l r])[i]? = some d := h
    have hp : i ≤ (spineF l).2.length → pvx (spineF l).1 ((spineF l).2 ++ [Ep.two s l r]) i = pvx (spineF l).1 (spineF l).2 i := fun hi => by
      unfold pvx
      cases i with
      | zero => rfl
      | succ i => simp only [List.getD_cons_succ]; rw [List.getD_eq_getElem?_getD, List.getD_eq_getElem?_getD, List.getElem?_append_left (by omega)]
    by_cases hi : i < (spineF l).2.length
    · rw [List.getElem?_append_left hi] at h'
      obtain ⟨s', r', e'⟩ := ih i d h'
      exact ⟨s', r', by rw [hp (by omega)]; exact e'⟩
    · rw [List.getElem?_append_right (by omega)] at h'
      have hi' : i = (spineF l).2.length := by
        have := (List.getElem?_eq_some_iff.mp h').1
        simp at this; omega
      subst hi'
      simp at h'
      refine ⟨s, r, ?_⟩
      rw [hp (by omega), ← h']
      congr 1
      exact (spine_last l).symm
  | .num _, i, d, h => by simp [spineF] at h
  | .name _, i, d, h => by simp [spineF] at h
  | .pow _ _, i, d, h => by simp [spineF] at h
  | .less _, i, d, h => by simp [spineF] at h
where
  spine_last : ∀ l : Ep, pvx (spineF l).1 (spineF l).2 (spineF l).2.length = l
    | .two s l r => by
      show pvx (spineF l).1 ((spineF l).2 ++ [Ep.two s l r]) ((spineF l).2 ++ [Ep.two s l r]).length = _
      unfold pvx
      rw [List.length_append, List.length_singleton, List.getD_cons_succ, List.getD_eq_getElem?_getD, List.getElem?_append_right (by omega)]
      simp
    | .num _ => rfl
    | .name _ => rfl
    | .pow _ _ => rfl
    | .less _ => rfl
theorem spine_end (e : Ep) : pvx (spineF e).1 (spineF e).2 (spineF e).2.length = e := spine_at.spine_last e
theorem spine_size : ∀ (e : Ep), (size (spineF e).1 ≤ size e ∧ (Wf e → Wf (spineF e).1)) ∧ ∀ d ∈ (spineF e).2, size d ≤ size e ∧ (Wf e → Wf d)
  | .two s l r => by
    obtain ⟨⟨h1, h2⟩, h3⟩ := spine_size l
    refine ⟨⟨by show size (spineF l).1 ≤ _; simp [size]; omega, fun w => h2 w.2.1⟩, fun d hd => ?_⟩
    rcases List.mem_append.mp hd with hd | hd
    · obtain ⟨h4, h5⟩ := h3 d hd
      exact ⟨by simp [size]; omega, fun w => h5 w.2.1⟩
    · obtain rfl := List.mem_singleton.mp hd
      exact ⟨Nat.le_refl _, id⟩
  | .num _ => ⟨⟨Nat.le_refl _, id⟩, fun d h => by simp [spineF] at h⟩
  | .name _ => ⟨⟨Nat.le_refl _, id⟩, fun d h => by simp [spineF] at h⟩
  | .pow _ _ => ⟨⟨Nat.le_refl _, id⟩, fun d h => by simp [spineF] at h⟩
  | .less _ => ⟨⟨Nat.le_refl _, id⟩, fun d h => by simp [spineF] at h⟩
theorem spine_two {s : Nat} {l r : Ep} : size (spineF (.two s l r)).1 < size (.two s l r) := by
  have := (spine_size l).1.1
  show size (spineF l).1 < _
  simp [size]; omega
theorem size_pos (e : Ep) : 0 < size e := by cases e <;> simp [size]
theorem num_lt {n k : Nat} (h : (TL.numL n).length ≤ k) : n < 10 ^ k := by
  have h1 := valL_lt (w := TL.numL n) (fun c hc => fig_of hc)
  rw [valL_num] at h1
  exact Nat.lt_of_lt_of_le h1 (Nat.pow_le_pow_right (by omega) h)
theorem br_len {b l : Nat} {t : T} : (br b l t).length ≤ t.length + 2 := by
  unfold br; split <;> simp
theorem sh_len : ∀ e : Ep, Wf e → (sh e).length ≤ 40 * size e
  | .num n, w => by
    have : (TL.numL n).length ≤ 30 := w
    show (TL.numL n).length ≤ 40 * 1; omega
  | .name w, h => by
    have := h.2.1
    show w.length ≤ 40 * 1; omega
  | .two s l r, w => by
    have h1 := sh_len l w.2.1
    have h2 := sh_len r w.2.2
    have h3 := br_len (b := binds l) (l := bindS s) (t := sh l)
    have h4 := br_len (b := binds r) (l := bindS s + 1) (t := sh r)
    show (br _ _ _ ++ 32 :: s :: 32 :: br _ _ _).length ≤ 40 * (size l + size r + 1)
    rw [List.length_append, List.length_cons, List.length_cons, List.length_cons]; omega
  | .pow b n, w => by
    have h1 := sh_len b w.1
    have h3 := br_len (b := binds b) (l := 4) (t := sh b)
    have h5 : (TL.numL n).length ≤ 2 := TL.numL_len (by decide) (by have := w.2; omega)
    show (br _ _ _ ++ 94 :: TL.numL n).length ≤ 40 * (size b + 1)
    rw [List.length_append, List.length_cons]; omega
  | .less e, w => by
    have h1 := sh_len e w
    have h3 := br_len (b := binds e) (l := 2) (t := sh e)
    show (45 :: br _ _ _).length ≤ 40 * (size e + 1)
    rw [List.length_cons]; omega
end Xp
namespace Lw.X
open PySem PySem.Spec PyProof.Rows L2 Pw Xp
def sp_binds (K : PySem.W.Frag) (Y : ExC) : Nat → Sp := SpMF Y aNil (fun _ => True) cInt (fun z => (binds z.1 : Int))
def t_Number_binds (K : PySem.W.Frag) : TS := tRet (tC (.int 4))
def t_Name_binds (K : PySem.W.Frag) : TS := tRet (tC (.int 4))
def t_Two_binds (K : PySem.W.Frag) : TS := tSeq (tIfS (tOr (tTest (tOp rEq (tFld K (tVar 0) "sign") (tC (.str "+")))) (tTest (tOp rEq (tFld K (tVar 0) "sign") (tC (.str "-"))))) (tRet (tC (.int 0))) tNext) (tRet (tC (.int 1)))
def t_Power_binds (K : PySem.W.Frag) : TS := tRet (tC (.int 3))
def t_Less_binds (K : PySem.W.Frag) : TS := tRet (tC (.int 2))
theorem nf_binds : ("binds" : Str) ∉ fldNames := by decide +kernel
theorem nf_shown : ("shown" : Str) ∉ fldNames := by decide +kernel
theorem ev_binds {K : PySem.W.Frag} {Y : ExC} {Γ : Gam} {ta : TE} {e : Ep} {E : XK} (h : Ev Γ ta (cEx Y) e) : Ev Γ (tM5 Y "binds" (sp_binds K Y) E ta tNil) cInt (binds e : Int) :=
  ev_mF (f := fun z : Ep × Unit => (binds z.1 : Int)) (pre := fun _ => True) h ea_nil trivial nf_binds
theorem rd_Number_binds (K : PySem.W.Frag) (Y : ExC) (e : Ep) (h : clsI e = 0) : SW (rVal cInt) [.val (cEx Y) e] (t_Number_binds K) (PF (binds e : Int)) := by
  cases e <;> first | exact sw_ret ev_int rfl | cases h
theorem rd_Name_binds (K : PySem.W.Frag) (Y : ExC) (e : Ep) (h : clsI e = 1) : SW (rVal cInt) [.val (cEx Y) e] (t_Name_binds K) (PF (binds e : Int)) := by
  cases e <;> first | exact sw_ret ev_int rfl | cases h
theorem rd_Power_binds (K : PySem.W.Frag) (Y : ExC) (e : Ep) (h : clsI e = 3) : SW (rVal cInt) [.val (cEx Y) e] (t_Power_binds K) (PF (binds e : Int)) := by
  cases e <;> first | exact sw_ret ev_int rfl | cases h
theorem rd_Less_binds (K : PySem.W.Frag) (Y : ExC) (e : Ep) (h : clsI e = 4) : SW (rVal cInt) [.val (cEx Y) e] (t_Less_binds K) (PF (binds e : Int)) := by
  cases e <;> first | exact sw_ret ev_int rfl | cases h
theorem rd_Two_binds (K : PySem.W.Frag) (Y : ExC) (k : ExK K Y) (e : Ep) (h : clsI e = 2) : SW (rVal cInt) [.val (cEx Y) e] (t_Two_binds K) (PF (binds e : Int)) := by
  cases e with
  | two s l r =>
    unfold t_Two_binds
    refine q_when (evT_or (evT_test (ev_eqT (ev_fSign k (ev_var rfl)) (ev_t [43] (by decide +kernel)))) fun _ => evT_test (ev_eqT (ev_fSign k (ev_var rfl)) (ev_t [45] (by decide +kernel)))) (fun hc => ?_) (fun hc => ?_)
    · refine sw_ret ev_int ?_
      show (0 : Int) = ((bindS s : Nat) : Int)
      simp at hc
      unfold bindS; rw [if_pos hc]; rfl
    · refine sw_ret ev_int ?_
      show (1 : Int) = ((bindS s : Nat) : Int)
      simp at hc
      unfold bindS; rw [if_neg (by intro z; rcases z with z | z; exact hc.1 z; exact hc.2 z)]; rfl
  | _ => cases h
/-! spine, core -/
def sp_Two_spine (K : PySem.W.Frag) (Y : ExC) : Sp := SpF (aCons (cEx Y) aNil) (fun a => clsI a.1 = 2 ∧ size a.1 ≤ 5000) (cPair K (cEx Y) (cList K (cEx Y))) (fun a => spineF a.1)
def t_Two_spine (K : PySem.W.Frag) (Y : ExC) : TS := tSeq (tAsg (tLst tNil) (gName 1)) (tSeq (tAsg (tVar 0) (gName 2)) (tSeq (tWhile (tB (tCB (rIsi K) (tCons (tVar 2) (tCons (tC (.ref Y.Two)) tNil)))) (tSeq (tDrop (tBM K "list" rAppend (tVar 1) (tCons (tVar 2) tNil))) (tAsg (tFld K (tVar 2) "left") (gName 2)))) (tRet (tTup (tCons (tVar 2) (tCons (tRevL K (tVar 1)) tNil))))))
theorem spine_len : ∀ e : Ep, (spineF e).2.length < size e + 0 + 1
  | .two s l r => by
    have := spine_len l
    show ((spineF l).2 ++ [_]).length < _
    simp [size]; omega
  | .num _ => by simp [spineF]
  | .name _ => by simp [spineF]
  | .pow _ _ => by simp [spineF]
  | .less _ => by simp [spineF]
theorem rd_Two_spine (K : PySem.W.Frag) (Y : ExC) (k : ExK K Y) (e : Ep) (h : clsI e = 2) (hs : size e ≤ 5000) : SW (rVal (cPair K (cEx Y) (cList K (cEx Y)))) [.val (cEx Y) e, .any, .any] (t_Two_spine K Y) (PF (spineF e)) := by
  unfold t_Two_spine
  refine q_asgN (c := cEx Y) (evN_lst el_nil (by simp)) (fun xs hx => ?_)
  subst hx
  refine q_asg' (ev_var rfl) ?_
  refine q_while (fun x : List Ep × Ep => [.val (cEx Y) e, .own (cEx Y) x.1, .val (cEx Y) x.2]) (fun x => (spineF e).1 = (spineF x.2).1 ∧ (spineF e).2 = (spineF x.2).2 ++ x.1.reverse ∧ x.1.length + size x.2 ≤ 5000) (fun x => size x.2) (fun x => decide (clsI x.2 = 2)) ([], e)
    (Wk.refl _) ⟨rfl, by simp, by simpa using hs⟩ (fun x hx => evT_B (ev_isEx k (ev_var rfl) (k.i2 x.2))) (fun x hx hb => ?_) (fun x hx hb => ?_)
  · obtain ⟨xs, p⟩ := x
    obtain ⟨h1, h2, h3⟩ := hx
    have hb := of_decide_eq_true hb
    dsimp only at h1 h2 h3 hb ⊢
    cases p with
    | two s l r =>
      have := size_pos l
      refine q_app (c := cEx Y) rfl (ev_var rfl) (by omega) ?_
      refine sw_asg (ev_fLeft k (ev_var rfl)) ⟨(xs ++ [.two s l r], l), Wk.refl _, ⟨h1, ?_, ?_⟩, ?_⟩
      · rw [h2]
        show ((spineF l).2 ++ [Ep.two s l r]) ++ xs.reverse = (spineF l).2 ++ (xs ++ [Ep.two s l r]).reverse
        simp
      · simp [size] at h3 ⊢; omega
      · simp [size]; omega
    | _ => cases hb
  · obtain ⟨xs, p⟩ := x
    obtain ⟨h1, h2, h3⟩ := hx
    have hb := of_decide_eq_false hb
    dsimp only at h1 h2 h3 hb ⊢
    have e1 : spineF p = (p, []) := by cases p <;> first | rfl | exact absurd rfl hb
    rw [e1] at h1 h2
    refine sw_ret (ev_is (ev_pair (K := K) (ev_var rfl) (evN_revO rfl).ev) (d' := spineF e) ?_) rfl
    rw [show spineF e = ((spineF e).1, (spineF e).2) from rfl, h1, h2]; rfl
def sp_Less_core (K : PySem.W.Frag) (Y : ExC) : Sp := SpF (aCons (cEx Y) aNil) (fun a => clsI a.1 = 4) (cPair K (cEx Y) cInt) (fun a => ((chain a.1).2, ((chain a.1).1 : Int)))
def t_Less_core (K : PySem.W.Frag) (Y : ExC) : TS := tSeq (tAsg (tC (.int 0)) (gName 1)) (tSeq (tAsg (tVar 0) (gName 2)) (tSeq (tWhile (tB (tCB (rIsi K) (tCons (tVar 2) (tCons (tC (.ref Y.Less)) tNil)))) (tSeq (tAsg (tOp oAdd (tVar 1) (tC (.int 1))) (gName 1)) (tAsg (tFld K (tVar 2) "inner") (gName 2)))) (tRet (tTup (tCons (tVar 2) (tCons (tVar 1) tNil))))))
theorem rd_Less_core (K : PySem.W.Frag) (Y : ExC) (k : ExK K Y) (e : Ep) : SW (rVal (cPair K (cEx Y) cInt)) [.val (cEx Y) e, .any, .any] (t_Less_core K Y) (PF ((chain e).2, ((chain e).1 : Int))) := by
  unfold t_Less_core
  refine q_asg' ev_int ?_
  refine q_asg' (ev_var rfl) ?_
  refine q_while (fun x : Nat × Ep => [.val (cEx Y) e, .val cInt (x.1 : Int), .val (cEx Y) x.2]) (fun x => (chain e).1 = x.1 + (chain x.2).1 ∧ (chain e).2 = (chain x.2).2) (fun x => size x.2) (fun x => decide (clsI x.2 = 4)) (0, e)
    (Wk.refl _) ⟨by simp, rfl⟩ (fun x hx => evT_B (ev_isEx k (ev_var rfl) (k.i4 x.2))) (fun x hx hb => ?_) (fun x hx hb => ?_)
  · obtain ⟨m, p⟩ := x
    obtain ⟨h1, h2⟩ := hx
    have hb := of_decide_eq_true hb
    dsimp only at h1 h2 hb ⊢
    cases p with
    | less b =>
      refine q_asg' (ev_is (ev_add (ev_var rfl) ev_int) (d' := ((m + 1 : Nat) : Int)) (by omega)) ?_
      refine sw_asg (ev_fInner k (ev_var rfl)) ⟨(m + 1, b), Wk.refl _, ⟨?_, h2⟩, by simp [size]⟩
      rw [h1]; show m + ((chain b).1 + 1) = m + 1 + (chain b).1; omega
    | _ => cases hb
  · obtain ⟨m, p⟩ := x
    obtain ⟨h1, h2⟩ := hx
    have hb := of_decide_eq_false hb
    dsimp only at h1 h2 hb ⊢
    have e1 : chain p = (0, p) := by cases p <;> first | rfl | exact absurd rfl hb
    rw [e1] at h1 h2
    dsimp only at h1 h2
    rw [h1, h2]
    exact sw_ret (ev_pair (K := K) (ev_var rfl) (ev_var rfl)) rfl
/-! shown -/
def sp_shown (K : PySem.W.Frag) (Y : ExC) (n : Nat) : Nat → Sp := SpMF Y aNil (fun z => size z.1 ≤ n ∧ n ≤ 5000 ∧ Wf z.1) cT (fun z => sh z.1)
def sp_bracketed (K : PySem.W.Frag) (Y : ExC) (n : Nat) : Sp := SpF (aCons (cEx Y) (aCons cInt aNil)) (fun a => size a.1 ≤ n ∧ n ≤ 5000 ∧ Wf a.1 ∧ ∃ l : Nat, a.2.1 = l) cT (fun a => br (binds a.1) a.2.1.toNat (sh a.1))
theorem ev_shown {K : PySem.W.Frag} {Y : ExC} {Γ : Gam} {ta : TE} {e : Ep} {E : XK} {n : Nat} (h : Ev Γ ta (cEx Y) e) (h1 : size e ≤ n) (h2 : n ≤ 5000) (h3 : Wf e) : Ev Γ (tM5 Y "shown" (sp_shown K Y n) E ta tNil) cT (sh e) :=
  ev_mF (f := fun z : Ep × Unit => sh z.1) (pre := fun z : Ep × Unit => size z.1 ≤ n ∧ n ≤ 5000 ∧ Wf z.1) h ea_nil ⟨h1, h2, h3⟩ nf_shown
theorem ev_brack {K : PySem.W.Frag} {Y : ExC} {Γ : Gam} {ta tb : TE} {e : Ep} {E : XK} {n l : Nat} (h : Ev Γ ta (cEx Y) e) (hl : Ev Γ tb cInt (l : Int)) (h1 : size e ≤ n) (h2 : n ≤ 5000) (h3 : Wf e) : Ev Γ (tCall (sp_bracketed K Y n) [] E (tCons ta (tCons tb tNil))) cT (br (binds e) l (sh e)) :=
  ev_call (f := fun a : Ep × Int × Unit => br (binds a.1) a.2.1.toNat (sh a.1)) (pre := fun a : Ep × Int × Unit => size a.1 ≤ n ∧ n ≤ 5000 ∧ Wf a.1 ∧ ∃ l : Nat, a.2.1 = l) (ea_cons h (ea_cons hl ea_nil)) ⟨h1, h2, h3, l, rfl⟩
def t_bracketed (K : PySem.W.Frag) (Y : ExC) (n : Nat) : TS := tSeq (tIfS (tTest (tOp oLt (tM5 Y "binds" (sp_binds K Y) E0 (tVar 0) tNil) (tVar 1))) (tRet (tOp (rCatS) (tOp (rCatS) (tC (.str "(")) (tM5 Y "shown" (sp_shown K Y n) E0 (tVar 0) tNil)) (tC (.str ")")))) tNext) (tRet (tM5 Y "shown" (sp_shown K Y n) E0 (tVar 0) tNil))
theorem rd_bracketed (K : PySem.W.Frag) (Y : ExC) (n : Nat) (e : Ep) (l : Nat) (h1 : size e ≤ n) (h2 : n ≤ 5000) (h3 : Wf e) : SW (rVal cT) [.val (cEx Y) e, .val cInt (l : Int)] (t_bracketed K Y n) (PF (br (binds e) l (sh e))) := by
  have hl := sh_len e h3
  unfold t_bracketed
  refine q_when (evT_test (ev_lt (ev_binds (ev_var rfl)) (ev_var rfl))) (fun hc => ?_) (fun hc => ?_)
  · have hc := of_decide_eq_true hc
    refine sw_ret (ev_is (ev_catS (ev_catS (ev_t [40] (by decide +kernel)) (ev_shown (ev_var rfl) h1 h2 h3) (by simp; omega)) (ev_t [41] (by decide +kernel)) (by simp; omega)) ?_) rfl
    unfold br; rw [if_pos (by omega)]; simp
  · have hc := of_decide_eq_false hc
    refine sw_ret (ev_is (ev_shown (ev_var rfl) h1 h2 h3) ?_) rfl
    unfold br; rw [if_neg (by omega)]
def t_Number_shown (K : PySem.W.Frag) : TS := tRet (tCB rStrI (tCons (tFld K (tVar 0) "whole") tNil))
def t_Name_shown (K : PySem.W.Frag) : TS := tRet (tFld K (tVar 0) "word")
def t_Two_shown (K : PySem.W.Frag) (Y : ExC) (n : Nat) : TS := tSeq (tAsg (tMeth Y.Two "spine" (sp_Two_spine K Y) [] E0 (tVar 0) tNil) (gTup K 2 (gCons (gName 1) (gCons (gName 2) (gNil))))) (tSeq (tAsg (tM5 Y "shown" (sp_shown K Y n) E0 (tVar 1) tNil) (gName 3)) (tSeq (tAsg (tM5 Y "binds" (sp_binds K Y) E0 (tVar 1) tNil) (gName 4)) (tSeq (tFor (iList K (tVar 2)) (gName 5) (tSeq (tIfS (tTest (tOp oLt (tVar 4) (tM5 Y "binds" (sp_binds K Y) E0 (tVar 5) tNil))) (tAsg (tOp (rCatS) (tOp (rCatS) (tC (.str "(")) (tVar 3)) (tC (.str ")"))) (gName 3)) tNext) (tSeq (tAsg (tM5 Y "binds" (sp_binds K Y) E0 (tVar 5) tNil) (gName 4)) (tAsg (tOp (rCatS) (tOp (rCatS) (tOp (rCatS) (tOp (rCatS) (tVar 3) (tC (.str " "))) (tFld K (tVar 5) "sign")) (tC (.str " "))) (tCall (sp_bracketed K Y n) [] E0 (tCons (tFld K (tVar 5) "right") (tCons (tOp oAdd (tVar 4) (tC (.int 1))) tNil)))) (gName 3))))) (tRet (tVar 3)))))
def t_Power_shown (K : PySem.W.Frag) (Y : ExC) (n : Nat) : TS := tRet (tOp (rCatS) (tOp (rCatS) (tCall (sp_bracketed K Y n) [] E0 (tCons (tFld K (tVar 0) "base") (tCons (tC (.int 4)) tNil))) (tC (.str "^"))) (tCB rStrI (tCons (tFld K (tVar 0) "exponent") tNil)))
def t_Less_shown (K : PySem.W.Frag) (Y : ExC) (n : Nat) : TS := tSeq (tAsg (tMeth Y.Less "core" (sp_Less_core K Y) [] E0 (tVar 0) tNil) (gTup K 2 (gCons (gName 1) (gCons (gName 2) (gNil))))) (tRet (tOp (rCatS) (tOp (rMulS) (tC (.str "-")) (tVar 2)) (tCall (sp_bracketed K Y n) [] E0 (tCons (tVar 1) (tCons (tC (.int 2)) tNil)))))
theorem rd_Number_shown (K : PySem.W.Frag) (Y : ExC) (k : ExK K Y) (e : Ep) (h : clsI e = 0) (w : Wf e) : SW (rVal cT) [.val (cEx Y) e] (t_Number_shown K) (PF (sh e)) := by
  cases e with
  | num n =>
    have : n < 10 ^ 30 := num_lt w
    refine sw_ret (ev_strI (ev_fWhole k (ev_var rfl)) ?_) rfl
    by_cases h0 : n = 0
    · subst h0; decide
    · rw [Nat.log2_lt h0]; exact Nat.lt_of_lt_of_le this (by decide +kernel)
  | _ => cases h
theorem rd_Name_shown (K : PySem.W.Frag) (Y : ExC) (k : ExK K Y) (e : Ep) (h : clsI e = 1) : SW (rVal cT) [.val (cEx Y) e] (t_Name_shown K) (PF (sh e)) := by
  cases e with
  | name w => exact sw_ret (ev_fWord k (ev_var rfl)) rfl
  | _ => cases h
theorem rd_Power_shown (K : PySem.W.Frag) (Y : ExC) (k : ExK K Y) (n : Nat) (e : Ep) (h : clsI e = 3) (h1 : size e ≤ n + 1) (h2 : n ≤ 5000) (w : Wf e) : SW (rVal cT) [.val (cEx Y) e] (t_Power_shown K Y n) (PF (sh e)) := by
  cases e with
  | pow b m =>
    have hl := sh_len b w.1
    have h1' : size b ≤ n := by simp [size] at h1; omega
    have hb := br_len (b := binds b) (l := 4) (t := sh b)
    have h5 : (TL.numL m).length ≤ 2 := TL.numL_len (by decide) (by have := w.2; omega)
    have hm := w.2
    refine sw_ret (ev_is (ev_catS (ev_catS (ev_brack (e := b) (ev_fBase k (ev_var rfl)) (l := 4) ev_int h1' h2 w.1) (ev_t [94] (by decide +kernel)) (by simp; omega)) (ev_strI (n := m) (ev_fExp k (ev_var rfl)) ?_) (by simp; omega)) ?_) rfl
    · by_cases h0 : m = 0
      · subst h0; decide
      · rw [Nat.log2_lt h0]; exact Nat.lt_of_le_of_lt hm (Nat.lt_of_lt_of_le (show 12 < 2 ^ 4 by decide) (Nat.pow_le_pow_right (by decide) (by decide)))
    · show _ = br (binds b) 4 (sh b) ++ 94 :: TL.numL m
      simp
  | _ => cases h
theorem rd_Less_shown (K : PySem.W.Frag) (Y : ExC) (k : ExK K Y) (n : Nat) (e : Ep) (h : clsI e = 4) (h1 : size e ≤ n + 1) (h2 : n ≤ 5000) (w : Wf e) : SW (rVal cT) [.val (cEx Y) e, .any, .any] (t_Less_shown K Y n) (PF (sh e)) := by
  have hc := chain_eq e
  generalize hq : chain e = q at hc
  obtain ⟨m, c⟩ := q
  dsimp only at hc
  have hm : ∃ j, m = j + 1 := by
    cases e with
    | less b => have : (chain b).1 + 1 = m := congrArg Prod.fst hq; exact ⟨_, this.symm⟩
    | _ => cases h
  obtain ⟨j, rfl⟩ := hm
  have hs : size e = size c + (j + 1) := by rw [hc]; exact size_lessN c _
  have wc : Wf c := wf_lessN c _ (hc ▸ w)
  have hl := sh_len c wc
  have hb := br_len (b := binds c) (l := 2) (t := sh c)
  unfold t_Less_shown
  have ec : Ev ([.val (cEx Y) e, .any, .any] : Gam) (tMeth Y.Less "core" (sp_Less_core K Y) [] E0 (tVar 0) tNil) (cPair K (cEx Y) cInt) (c, ((j + 1 : Nat) : Int)) := fun F H σ S Q q => by
    obtain ⟨v, h1, h2⟩ := S.var (i := 0) rfl
    obtain ⟨a, dx, fs, rfl, ha, hl⟩ := ex_at h2
    rw [h, show Y.at_ 4 = Y.Less from rfl] at ha
    exact ⟨.ref a, h1, a, dx, fs, rfl, S.ex a _ ha, hl _ (by decide +kernel), F, (e, ()), S.ex, ⟨_, _, rfl, h2, rfl⟩, h, fun v F' H' e' r => q v F' H' e' (by have r := r; dsimp only at r; rw [hq] at r; exact r)⟩
  refine q_un2 ec (fun x y hx hy => ?_)
  subst hx; subst hy
  refine sw_ret (ev_is (ev_catS (ev_mulS' (ev_t [45] (by decide +kernel)) (ev_var rfl) ⟨by omega, by omega⟩ (by simp)) (ev_brack (e := x) (ev_var rfl) (l := 2) ev_int (by omega) h2 wc) ?_) ?_) rfl
  · have e0 : (List.replicate ((j + 1 : Nat) : Int).toNat [45]).flatten = List.replicate (j + 1) 45 := by
      rw [Int.toNat_natCast]
      have : ∀ k : Nat, (List.replicate k [45]).flatten = List.replicate k 45 := fun k => by
        induction k with
        | zero => rfl
        | succ k ih => rw [List.replicate_succ, List.flatten_cons, ih]; rfl
      exact this _
    rw [e0, List.length_replicate]; omega
  · rw [hc, sh_lessN, Int.toNat_natCast]
    congr 1
    have : ∀ k : Nat, (List.replicate k [45]).flatten = List.replicate k 45 := fun k => by
      induction k with
      | zero => rfl
      | succ k ih => rw [List.replicate_succ, List.flatten_cons, ih]; rfl
    exact this _
theorem rd_Two_shown (K : PySem.W.Frag) (Y : ExC) (k : ExK K Y) (n : Nat) (e : Ep) (h : clsI e = 2) (h1 : size e ≤ n + 1) (h2 : n < 5000) (w : Wf e) : SW (rVal cT) [.val (cEx Y) e, .any, .any, .any, .any, .any] (t_Two_shown K Y n) (PF (sh e)) := by
  unfold t_Two_shown
  have ec : Ev ([.val (cEx Y) e, .any, .any, .any, .any, .any] : Gam) (tMeth Y.Two "spine" (sp_Two_spine K Y) [] E0 (tVar 0) tNil) (cPair K (cEx Y) (cList K (cEx Y))) (spineF e) := fun F H σ S Q q => by
    obtain ⟨v, g1, g2⟩ := S.var (i := 0) rfl
    obtain ⟨a, dx, fs, rfl, ha, hl⟩ := ex_at g2
    rw [h, show Y.at_ 2 = Y.Two from rfl] at ha
    exact ⟨.ref a, g1, a, dx, fs, rfl, S.ex a _ ha, hl _ (by decide +kernel), F, (e, ()), S.ex, ⟨_, _, rfl, g2, rfl⟩, ⟨h, by show size e ≤ 5000; omega⟩, fun v F' H' e' r => q v F' H' e' r⟩
  have hf : size (spineF e).1 ≤ n := by
    cases e with
    | two s l r => have := spine_two (s := s) (l := l) (r := r); omega
    | _ => cases h
  have wf1 := (spine_size e).1.2 w
  refine q_un2 ec (fun x y hx hy => ?_)
  subst hx; subst hy
  refine q_asg' (ev_shown (ev_var rfl) hf (by omega) wf1) ?_
  refine q_asg' (ev_binds (ev_var rfl)) ?_
  refine q_forLG (fun i => [.val (cEx Y) e, .val (cEx Y) (spineF e).1, .val (cList K (cEx Y)) (spineF e).2, .val cT (sh (pvx (spineF e).1 (spineF e).2 i)), .val cInt (binds (pvx (spineF e).1 (spineF e).2 i) : Int), .any]) (ev_var rfl) (Wk.refl _) (fun i d hd => ?_) ?_
  · obtain ⟨s, r, hdr⟩ := spine_at e i d hd
    have hmem : d ∈ (spineF e).2 := List.mem_of_getElem? hd
    obtain ⟨hz1, hz2⟩ := (spine_size e).2 d hmem
    have wd := hz2 w
    have hnext : pvx (spineF e).1 (spineF e).2 (i + 1) = d := by
      unfold pvx
      rw [List.getD_cons_succ, List.getD_eq_getElem?_getD, hd]; rfl
    generalize hp : pvx (spineF e).1 (spineF e).2 i = p at hdr ⊢
    subst hdr
    have hsz : size p + size r + 1 ≤ n + 1 := by simpa [size] using Nat.le_trans hz1 h1
    have hlp := sh_len p wd.2.1
    have hlr := sh_len r wd.2.2
    have hb1 := br_len (b := binds p) (l := bindS s) (t := sh p)
    have hb2 := br_len (b := binds r) (l := bindS s + 1) (t := sh r)
    have := size_pos p
    refine q_join [.val (cEx Y) e, .val (cEx Y) (spineF e).1, .val (cList K (cEx Y)) (spineF e).2, .val cT (br (binds p) (bindS s) (sh p)), .val cInt (binds p : Int), .val (cEx Y) (.two s p r)] ?_ ?_
    · refine sw_when (evT_test (ev_lt (ev_var rfl) (ev_binds (ev_var rfl)))) (fun hc => ?_) (fun hc => ?_)
      · have hc := of_decide_eq_true hc
        refine sw_asg (ev_is (ev_catS (ev_catS (ev_t [40] (by decide +kernel)) (ev_var rfl) (by simp; omega)) (ev_t [41] (by decide +kernel)) (by simp; omega)) (d' := br (binds p) (bindS s) (sh p)) ?_) (Wk.refl _)
        have : binds p < bindS s := by have : binds (.two s p r) = bindS s := rfl; omega
        unfold br; rw [if_pos this]; simp
      · have hc := of_decide_eq_false hc
        have : ¬ binds p < bindS s := by have : binds (.two s p r) = bindS s := rfl; omega
        show Wk _ _
        unfold br; rw [if_neg this]
        exact Wk.refl _
    · refine q_asg' (ev_binds (ev_var rfl)) ?_
      refine sw_asg (ev_is (ev_catS (ev_catS (ev_catS (ev_catS (ev_var rfl) (ev_t [32] (by decide +kernel)) (by simp; omega)) (ev_fSign (s := s) k (ev_var rfl)) (by simp; omega)) (ev_t [32] (by decide +kernel)) (by simp; omega)) (ev_brack (e := r) (l := bindS s + 1) (ev_fRight k (ev_var rfl)) (ev_is (ev_add (ev_var rfl) ev_int) (by show ((bindS s : Nat) : Int) + 1 = ((bindS s + 1 : Nat) : Int); omega)) (by omega) (by omega) wd.2.2) (by simp; omega)) (d' := sh (.two s p r)) ?_) ?_
      · show _ = br (binds p) (bindS s) (sh p) ++ 32 :: s :: 32 :: br (binds r) (bindS s + 1) (sh r)
        simp
      · rw [hnext]
        exact .same (.same (.same (.same (.same (.any .nil)))))
  · rw [spine_end]
    exact sw_ret (ev_var rfl) rfl
end Lw.X

/-! tuples of four with a tree, a displayed dict read at once -/
namespace Pw
open PySem PySem.Spec PyProof.Rows L2 Xp
abbrev LT := Ep × Int × Int × Int
def cLT (K : PySem.W.Frag) : Cod LT := cMap (cTup K (aCons (cTr K) (aCons cInt (aCons cInt (aCons cInt aNil))))) fun p => (p.1, p.2.1, p.2.2.1, p.2.2.2, ())
section
variable {K : PySem.W.Frag} {Γ : Gam} {ta tb tc td te : TE} {α β γ ρ : Type} {c : Cod α} {d : α} {R : RR ρ} {P : Pst ρ} {tz : TS} {i j l m : Nat}
theorem lt_un {F : Hp} {v : V} {p : LT} (h : (cLT K).rep F v p) : ∃ a x, v = .ref a ∧ SqT K F a [x, .int p.2.1, .int p.2.2.1, .int p.2.2.2] ∧ trRep K F x p.1 := by
  obtain ⟨a, vs, rfl, hs, x, _, rfl, hx, y, _, rfl, hy, z, _, rfl, hz, u, _, rfl, hu, h⟩ := h
  cases (show _ = [] from h)
  cases (show y = .int _ from hy); cases (show z = .int _ from hz); cases (show u = .int _ from hu)
  exact ⟨a, x, rfl, hs, hx⟩
theorem lt_mk {F : Hp} {a : Addr} {x : V} {p : LT} (hs : SqT K F a [x, .int p.2.1, .int p.2.2.1, .int p.2.2.2]) (hx : trRep K F x p.1) : (cLT K).rep F (.ref a) p :=
  ⟨a, _, rfl, hs, x, _, rfl, hx, _, _, rfl, rfl, _, _, rfl, rfl, _, _, rfl, rfl, rfl⟩
theorem ev_q0 {p : LT} (h : Ev Γ ta (cLT K) p) : Ev Γ (tOp (rIxT K) ta (tC (.int 0))) (cTr K) p.1 :=
  ev_mono_op h ev_int fun F H u v e r1 r2 Q q => by
    obtain ⟨a, x, rfl, hs, hx⟩ := lt_un r1
    cases r2
    exact ⟨a, _, 0, x, rfl, rfl, ex_t e hs, rfl, q _ F H (Ext.refl e) hx⟩
theorem ev_q1 {p : LT} (h : Ev Γ ta (cLT K) p) : Ev Γ (tOp (rIxT K) ta (tC (.int 1))) cInt p.2.1 :=
  ev_mono_op h ev_int fun F H u v e r1 r2 Q q => by
    obtain ⟨a, x, rfl, hs, hx⟩ := lt_un r1
    cases r2
    exact ⟨a, _, 1, _, rfl, rfl, ex_t e hs, rfl, q _ F H (Ext.refl e) rfl⟩
theorem ev_q2 {p : LT} (h : Ev Γ ta (cLT K) p) : Ev Γ (tOp (rIxT K) ta (tC (.int 2))) cInt p.2.2.1 :=
  ev_mono_op h ev_int fun F H u v e r1 r2 Q q => by
    obtain ⟨a, x, rfl, hs, hx⟩ := lt_un r1
    cases r2
    exact ⟨a, _, 2, _, rfl, rfl, ex_t e hs, rfl, q _ F H (Ext.refl e) rfl⟩
theorem ev_q3 {p : LT} (h : Ev Γ ta (cLT K) p) : Ev Γ (tOp (rIxT K) ta (tC (.int 3))) cInt p.2.2.2 :=
  ev_mono_op h ev_int fun F H u v e r1 r2 Q q => by
    obtain ⟨a, x, rfl, hs, hx⟩ := lt_un r1
    cases r2
    exact ⟨a, _, 3, _, rfl, rfl, ex_t e hs, rfl, q _ F H (Ext.refl e) rfl⟩
theorem ev_mkQ {e : Ep} {x y z : Int} (h1 : Ev Γ ta (cTr K) e) (h2 : Ev Γ tb cInt x) (h3 : Ev Γ tc cInt y) (h4 : Ev Γ td cInt z) : Ev Γ (tTup (tCons ta (tCons tb (tCons tc (tCons td tNil))))) (cLT K) (e, x, y, z) := fun F H σ S Q q =>
  ev_tup (K := K) (ea_cons h1 (ea_cons h2 (ea_cons h3 (ea_cons h4 ea_nil)))) 4 (fun _ _ h => by
    obtain ⟨_, _, rfl, _, _, _, rfl, _, _, _, rfl, _, _, _, rfl, _, h⟩ := h; cases (show _ = [] from h); rfl) (by decide) F H σ S Q q
/-- a, b, c, d = a tuple of four -/
theorem sw_un4 {p : LT} (h : Ev Γ te (cLT K) p) (k : P.nx ((((Γ.set i (.val (cTr K) p.1)).set j (.val cInt p.2.1)).set l (.val cInt p.2.2.1)).set m (.val cInt p.2.2.2))) :
    SW R Γ (tAsg te (gTup K 4 (gCons (gName i) (gCons (gName j) (gCons (gName l) (gCons (gName m) gNil)))))) P := fun F0 H0 F H σ D S o =>
  h F H σ S.sl _ fun v F1 H1 e1 r1 => by
    obtain ⟨a, x, rfl, hs, hx⟩ := lt_un r1
    exact ⟨a, _, rfl, ex_t e1.i hs, rfl, x, _, rfl, _, _, rfl, _, _, rfl, _, _, rfl, rfl, o.nx F1 H1 _ _ (((((S.grow e1).setV (c := cTr K) (d := p.1) hx).setV (c := cInt) (d := p.2.1) rfl).setV (c := cInt) (d := p.2.2.1) rfl).setV (c := cInt) (d := p.2.2.2) rfl) k⟩
theorem q_un4 {p : LT} (h : Ev Γ te (cLT K) p) (k : SW R ((((Γ.set i (.val (cTr K) p.1)).set j (.val cInt p.2.1)).set l (.val cInt p.2.2.1)).set m (.val cInt p.2.2.2)) tz P) :
    SW R Γ (tSeq (tAsg te (gTup K 4 (gCons (gName i) (gCons (gName j) (gCons (gName l) (gCons (gName m) gNil)))))) tz) P := sw_seq (sw_un4 h k)
/-- (t,) + q[1:] -/
theorem ev_catQ {e : Ep} {p : LT} (h1 : Ev Γ ta (cTr K) e) (h2 : Ev Γ tb (cLT K) p) : Ev Γ (tOp (rCatT K) (tTup (tCons ta tNil)) (tSl (rSlT K) tb (tPart (tC (.int 1))) tNoPart)) (cLT K) (e, p.2) := fun F H σ S Q q =>
  h1 F H σ S _ fun v F1 H1 e1 r1 => ⟨sz_of (by simp), fun t ht => by
    have x1 : Ext F1 H1 F1 (upd H1 t (.tup [v])) := Ext.aside e1.i ht
    refine h2 F1 _ σ ((S.grow e1).grow x1) _ fun w F2 H2 e2 r2 => ⟨1, rfl, ?_⟩
    obtain ⟨a, x, rfl, hs, hx⟩ := lt_un r2
    have ht2 : H2 t = some (.tup [v]) := e2.h t _ upd_same
    refine ⟨a, _, rfl, ex_t e2.i hs, ?_⟩
    refine ⟨by show ¬ (HT.sIx 4 0 (some 1) = 0 ∧ HT.sIx 4 4 none = 4); decide, fun l hl => ?_⟩
    have hc : cutV [x, .int p.2.1, .int p.2.2.1, .int p.2.2.2] (some 1) none = [.int p.2.1, .int p.2.2.1, .int p.2.2.2] := by
      show List.take (HT.sIx 4 4 none - HT.sIx 4 0 (some 1)) (List.drop (HT.sIx 4 0 (some 1)) [x, V.int p.2.1, V.int p.2.2.1, V.int p.2.2.2]) = _
      rw [show HT.sIx 4 0 (some 1) = 1 from by decide, show HT.sIx 4 4 none = 4 from by decide]; rfl
    rw [hc]
    have x2 : Ext F2 H2 F2 (upd H2 l (.tup [.int p.2.1, .int p.2.2.1, .int p.2.2.2])) := Ext.aside e2.i hl
    refine ⟨t, l, [v], [.int p.2.1, .int p.2.2.1, .int p.2.2.2], rfl, rfl, .inl (.inl (Ex.new hl _ _ ht2)), .inl (.inl upd_same), by simp, sz_of (by simp), (fun z => nomatch z), fun _ n hn => ?_⟩
    have xx := (((e1.trans x1).trans e2).trans x2).trans (Ext.new (o := .tup [v, .int p.2.1, .int p.2.2.1, .int p.2.2.2]) x2.i hn)
    refine q _ _ _ xx (lt_mk (p := (e, p.2)) (.inl (.inl upd_same)) ?_)
    exact (cTr K).mono ((e2.f).trans (Ex.new (x2.i.free hn))) r1⟩
/-- {"less": 2, "^": 3, "name": 4, "number": 4}[tag] -/
abbrev bindsKV : List (Key × V) := [(.inr "less", .int 2), (.inr "^", .int 3), (.inr "name", .int 4), (.inr "number", .int 4)]
theorem binds_merge : mergeK [] bindsKV = bindsKV := by rfl
theorem ev_bindsD {e : Ep} (he : ∀ s l r, e ≠ .two s l r) (h : Ev Γ te cT (tag e)) : Ev Γ (tDGet (tDisp [(tC (.str "less"), tC (.int 2)), (tC (.str "^"), tC (.int 3)), (tC (.str "name"), tC (.int 4)), (tC (.str "number"), tC (.int 4))]) te) cInt (binds e : Int) := fun F H σ S Q q =>
  fun p hp => ⟨upd_same, bindsKV, rfl, by decide, by
    rw [binds_merge, upd_upd]
    have x1 : Ext F H F (upd H p (.dK bindsKV)) := Ext.aside S.ex hp
    refine h F _ σ (S.grow x1) _ fun v F1 H1 e1 r1 => ⟨p, .int (binds e : Int), rfl, ?_, q _ F1 H1 (x1.trans e1) rfl⟩
    refine .inl ⟨bindsKV, .inr (Tx (tag e)), .inl (e1.h p _ upd_same), r1, ?_⟩
    cases e with
    | two s l r => exact absurd rfl (he s l r)
    | num n => exact (by decide +kernel : some (V.int 4) = valV bindsKV (.inr (Tx tagNum)))
    | name n => exact (by decide +kernel : some (V.int 4) = valV bindsKV (.inr (Tx tagName)))
    | pow b n => exact (by decide +kernel : some (V.int 3) = valV bindsKV (.inr (Tx [94])))
    | less n => exact (by decide +kernel : some (V.int 2) = valV bindsKV (.inr (Tx tagLess)))⟩
end
end Pw

/-! sorted(set(xs)): xs a list of texts -/
namespace Pw
open PySem PySem.Spec PyProof.Rows L2
/-! ### texts in order -/
theorem ltc_irr : ∀ a : List Nat, ltCps a a = false
  | [] => rfl
  | x :: a => by simp [ltCps, ltc_irr a]
theorem ltc_tot : ∀ {a b : List Nat}, a ≠ b → ltCps a b = false → ltCps b a = true
  | [], [], h, _ => absurd rfl h
  | [], _ :: _, _, h => by simp [ltCps] at h
  | _ :: _, [], _, _ => by simp [ltCps]
  | x :: a, y :: b, h, g => by
    simp only [ltCps, Bool.or_eq_false_iff, decide_eq_false_iff_not, Bool.and_eq_false_iff, beq_eq_false_iff_ne] at g
    simp only [ltCps, Bool.or_eq_true, decide_eq_true_eq, Bool.and_eq_true, beq_iff_eq]
    by_cases e : x = y
    · subst e
      right; refine ⟨rfl, ltc_tot (fun z => h (by rw [z])) ?_⟩
      rcases g.2 with g | g
      · exact absurd rfl g
      · exact g
    · left; have := g.1; omega
theorem ltc_trans : ∀ {a b c : List Nat}, ltCps a b = true → ltCps b c = true → ltCps a c = true
  | _, [], [], h, g => by simp [ltCps] at g
  | [], _ :: _, _ :: _, _, _ => by simp [ltCps]
  | [], [], _ :: _, h, g => by simp [ltCps] at h
  | _ :: _, [], _ :: _, h, g => by simp [ltCps] at h
  | _, _ :: _, [], h, g => by simp [ltCps] at g
  | x :: a, y :: b, z :: c, h, g => by
    simp only [ltCps, Bool.or_eq_true, decide_eq_true_eq, Bool.and_eq_true, beq_iff_eq] at h g ⊢
    rcases h with h | ⟨h, h'⟩ <;> rcases g with g | ⟨g, g'⟩
    · left; omega
    · left; omega
    · left; omega
    · right; exact ⟨by omega, ltc_trans h' g'⟩
abbrev LtS (a b : Str) : Prop := ltCps a.cps.toList b.cps.toList = true
theorem str_ne {a b : Str} (h : a ≠ b) : a.cps.toList ≠ b.cps.toList := fun e => h (by cases a; cases b; simp only at e; exact congrArg Str.mk (Array.toList_inj.mp e))
theorem strict_of {p : Str} : ∀ {l : List Str}, risingS p l = true → (p :: l).Nodup → (p :: l).Pairwise LtS
  | [], _, _ => List.pairwise_singleton ..
  | x :: r, h, d => by
    have h' : (!ltCps x.cps.toList p.cps.toList && risingS x r) = true := h
    rw [Bool.and_eq_true] at h'
    obtain ⟨d1, d2⟩ := List.nodup_cons.mp d
    have ih := strict_of (p := x) (l := r) h'.2 d2
    have hx : LtS p x := ltc_tot (str_ne fun e => d1 (by rw [← e]; exact List.mem_cons_self)) (by simpa using h'.1)
    refine List.pairwise_cons.mpr ⟨fun y hy => ?_, ih⟩
    rcases List.mem_cons.mp hy with rfl | hy
    · exact hx
    · exact ltc_trans hx (List.rel_of_pairwise_cons ih hy)
theorem strictS {l : List Str} (h : sortedS l = true) (d : l.Nodup) : l.Pairwise LtS := by
  cases l with
  | nil => exact List.Pairwise.nil
  | cons p l => exact strict_of h d
theorem strict_eq : ∀ {xs ys : List Str}, xs.Pairwise LtS → ys.Pairwise LtS → (∀ y, y ∈ xs ↔ y ∈ ys) → xs = ys
  | [], [], _, _, _ => rfl
  | [], y :: ys, _, _, h => absurd ((h y).2 List.mem_cons_self) (by simp)
  | x :: xs, [], _, _, h => absurd ((h x).1 List.mem_cons_self) (by simp)
  | x :: xs, y :: ys, h1, h2, h => by
    have e : x = y := by
      rcases List.mem_cons.mp ((h x).1 List.mem_cons_self) with e | e
      · exact e
      · rcases List.mem_cons.mp ((h y).2 List.mem_cons_self) with e' | e'
        · exact e'.symm
        · have a : LtS y x := List.rel_of_pairwise_cons h2 e
          have b : LtS x y := List.rel_of_pairwise_cons h1 e'
          have := ltc_trans a b
          rw [ltc_irr] at this; cases this
    subst e
    have n1 : x ∉ xs := fun m => by have : LtS x x := List.rel_of_pairwise_cons h1 m; rw [LtS, ltc_irr] at this; cases this
    have n2 : x ∉ ys := fun m => by have : LtS x x := List.rel_of_pairwise_cons h2 m; rw [LtS, ltc_irr] at this; cases this
    rw [strict_eq (List.pairwise_cons.mp h1).2 (List.pairwise_cons.mp h2).2 fun y => ?_]
    constructor
    · intro m
      rcases List.mem_cons.mp ((h y).1 (List.mem_cons_of_mem _ m)) with e | e
      · exact absurd (e ▸ m) n1
      · exact e
    · intro m
      rcases List.mem_cons.mp ((h y).2 (List.mem_cons_of_mem _ m)) with e | e
      · exact absurd (e ▸ m) n2
      · exact e
theorem strict_nodup {l : List Str} (h : l.Pairwise LtS) : l.Nodup := h.imp fun {a b} r e => by subst e; rw [LtS, ltc_irr] at r; cases r

/-! ### a set of texts -/
def keyS (e : Int × Value) : Str := match e.2 with | .str k _ => k | _ => Str.empty
def GoodS (w : World) (e : Int × Value) : Prop := ∃ k tk, e.2 = Value.str k tk ∧ e.1 = hashStr w k
def SetS (w : World) (h : Heap) (a : Addr) (S : List Str) : Prop :=
  ∃ o es ep t, h.get? a = some o ∧ o.ExactSet ∧ o.data = .set es ep t ∧ (∀ e ∈ es.toList, GoodS w e) ∧ (es.toList.map keyS).Nodup ∧ (∀ k, k ∈ S ↔ k ∈ es.toList.map keyS) ∧
    es.size < scanBound ∧ t.fits es.size = true ∧ es.size ≤ S.length ∧ Ris t.place.toList ∧ (w.params.followText "set-order" = true ∨ t.led = true)
section
variable {P : Program} {w : World} {A : Around} {E : Value → Shared → Prop} {s : Shared} {h h' : Heap} {a : Addr} {S : List Str} {n : Nat}
theorem SetS.at (R : SetS w h a S) (k : ∀ o, h.get? a = some o → h'.get? a = some o) : SetS w h' a S := by
  obtain ⟨o, es, ep, t, ho, r⟩ := R
  exact ⟨o, es, ep, t, k o ho, r⟩
theorem goodS_elems {l : List (Int × Value)} (g : ∀ e ∈ l, GoodS w e) : ElemsOf (PySem.strKind P w) l := fun e he => by
  obtain ⟨k, tk, h1, h2⟩ := g e he
  exact ⟨⟨k, by rw [h1]; exact strKind_is P w k tk, h2⟩, by rw [h1] <;> rfl⟩
theorem goodS_is {e : Int × Value} (g : GoodS w e) (k : Str) : (PySem.strKind P w).is k e.2 = true ↔ keyS e = k := by
  obtain ⟨k0, tk, h1, _⟩ := g
  unfold keyS
  rw [h1]
  show (Value.isStrOf k (.str k0 tk) = true) ↔ k0 = k
  simp [Value.isStrOf]
theorem goodS_mem {l : List (Int × Value)} (g : ∀ e ∈ l, GoodS w e) (k : Str) : k ∈ l.map keyS ↔ ∃ e ∈ l, (PySem.strKind P w).is k e.2 = true := by
  rw [List.mem_map]
  constructor
  · rintro ⟨e, he, q⟩
    exact ⟨e, he, (goodS_is (g e he) k).2 q⟩
  · rintro ⟨e, he, q⟩
    exact ⟨e, he, (goodS_is (g e he) k).1 q⟩
theorem setS_add_tail {g : Bool → Sem Unit} (hg : ∀ (b : Bool) (s₁ : Shared) (Q' : Unit → Shared → Prop), Q' () s₁ → wpAny (model P w) A (g b) Q' E s₁)
    {o : Obj} {es : Array (Int × Value)} {ep : Nat} {t : SetTable} (ho : s.heap.get? a = some o) (hex : o.ExactSet) (hd : o.data = .set es ep t)
    {es1 : Array (Int × Value)} {t2 : SetTable} {S' : List Str} (g1 : ∀ e ∈ es1.toList, GoodS w e) (nd1 : (es1.toList.map keyS).Nodup) (m1 : ∀ k, k ∈ S' ↔ k ∈ es1.toList.map keyS)
    (hb1 : es1.size < scanBound) (hz1 : es1.size ≤ S'.length) (hf2 : t2.fits es1.size = true) (hr : Ris t2.place.toList) (hl : w.params.followText "set-order" = true ∨ t2.led = true) {wasDummy : Bool} {R : Option Bool → Shared → Prop}
    (hR : ∀ h', Heap.SameBut a s.heap h' → SetS w h' a S' → R (some true) { s with heap := h' }) :
    wpAny (model P w) A (do
        storeSet a es1 t2
        if (!wasDummy && t2.tooFull) = true then do
            g (relayAll t2 es1 (SetTable.grown es1.size)).2.2
            storeSet a (relayAll t2 es1 (SetTable.grown es1.size)).1 (relayAll t2 es1 (SetTable.grown es1.size)).2.1
            pure (some true)
          else pure (some true)) R E s := by
  refine wpAny_bind (wpAny_storeSet_of ho hd ?_ (fits_of_scanBound hb1))
  have ho1 := store_at (es' := es1) (t' := t2) ho hd
  have sb1 := Heap.SameBut.update s.heap a (Obj.putSet es1 t2)
  split
  · have pm := relayAll_perm t2 es1 (SetTable.grown es1.size)
    have hf3 := relayAll_fits t2 es1 (SetTable.grown es1.size)
    have hr3 := relayAll_ris t2 es1 (SetTable.grown es1.size)
    have hl3 := relayAll_led t2 es1 (SetTable.grown es1.size)
    generalize relayAll t2 es1 (SetTable.grown es1.size) = Z at pm hf3 hr3 hl3 ⊢
    obtain ⟨es2, t3, gave⟩ := Z
    dsimp only at pm hf3 hr3 hl3 ⊢
    have hsz : es2.size = es1.size := by rw [← Array.length_toList, pm.length_eq, Array.length_toList]
    have hb2 : es2.size < scanBound := by rw [hsz]; exact hb1
    refine wpAny_bind (hg _ _ _ ?_)
    refine wpAny_bind (wpAny_storeSet_of ho1 rfl ?_ (fits_of_scanBound hb2))
    have ho2 := store_at (es' := es2) (t' := t3) ho1 rfl
    refine wpAny_pure (hR _ (sb1.trans (Heap.SameBut.update _ a _)) ?_)
    exact ⟨_, es2, _, t3, ho2, hex, rfl, fun e he => g1 e (pm.mem_iff.mp he), (pm.map keyS).nodup_iff.mpr nd1, fun k => (m1 k).trans (pm.map keyS).mem_iff.symm, hb2, hf3, by rw [hsz]; exact hz1, hr3,
      hl.imp id fun z => by rw [hl3]; exact z⟩
  · exact wpAny_pure (hR _ sb1 ⟨_, es1, _, t2, ho1, hex, rfl, g1, nd1, m1, hb1, hf2, hz1, hr, hl⟩)
theorem setS_add_hashed {k : Str} {tk : Tok} {Q : Bool → Shared → Prop} (R : SetS w s.heap a S) (room : S.length + 1 < scanBound)
    (hQ : ∀ b h', Heap.SameBut a s.heap h' → SetS w h' a (k :: S) → Q b { s with heap := h' }) :
    wpAny (model P w) A (setAddHashed a (.str k tk) ((PySem.strKind P w).hash k)) Q E s := by
  obtain ⟨o, es, ep, t, ho, hex, hd, g, nd, hm, hb, hf, hn, hr, hl⟩ := R
  have hkey : (PySem.strKind P w).is k (.str k tk) = true := strKind_is P w k tk
  have hsc : (Value.str k tk).scannable = true := rfl
  have hel : ElemsOf (PySem.strKind P w) es.toList := goodS_elems g
  unfold setAddHashed setAddHashedIn
  refine wpAny_holding (wpAny_bind (wpAny_setState_of ho hd hf ?_))
  dsimp only
  rw [byScan_of hsc hb hel]
  simp only [↓reduceIte]
  unfold setAddByScan
  refine wpAny_bind ?_
  refine wpAny_bind (wpAny_rule ?_)
  refine wpAny_bind (wpAny_setScan_of hkey ho hd hf hel ?_)
  cases hfi : List.findIdx? (fun e => (PySem.strKind P w).is k e.2) es.toList with
  | some j =>
    dsimp only
    obtain ⟨hj, pj, _⟩ := List.findIdx?_eq_some_iff_getElem.mp hfi
    have hSk : k ∈ S := (hm k).2 ((goodS_mem (P := P) (w := w) g k).2 ⟨es.toList[j], List.getElem_mem hj, pj⟩)
    refine wpAny_pure (wpAny_pure ?_)
    exact hQ _ s.heap (Heap.SameBut.refl a s.heap) ⟨o, es, ep, t, ho, hex, hd, g, nd, fun i => by
      rw [List.mem_cons, ← hm i]
      exact ⟨fun z => z.elim (fun e => e ▸ hSk) id, .inr⟩, hb, hf, by rw [List.length_cons]; omega, hr, hl⟩
  | none =>
    dsimp only
    have hnk : k ∉ es.toList.map keyS := fun z => by
      obtain ⟨e, he, q⟩ := (goodS_mem (P := P) (w := w) g k).1 z
      have c := List.findIdx?_eq_none_iff.mp hfi e he
      rw [q] at c
      cases c
    have hgw : ∀ (b : Bool) {s₁ : Shared} {Q' : Unit → Shared → Prop}, Q' () s₁ → wpAny (model P w) A (match b with | true => rule "set.scan.the-table-gave-way" | false => pure ()) Q' E s₁ :=
      fun b s₁ Q' q => by cases b <;> first | exact wpAny_pure q | exact wpAny_rule q
    have pm := layNew_perm t es ((PySem.strKind P w).hash k) (.str k tk)
    have hf1 := layNew_fits t es ((PySem.strKind P w).hash k) (.str k tk)
    have hr1 := layNew_ris t es ((PySem.strKind P w).hash k) (.str k tk) hr
    have hl1 := layNew_led t es ((PySem.strKind P w).hash k) (.str k tk)
    generalize layNew t es ((PySem.strKind P w).hash k) (.str k tk) = Z at pm hf1 hr1 hl1 ⊢
    obtain ⟨es1, t1, wasDummy, gave⟩ := Z
    dsimp only at pm hf1 hr1 hl1 ⊢
    rw [Array.toList_push] at pm
    have pc : es1.toList.Perm (((PySem.strKind P w).hash k, Value.str k tk) :: es.toList) := pm.trans (List.perm_append_singleton _ _)
    have pk : (es1.toList.map keyS).Perm (k :: es.toList.map keyS) := pc.map keyS
    have g1 : ∀ e ∈ es1.toList, GoodS w e := fun e he => by
      rcases List.mem_cons.mp (pc.mem_iff.mp he) with z | z
      · rw [z]; exact ⟨k, tk, rfl, rfl⟩
      · exact g e z
    have nd1 : (es1.toList.map keyS).Nodup := pk.nodup_iff.mpr (List.nodup_cons.mpr ⟨hnk, nd⟩)
    have m1 : ∀ i, i ∈ k :: S ↔ i ∈ es1.toList.map keyS := fun i => by
      rw [pk.mem_iff, List.mem_cons, List.mem_cons, hm i]
    have hsz : es1.size = es.size + 1 := by rw [← Array.length_toList, pc.length_eq, List.length_cons, Array.length_toList]
    have hb1 : es1.size < scanBound := by rw [hsz]; omega
    have hz1 : es1.size ≤ (k :: S).length := by rw [hsz, List.length_cons]; omega
    have hled : w.params.followText "set-order" = true ∨ t1.led = true := hl.imp id fun z => by rw [hl1]; exact z
    refine wpAny_bind (hgw _ ?_)
    split
    · refine wpAny_bind ?_
      rw [hashByValue_scannable 8 hsc]
      refine wpAny_pure ?_
      refine setS_add_tail (S' := k :: S) ?_ ho hex hd g1 nd1 m1 hb1 hz1 ?_ ?_ ?_ ?_
      · intro b s₁ Q' q; cases b <;> first | exact wpAny_pure q | exact wpAny_rule q
      · first | (split <;> first | exact hf1 | exact SetTable.fits_plain_off hf1) | exact hf1
      · first | (split <;> exact hr1) | exact hr1
      · first | (split <;> exact hled) | exact hled
      · intro h' sb r; dsimp only; exact wpAny_pure (hQ _ h' sb r)
    · refine wpAny_bind (wpAny_pure ?_)
      simp only [↓reduceIte]
      refine setS_add_tail (S' := k :: S) ?_ ho hex hd g1 nd1 m1 hb1 hz1 hf1 hr1 hled ?_
      · intro b s₁ Q' q; cases b <;> first | exact wpAny_pure q | exact wpAny_rule q
      · intro h' sb r; dsimp only; exact wpAny_pure (hQ _ h' sb r)
theorem setS_fresh {h : Heap} (w : World) : SetS w (h.push { cls := .type "set", dict := none, data := .set #[] 0 (.fresh 0 0 (!w.params.followText "set-order")) }) h.objs.size [] :=
  ⟨_, #[], 0, _, Heap.get?_push_size _ rfl, ⟨rfl, rfl, rfl⟩, rfl, (fun e he => by simp at he), (by simp), (fun k => by simp), (by decide), (by rfl), (by simp), List.Pairwise.nil, by
    show _ ∨ (!w.params.followText "set-order") = true
    cases w.params.followText "set-order"
    · exact .inr rfl
    · exact .inl rfl⟩
end

section
variable {prog : Program} {w : World} {A : Around} {R : Result → Shared → Prop} {I : Addr} {fp wr : List Addr} {G : Array GenState → Array GenState → Prop} {n : Nat} {P : Nat → Value → Prop} {St : Nat → Shared → Prop}
theorem loopSetS (W : WalksS prog w A.in1 I fp wr G n P St) (S : Addr) (hSf : S ∉ fp) (xs : List Str) (hsz : xs.length = n) (hn1 : n + 1 < scanBound)
    (hval : ∀ i v, P i v → ∃ t, v = .str (xs.getD i Str.empty) t) :
    ∀ (k i : Nat) (s : Shared), n - i = k → i ≤ n → St i s →
      SetS w s.heap S (xs.take i).reverse →
      (∀ s', Moved (S :: wr) G s s' → SetS w s'.heap S xs.reverse → R (.ok (.ret .none)) s') →
      codeAny (model prog w) A (.builtin "set.update.loop" ⟨[.ref S, .ref I], []⟩) R s := by
  have hSw : S ∉ wr := fun h => hSf (W.sub _ h)
  have hsub : ∀ b ∈ wr, b ∈ S :: wr := fun b hb => List.mem_cons_of_mem _ hb
  intro k
  induction k with
  | zero =>
    intro i s hk hi hst hS hR
    have hin : i = n := by omega
    subst hin
    refine codeAny_builtin PyProof.Rows.F.entry_set_update_loop ?_
    rw [Around.under_plainId PyProof.Rows.F.plain_set_update_loop _]
    show wpAny _ A.in1 (pyNext (.ref I) >>= _) _ _ s
    refine wpAny_bind (W.done s _ _ hst fun s' hm => ?_)
    show wpAny _ A.in1 (ret Value.none) _ _ s'
    rw [← hsz, List.take_length] at hS
    exact wpAny_pure (hR s' (hm.mono hsub) (hS.at fun o ho => hm.heap S _ hSw ho))
  | succ k ih =>
    intro i s hk hi hst hS hR
    have hlt : i < n := by omega
    refine codeAny_builtin PyProof.Rows.F.entry_set_update_loop ?_
    rw [Around.under_plainId PyProof.Rows.F.plain_set_update_loop _]
    show wpAny _ A.in1 (pyNext (.ref I) >>= _) _ _ s
    refine wpAny_bind (W.item i s _ _ hlt hst fun v s' hP hst' hm => ?_)
    obtain ⟨t, rfl⟩ := hval i v hP
    have hS' : SetS w s'.heap S (xs.take i).reverse := hS.at fun o ho => hm.heap S _ hSw ho
    show wpAny _ A.in1 (holding [Value.str (xs.getD i Str.empty) t] (setAdd S (.str (xs.getD i Str.empty) t)) >>= _) _ _ s'
    refine wpAny_bind (wpAny_holding ?_)
    unfold setAdd
    refine wpAny_holding ?_
    refine wpAny_bind ((PySem.strKind prog w).pyHash (k := xs.getD i Str.empty) (strKind_is _ _ _ _) ?_)
    refine setS_add_hashed (s := { s' with toks := s'.toks + 1 }) hS' (by rw [List.length_reverse, List.length_take]; omega) fun b h' hsb hS2 => ?_
    have hSi : SetS w h' S (xs.take (i + 1)).reverse := by
      have e : (xs.take (i + 1)).reverse = xs.getD i Str.empty :: (xs.take i).reverse := by
        rw [List.take_succ_eq_append_getElem (by omega), List.reverse_append]
        simp [List.getD_eq_getElem?_getD, hsz ▸ hlt, List.getElem?_eq_getElem (show i < xs.length by omega)]
      rw [e]; exact hS2
    refine wpAny_pure ⟨plainId_quiet PyProof.Rows.F.plain_set_update_loop _, ih (i + 1) _ (by omega) hlt (W.frame _ s' _ _ hst' (Nat.le_succ _) fun b hb o e => ?_) hSi fun s'' hm'' hS'' => ?_⟩
    · rw [hsb.2 b (fun h : b = S => hSf (by rw [← h]; exact hb))]; exact e
    · refine hR s'' (Moved.trans W.gtrans ((hm.mono hsub).then_heap (Nat.le_succ _) fun b o hb e => ?_) hm'') hS''
      rw [hsb.2 b (fun h : b = S => hb (by rw [h]; exact List.mem_cons_self))]; exact e
end
section
variable {prog : Program} {w : World} {A : Around} {E : Value → Shared → Prop} {s : Shared}
theorem code_setL_1 (a : Value) {Q₁ : Value → Shared → Prop}
    (h : Q₁ (.ref s.heap.objs.size) { s with heap := s.heap.push { cls := .type "set", dict := none, data := .set #[] 0 (.fresh 0 0 (!w.params.followText "set-order")) } }) :
    codeAny (model prog w) A (.call (.builtin "set.__new__") ⟨[.type "set", a], []⟩) (wants Q₁ E) s := by
  refine codeAny_of_tree ?_
  show wpAny _ A.in1 (do checkBuiltinCall "set.__new__" ⟨[.type "set", a], []⟩; again (.builtin "set.__new__" ⟨[.type "set", a], []⟩)) _ _ s
  refine wpAny_bind (wpAny_of_eq (PySem.F.newCall_set_1 a) (wpAny_pure ⟨plainId_quiet PySem.F.plain_set_new _, codeAny_builtin PySem.F.entry_set_new ?_⟩))
  rw [Around.under_plainId PySem.F.plain_set_new _]
  unfold Builtin.«set.__new__» Builtin.Frozenset.newClass
  have hsub := sub_set_self
  obtain ⟨hp, g, d, tk, os⟩ := s
  dsimp only
  wp_walk
  refine wpAny_askSetting (wpAny_pure ?_)
  dsimp only
  simp only [newObj]
  refine wpAny_bind (wpAny_alloc (wpAny_pure ?_))
  exact wpAny_pure h
set_option maxHeartbeats 3200000 in
theorem call_set_listT {l : Addr} {items : Array Value} {xs : List Str} {Q : Value → Shared → Prop}
    (hh : A.handled = none) (hl : s.heap.IsList l items) (hi : PyProof.Rows.StrsAre items.toList xs) (hn1 : xs.length + 1 < scanBound)
    (h : ∀ (h' : Heap) (tk : Nat), SetS w h' s.heap.objs.size xs.reverse →
      (∀ b o, b < s.heap.objs.size → s.heap.get? b = some o → h'.get? b = some o) → Q (.ref s.heap.objs.size) { s with heap := h', toks := tk }) :
    wpAny (model prog w) A (call (.type "set") [.ref l]) Q E s := by
  obtain ⟨c, tl, hmro⟩ := PySem.F.called_set.mro
  have hmade := PySem.F.called_set.made
  have hsub := PySem.F.called_set.sub
  refine wpAny_call (codeAny_of_tree ?_)
  show wpAny _ _ (callAny (.type "set") _) _ _ _
  refine wpAny_pure ⟨Code.quiet_builtin _ (by decide +kernel), codeAny_builtin PySem.F.entry_type_call ?_⟩
  rw [Around.under_plain (weight_type_call_type "set" [.ref l] []) rfl]
  have h1 := PySem.F.called_set.notType
  have h2 := PySem.F.called_set.canCreate
  have hct := PySem.F.typeCall_set_1 (.ref l)
  repeat (any_goals (first | assumption | wp_step))
  refine codeAny_mono (code_setL_1 (.ref l) (E := E) (Q₁ := fun obj s₁ => obj = .ref s.heap.objs.size ∧ s₁ = { s with heap := s.heap.push { cls := .type "set", dict := none, data := .set #[] 0 (.fresh 0 0 (!w.params.followText "set-order")) } }) ⟨rfl, rfl⟩) fun r s₁ hr => ?_
  cases r with
  | error e => exact hr
  | ok fl =>
    cases fl with
    | ret obj =>
      obtain ⟨rfl, rfl⟩ := hr
      have hfresh := setS_fresh (h := s.heap) w
      generalize (!w.params.followText "set-order") = led at hfresh ⊢
      have hS : (s.heap.push { cls := .type "set", dict := none, data := .set #[] 0 (.fresh 0 0 led) }).get? s.heap.objs.size = some { cls := .type "set", dict := none, data := .set #[] 0 (.fresh 0 0 led) } := Heap.get?_push_size _ rfl
      have hT : Shared.TypeIs { s with heap := s.heap.push { cls := .type "set", dict := none, data := .set #[] 0 (.fresh 0 0 led) } } (.ref s.heap.objs.size) "set" := ⟨_, hS, rfl⟩
      have hli := PySem.F.called_set.init.lookup
      have hbi := PySem.F.called_set.init.bind (.ref s.heap.objs.size)
      repeat (any_goals (first | assumption | wp_step))
      refine codeAny_mono (codeAny_call_builtin (R := wants (fun r s₂ => r = .none ∧ ∃ h' tk, s₂ = { s with heap := h', toks := tk } ∧
          SetS w h' s.heap.objs.size xs.reverse ∧
          (∀ b o, b < s.heap.objs.size → s.heap.get? b = some o → h'.get? b = some o)) E) PySem.F.called_set.init.plain PySem.F.entry_set_init (check_set_init_1 hT ?_)) fun r₂ s₂ hr₂ => ?_
      · obtain ⟨ol, hol, hcl, nl, hdl⟩ := hl
        obtain ⟨ocls, odict, odata, oslots⟩ := ol
        simp only at hcl hdl
        subst hcl; subst hdl
        have hol' : (s.heap.push { cls := .type "set", dict := none, data := .set #[] 0 (.fresh 0 0 led) }).get? l = some { cls := .type "list", dict := odict, data := .seq items nl, slots := oslots } := Heap.get?_push_of_some _ hol
        have hsls := PySem.F.sub_list_set
        have hslf := PySem.F.sub_list_frozenset
        have hne : (Value.type "list" == Value.type "dict") = false := by decide
        have hl1 : (s.heap.push { cls := .type "set", dict := none, data := .set #[] 0 (.fresh 0 0 led) }).IsList l items := ⟨_, hol', rfl, nl, rfl⟩
        unfold Builtin.«set.__init__» noKeywords Builtin.Frozenset.updateFrom
        generalize hPI : pyIter = PI
        wp_walk
        subst hPI
        refine wpAny_pyIter_list hl1 ?_
        refine wpAny_bind (wpAny_runValue ?_)
        have hlS : l < s.heap.objs.size := Heap.lt_size hol
        have hh3 : A.in1.in1.in1.handled = none := by simp [hh]
        have hneI : l ≠ (s.heap.push { cls := .type "set", dict := none, data := .set #[] 0 (.fresh 0 0 led) }).objs.size := by
          rw [Heap.size_push]; exact Nat.ne_of_lt (Nat.lt_succ_of_lt hlS)
        have hSf : s.heap.objs.size ∉ [(s.heap.push { cls := .type "set", dict := none, data := .set #[] 0 (.fresh 0 0 led) }).objs.size, l] := by
          rw [Heap.size_push]; simp only [List.mem_cons, List.mem_singleton, List.not_mem_nil, or_false, not_or]
          exact ⟨Nat.ne_of_lt (Nat.lt_succ_self _), Nat.ne_of_gt hlS⟩
        have hsz : xs.length = items.size := by rw [← StrsAre.len_eq hi, Array.length_toList]
        have hval : ∀ (i : Nat) (v : Value), items[i]? = some v → ∃ t, v = .str (xs.getD i Str.empty) t := fun i v hv => SS.strs_at hi i v (by rw [Array.getElem?_toList]; exact hv)
        refine loopSetS ((Walks.list hh3 _ l hneI items).toS) s.heap.objs.size
          hSf xs hsz (by rw [← hsz]; exact hn1) hval (items.size - 0) 0 _ (by omega) (Nat.zero_le _)
          ⟨⟨_, Heap.get?_push_size _ rfl, rfl, rfl⟩, (hl1.push _)⟩ ?hS0 ?hR
        case hS0 => exact hfresh.at fun o ho => Heap.get?_push_of_some _ ho
        case hR =>
          intro s' hm hS'
          obtain ⟨h', g', d', tk', os'⟩ := s'
          have eg : g' = s.gens := hm.gens
          have ed : d' = s.drawn := hm.drawn
          have eo : os' = s.os := hm.os
          subst eg; subst ed; subst eo
          show wpAny _ _ _ _ _ _
          refine wpAny_pure ?_
          show wpAny _ _ (ret Value.none) _ _ _
          refine wpAny_pure ⟨rfl, h', tk', rfl, hS', fun b o hb e => ?_⟩
          have hb1 : b ≠ s.heap.objs.size := Nat.ne_of_lt hb
          have hb2 : b ≠ (s.heap.push { cls := .type "set", dict := none, data := .set #[] 0 (.fresh 0 0 led) }).objs.size := by
            rw [Heap.size_push]; exact Nat.ne_of_lt (Nat.lt_succ_of_lt hb)
          exact hm.heap b o (by simp only [List.mem_cons, List.mem_singleton, List.not_mem_nil, or_false, not_or]; exact ⟨hb1, hb2⟩) (Heap.get?_push_of_some _ (Heap.get?_push_of_some _ e))
      · cases r₂ with
        | error e => exact hr₂
        | ok fl₂ =>
          cases fl₂ with
          | ret r =>
            obtain ⟨rfl, h', tk, rfl, hS', hk'⟩ := hr₂
            repeat (any_goals (first | assumption | wp_step))
            exact h _ _ hS' hk'
          | _ => exact hr₂.elim
    | _ => exact hr.elim
/-! ### sorted -/
theorem strs_of : ∀ (l : List Value), (∀ v ∈ l, ∃ k tk, v = Value.str k tk) → StrsAre l (l.map strOf)
  | [], _ => .nil
  | v :: l, h => by
    obtain ⟨k, tk, rfl⟩ := h v List.mem_cons_self
    exact .cons k tk (strs_of l fun u hu => h u (List.mem_cons_of_mem _ hu))
theorem sorted_setS {a : Addr} {S zs : List Str} {Q : Value → Shared → Prop} (R : SetS w s.heap a S) (hh : A.handled = none) (hzs : zs.Pairwise LtS) (hmem : ∀ k, k ∈ zs ↔ k ∈ S) (h64 : zs.length < 64)
    (hQ : ∀ s' p (out : Array Value) (c : Nat), (∀ b o, s.heap.get? b = some o → s'.heap.get? b = some o) → s'.gens = s.gens → s'.os = s.os → s.heap.objs.size ≤ p →
      s'.heap.get? p = some (seqObj "list" out c) → StrsAre out.toList zs → Q (.ref p) s') :
    wpAny (model prog w) A (call (.builtin "sorted") [.ref a]) Q E s := by
  obtain ⟨o, es, ep, t, ho, hex, hd, g, nd, hm, hb, hf, hn, hr, hl⟩ := R
  refine Calls.call_function_entry kind_sorted plain_sorted entry_sorted (args_sorted1 _) ?_
  unfold Builtin.«sorted»
  refine wpAny_bind (m := checkCount "sorted" 1 1 _) (wpAny_pure ?_)
  refine wpAny_bind (collect_set (A := A.in1) hh ⟨o, ho, hex.1, hd⟩ hf hb hr hl fun s1 vs k1 hz g1 o1 pm => ?_)
  have hvs : ∀ v ∈ vs, ∃ k tk, v = Value.str k tk := fun v hv => by
    obtain ⟨e, he, q⟩ := List.mem_map.mp (pm.mem_iff.mp hv)
    obtain ⟨k, tk, h1, _⟩ := g e he
    exact ⟨k, tk, by rw [← q]; exact h1⟩
  have hS : StrsAre vs (vs.map strOf) := strs_of vs hvs
  have pk : (vs.map strOf).Perm (es.toList.map keyS) := by
    have q := pm.map strOf
    rw [List.map_map] at q
    refine q.trans (List.Perm.of_eq (List.map_congr_left fun e he => ?_))
    obtain ⟨k, tk, h1, _⟩ := g e he
    show strOf e.2 = keyS e
    unfold keyS; rw [h1]; rfl
  have pz : (es.toList.map keyS).Perm zs := (List.perm_ext_iff_of_nodup nd (strict_nodup hzs)).mpr fun k => by rw [← hm k, hmem k]
  have hvl : vs.length < 64 := by
    have := (pk.trans pz).length_eq
    rw [List.length_map] at this; omega
  refine wpAny_bind (wpAny_newList ?_ (by rw [sizeLine_eq]; omega))
  have hoL : (s1.heap.push (seqObj "list" vs.toArray 0)).get? s1.heap.objs.size = some (seqObj "list" vs.toArray 0) := Heap.get?_push_size _ rfl
  refine wpAny_bind (wpAny_holding (wpAny_call_entry slot_list_sort ⟨_, hoL, rfl⟩ entry_list_sort
    (list_sort_treeK strKind_oneLt hoL hS.keysOf (fun v₁ v₂ rest e => keyKind_strs (by rw [← e]; exact hS)) hvl fun st' hp hs => ⟨_, rfl, ?_⟩) (args_list_sort _)))
  obtain ⟨ys, a1, a2, a3⟩ := sorted_out_str hS hp hs
  obtain ⟨c, hc⟩ := sortedHeap_at (vs := vs) (out := (arrOf st').map (·.2)) hoL
  have py : ys.Perm zs := a2.trans (pk.trans pz)
  have ey : ys = zs := strict_eq (strictS a3 (py.nodup_iff.mpr (strict_nodup hzs))) hzs fun y => py.mem_iff
  subst ey
  refine wpAny_pure ⟨_, rfl, hQ _ s1.heap.objs.size _ c (fun b u e => ?_) g1 o1 hz hc a1⟩
  have q := k1 b u e
  have hlt := Heap.lt_size q
  show (sortedHeap (s1.heap.push (seqObj "list" vs.toArray 0)) s1.heap.objs.size vs _).get? b = some u
  rw [sortedHeap_old (Nat.ne_of_lt hlt) (by rw [size_push']; exact Nat.lt_succ_of_lt hlt)]
  exact Heap.get?_push_of_some _ q
end
end Pw

/-! sorted(set(xs)): the reading's rule -/
namespace Pw
open PySem PySem.Spec PyProof.Rows L2
section
variable {X : Cx}
theorem strsAre_tx : ∀ {ds : List (List Nat)} {us : List Value}, Vals ((ds.map Tx).map V.str) us → StrsAre us (ds.map Tx) := fun h => strsAre_of h
def tSortSet (K : PySem.W.Frag) (ta : TE) : TE := fun σ H Q => ta σ H fun x H1 => ∃ l, ∃ xs zs : List Str, x = .ref l ∧ SqL K H1 l (xs.map V.str) ∧ xs.length + 1 < scanBound ∧ zs.Pairwise LtS ∧ (∀ k, k ∈ zs ↔ k ∈ xs) ∧ zs.length < 64 ∧
  ∀ p, H1 p = none → Q (.ref p) (upd H1 p (.lst (zs.map V.str)))
theorem boot_sorted0 : bootBuiltins "sorted" = some (.builtin "sorted") := by rfl
theorem sorted_inv {pins : List (Addr × Obj)} {σ : L2.St} {H : Hp} {s : Shared} {a : Addr} {S zs : List Str} {Q : VK} (I : Inv X pins σ H s) (hS : SetS X.w s.heap a S) (hc : X.calm = true) (hzs : zs.Pairwise LtS)
    (hmem : ∀ k, k ∈ zs ↔ k ∈ S) (h64 : zs.length < 64) (q1 : ∀ p, H p = none → Q (.ref p) (upd H p (.lst (zs.map V.str)))) :
    wpAny (model X.prog X.w) X.A (call (.builtin "sorted") [.ref a]) (EP X pins σ Q) X.xe s := by
  refine sorted_setS hS (I.ok.hd hc) hzs hmem h64 fun s' p out c k1 g1 o1 hp hp1 hst => ?_
  have hlen : (zs.map V.str).length ≤ sizeLine := by
    rw [List.length_map]
    exact Nat.le_trans (Nat.le_of_lt h64) (by decide)
  have hn : H p = none := I.hok.fresh hp
  have J : Inv X pins σ (upd H p (.lst (zs.map V.str))) { s with heap := s'.heap, gens := s'.gens, drawn := s'.drawn, toks := s'.toks } :=
    I.call (ch := []) (Un.laid k1 hp hn) (I.hok.laid k1 hp ⟨hlen, out.toList, c, vals_of_strs hst, hp1⟩) (by rw [g1]; exact I.bare) (fun _ z => nomatch z)
  have e : s' = { s with heap := s'.heap, gens := s'.gens, drawn := s'.drawn, toks := s'.toks } := by
    cases s'
    cases s
    cases o1
    rfl
  rw [e]
  exact ⟨.ref p, _, J, rfl, q1 p hn⟩
theorem pe_sortedSet {a : Expr} {ta : TE} {p p2 q pos : Pos} (hc : X.calm = true) (hg : Gl X "sorted") (hm : X.mg "sorted" = none) (hg2 : Gl X "set") (hm2 : X.mg "set" = none) (ha : PE X a ta)
    (na : starEach [a] X.env = (false, eval a X.env) :: starEach [] X.env := by rfl) : PE X (.Call (.Name "sorted" p) [.Call (.Name "set" p2) [a] [] q] [] pos) (tSortSet X.K ta) := by
  refine ⟨fun pins s σ H Q I h => ?_⟩
  refine Call_ (ld_blt I hg hm boot_sorted0 ?_)
  refine PyProof.Rows.callWith_builtin1 (PyProof.Rows.args_cons ?_ rfl) rfl rfl
  refine Call_ (ld_blt I hg2 hm2 boot_set ?_)
  refine PyProof.Rows.callWith_type1 (PyProof.Rows.args_cons (thn (ha.run pins s σ H _ I h) fun v s1 ⟨x, H1, I1, r1, q1⟩ => PyProof.Rows.args_nil ?_) na) na rfl
  obtain ⟨l, xs, zs, rfl, hq, h1, hzs, hmem, h64, q1⟩ := q1
  cases r1
  obtain ⟨its, r, pl, hz⟩ := I1.list hq
  refine call_set_listT (I1.ok.hd hc) pl.isList (by simpa using strsAre_of r) h1 fun h' tk hS hk => ?_
  refine PyProof.Rows.args_nil ?_
  have I2 : Inv X pins σ H1 { s1 with heap := h', toks := tk } := I1.kept fun b o e => hk b o (Heap.lt_size e) e
  exact sorted_inv I2 hS hc hzs (fun k => by rw [hmem k, List.mem_reverse]) h64 q1
end
section
variable {K : PySem.W.Frag} {Γ : Gam} {te : TE}
theorem reps_tx {F : Hp} : ∀ {vs : List V} {ds : List (List Nat)}, Reps cT F vs ds → vs = (ds.map Tx).map V.str
  | [], [], _ => rfl
  | v :: vs, d :: ds, h => by
    rw [List.map_cons, List.map_cons, ← reps_tx h.2]
    exact congrArg (· :: vs) (show v = .str (Tx d) from h.1)
theorem reps_txs (F : Hp) : ∀ ds : List (List Nat), Reps cT F ((ds.map Tx).map V.str) ds
  | [] => trivial
  | d :: ds => ⟨rfl, reps_txs F ds⟩
/-- texts: strictly rising -/
abbrev RisT (zs : List (List Nat)) : Prop := zs.Pairwise fun a b => ltCps a b = true
theorem risT_map {zs : List (List Nat)} (h : RisT zs) : (zs.map Tx).Pairwise LtS := List.pairwise_map.mpr (h.imp fun {a b} r => by show ltCps (Tx a).cps.toList (Tx b).cps.toList = true; simpa using r)
theorem mem_tx {zs ds : List (List Nat)} (h : ∀ k, k ∈ zs ↔ k ∈ ds) (k : Str) : k ∈ zs.map Tx ↔ k ∈ ds.map Tx := by
  rw [List.mem_map, List.mem_map]
  exact ⟨fun ⟨a, m, e⟩ => ⟨a, (h a).1 m, e⟩, fun ⟨a, m, e⟩ => ⟨a, (h a).2 m, e⟩⟩
theorem evN_sortSet {ds zs : List (List Nat)} (h : EvN Γ te cT ds) (hz : RisT zs) (hm : ∀ k, k ∈ zs ↔ k ∈ ds) (hl : ds.length + 1 < scanBound) (h64 : zs.length < 64) : EvN Γ (tSortSet K te) cT zs := fun F H σ S Q q =>
  h F H σ S _ fun p vs F1 H1 e1 k1 k2 k3 k4 => by
    have hv := reps_tx k4
    subst hv
    exact ⟨p, ds.map Tx, zs.map Tx, rfl, .inl (.inl k3), by rw [List.length_map]; exact hl, risT_map hz, mem_tx hm, by rw [List.length_map]; exact h64, fun p2 hp2 =>
      q p2 _ F1 _ (e1.trans (Ext.aside e1.i hp2)) (e1.h.free hp2) (e1.i.free hp2) upd_same (reps_txs F1 zs)⟩
theorem ev_sortSetV {ds zs : List (List Nat)} (h : Ev Γ te (cList K cT) ds) (hz : RisT zs) (hm : ∀ k, k ∈ zs ↔ k ∈ ds) (hl : ds.length + 1 < scanBound) (h64 : zs.length < 64) : EvN Γ (tSortSet K te) cT zs := fun F H σ S Q q =>
  h F H σ S _ fun v F1 H1 e1 r1 => by
    obtain ⟨a, vs, rfl, hs, hr⟩ := r1
    have hv := reps_tx hr
    subst hv
    exact ⟨a, ds.map Tx, zs.map Tx, rfl, ex_l e1.i hs, by rw [List.length_map]; exact hl, risT_map hz, mem_tx hm, by rw [List.length_map]; exact h64, fun p2 hp2 =>
      q p2 _ F1 _ (e1.trans (Ext.aside e1.i hp2)) (e1.h.free hp2) (e1.i.free hp2) upd_same (reps_txs F1 zs)⟩
/-- texts of signs that there are -/
def TxsOk (ds : List (List Nat)) : Prop := ∀ d ∈ ds, ∀ c ∈ d, c < 0x110000
theorem txs_dp {F : Hp} : ∀ {vs : List V} {ds : List (List Nat)}, Reps cT F vs ds → DpAll K F vs (ds.map fun d => .str (Tx d))
  | [], [], _ => .nil
  | _ :: _, d :: ds, h => by
    have e := h.1
    cases (show _ = V.str (Tx d) from e)
    exact .cons (.str _) (txs_dp h.2)
theorem txs_lay : ∀ {ds : List (List Nat)}, TxsOk ds → PyData.canLayAll0 (ds.map fun d => .str (Tx d)) = true ∧ PyData.depthAll (ds.map fun d => .str (Tx d)) ≤ 0 ∧ PyData.eqvAll (ds.map fun d => .str (Tx d)) (ds.map fun d => .str (Tx d)) = true
  | [], _ => ⟨rfl, Nat.le_refl _, rfl⟩
  | d :: ds, h => by
    obtain ⟨h1, h2, h3⟩ := txs_lay fun x hx => h x (List.mem_cons_of_mem _ hx)
    refine ⟨?_, ?_, ?_⟩
    · show (PyData.canLay0 (.str (Tx d)) && _) = true
      rw [h1, Bool.and_true]
      unfold PyData.canLay0 PySem.PyData.strOk
      simpa using h d List.mem_cons_self
    · show max 0 _ ≤ 0
      omega
    · show ((Tx d == Tx d) && _) = true
      rw [h3]; simp
theorem ev_eqTs {ds : List (List Nat)} {ta tb : TE} (ok : TxsOk ds) (h1 : Ev Γ ta (cList K cT) ds) (h2 : Ev Γ tb (cList K cT) ds) : Ev Γ (tOp (rEqD K) ta tb) cBool true :=
  ev_mono_op h1 h2 fun F H u v e r1 r2 Q q => by
    obtain ⟨a, vs, rfl, hs, hr⟩ := r1
    obtain ⟨b, ws, rfl, hs2, hr2⟩ := r2
    obtain ⟨g1, g2, g3⟩ := txs_lay ok
    have sh : SeqAt.shaped (.list (ds.map fun d => .str (Tx d))) = true := by
      unfold SeqAt.shaped
      have : PyData.depth (.list (ds.map fun d => .str (Tx d))) ≤ 64 := by show PyData.depthAll _ + 1 ≤ 64; omega
      rw [decide_eq_true this, Bool.and_true]; exact g1
    exact ⟨_, _, .lst (ex_l e hs) (txs_dp (hr.mono e)), .lst (ex_l e hs2) (txs_dp (hr2.mono e)), sh, sh, q _ F H (Ext.refl e) (congrArg V.bl (show PyData.eqvAll _ _ = true from g3))⟩
end
end Pw

/-! dicts by texts; new objects of any kind -/
namespace Pw
open PySem PySem.Spec PyProof.Rows L2
/-! ### new objects -/
def EvOb {α : Type} (Γ : Gam) (te : TE) (c : CodO α) (d : α) : Prop := ∀ F H σ, Sl F H σ Γ → ∀ Q : VK, (∀ p o F' H', Ext F H F' H' → H p = none → F' p = none → H' p = some o → c.rep F' o d → Q (.ref p) H') → te σ H Q
def rObj {β : Type} (c : CodO β) : RR β := fun H0 F H v d => ∃ p o, v = .ref p ∧ H0 p = none ∧ F p = none ∧ H p = some o ∧ c.rep F o d
def SpOb {α β : Type} (ca : CodA α) (pre : α → Prop) (c : CodO β) (f : α → β) : Sp := fun vs H Q _ => ∃ F a, Ex F H ∧ ca.rep F vs a ∧ pre a ∧
  ∀ p o F' H', Ext F H F' H' → H p = none → F' p = none → H' p = some o → c.rep F' o (f a) → Q (.ref p) H'
section
variable {α β : Type} {ca : CodA α} {pre : α → Prop} {c : CodO β} {t : TS} {vs : List V} {H : Hp} {Q : VK} {E : XK} {N : List Str}
theorem body_Ob {f : α → β} (m : Nat) (h : ∀ a, pre a → SW (rObj c) (ca.env a ++ List.replicate m .any) t (PF (f a))) (hN : ∀ a, N.length = (ca.env a).length + m) (hs : SpOb ca pre c f vs H Q E) : t (ends Q) (start N vs) H := by
  obtain ⟨F, a, e, r, hp, q⟩ := hs
  exact h a hp F H F H _ _ (stt_start e r m (hN a)) ⟨fun _ _ _ _ _ z => z.elim, fun F' H' v d x r z => by subst z; obtain ⟨p, o, rfl, k1, k2, k3, k4⟩ := r; exact q p o F' H' x k1 k2 k3 k4, fun _ _ _ _ _ z => z.elim, fun _ _ _ _ _ z => z.elim, fun _ _ _ z => z.elim⟩
theorem len_Ob {f : α → β} {n : Nat} (hn : ∀ a, (ca.env a).length = n) (hs : SpOb ca pre c f vs H Q E) : vs.length = n := by
  obtain ⟨F, a, e, r, _⟩ := hs; rw [ca.len r, hn]
end
section
variable {K : PySem.W.Frag} {Γ : Gam} {ta tb tc te tz0 : TE} {α β γ ρ : Type} {c : CodO α} {d : α} {R : RR ρ} {P : Pst ρ} {t u tz : TS} {i j : Nat}
theorem evOb_call {ca : CodA β} {a : β} {pre : β → Prop} {f : β → α} {tr : TA} {E : XK} (h : EvA Γ tr ca a) (hp : pre a) : EvOb Γ (tCall (SpOb ca pre c f) [] E tr) c (f a) := fun F H σ S Q q =>
  h F H σ S _ fun vs F1 H1 e1 r1 => ⟨F1, a, e1.i, by rw [List.append_nil]; exact r1, hp, fun p o F' H' e2 k1 k2 k3 k4 => q p o F' H' (e1.trans e2) (e1.h.free k1) k2 k3 k4⟩
theorem evOb_is {d' : α} (h : EvOb Γ te c d) (e : d = d') : EvOb Γ te c d' := e ▸ h
theorem sw_asgOb (h : EvOb Γ te c d) (k : P.nx (Γ.set i (.ob c d))) : SW R Γ (tAsg te (gName i)) P := fun F0 H0 F H σ D S o =>
  h F H σ S.sl _ fun p w F1 H1 e1 k1 k2 k3 k4 => o.nx F1 H1 _ _ ((S.grow e1).setOb (S.h.free k1) k2 k3 k4 fun j _ oj hj => by
    cases q : Γ[j]? with
    | none => rw [q] at oj; exact oj
    | some e =>
      cases e with
      | any => rw [q] at oj; exact oj
      | val _ _ => rw [q] at oj; exact oj
      | ob c' ds' =>
        obtain ⟨p', vs', z1, z2, z3, z4⟩ := S.sl.obj q
        rw [z1] at hj
        cases hj
        rw [k1] at z3; cases z3) k
theorem q_asgOb (h : EvOb Γ te c d) (k : SW R (Γ.set i (.ob c d)) tz P) : SW R Γ (tSeq (tAsg te (gName i)) tz) P := sw_seq (sw_asgOb h k)
theorem sw_retOb {c : CodO ρ} {d : ρ} (e : Γ[i]? = some (.ob c d)) (k : P.rt d) : SW (rObj c) Γ (tRet (tVar i)) P := fun F0 H0 F H σ D S o => by
  obtain ⟨p, vs, k1, k2, k3, k4⟩ := S.sl.obj e
  exact ⟨.ref p, k1, o.rt F H _ d S.ext ⟨p, vs, rfl, S.own i p (by rw [e]; trivial) k1, k2, k3, k4⟩ k⟩
/-- a thing of one's own is given up -/
theorem sw_freezeOb {c2 : Cod γ} {d2 : γ} (i : Nat) (e : Γ[i]? = some (.ob c d)) (hc : ∀ F p o, F p = some o → c.rep F o d → c2.rep F (.ref p) d2) (h : SW R (Γ.set i (.val c2 d2)) t P) : SW R Γ t P := fun F0 H0 F H σ D S o => by
  obtain ⟨F', _, S'⟩ := S.freezeOb e hc
  exact h F0 H0 F' H σ D S' o
/-- a new thing as a lasting one -/
theorem EvOb.ev {c2 : Cod γ} {d2 : γ} (h : EvOb Γ te c d) (hc : ∀ F p o, F p = some o → c.rep F o d → c2.rep F (.ref p) d2) : Ev Γ te c2 d2 := fun F H σ S Q q => h F H σ S Q fun p o F' H' x h1 h2 h3 h4 =>
  q (.ref p) (upd F' p o) H' ⟨x.f.trans (Ex.new h2), x.h, fun a o e => by
    by_cases z : a = p
    · subst z; rw [upd_same] at e; cases e; exact h3
    · rw [upd_ne z] at e; exact x.i a o e, fun a o e => by
    by_cases z : a = p
    · subst z; exact .inr h1
    · rw [upd_ne z] at e; exact x.n a o e⟩ (hc _ p o upd_same (c.mono (Ex.new h2) h4))
end
/-! ### dicts by texts -/
def DRep {β : Type} (c : Cod β) (F : Hp) : List (L2.Key × V) → List (List Nat × β) → Prop
  | [], [] => True
  | p :: ks, q :: ds => (p.1 = .inr (Tx q.1) ∧ c.rep F p.2 q.2) ∧ DRep c F ks ds
  | _, _ => False
section
variable {β : Type} {c : Cod β} {F : Hp}
theorem DRep.mono {F' : Hp} (e : Ex F F') : ∀ {ks : List (L2.Key × V)} {ds : List (List Nat × β)}, DRep c F ks ds → DRep c F' ks ds
  | [], [], _ => trivial
  | _ :: _, _ :: _, h => ⟨⟨h.1.1, c.mono e h.1.2⟩, h.2.mono e⟩
  | [], _ :: _, h => h.elim
  | _ :: _, [], h => h.elim
theorem DRep.len : ∀ {ks : List (L2.Key × V)} {ds : List (List Nat × β)}, DRep c F ks ds → ks.length = ds.length
  | [], [], _ => rfl
  | _ :: _, _ :: _, h => by rw [List.length_cons, List.length_cons, h.2.len]
  | [], _ :: _, h => h.elim
  | _ :: _, [], h => h.elim
/-- what stands for a name -/
def lkD (d : List (List Nat × β)) (k : List Nat) : Option β := (d.find? fun p => decide (p.1 = k)).map (·.2)
def putD (d : List (List Nat × β)) (k : List Nat) (x : β) : List (List Nat × β) := if (d.any fun p => decide (p.1 = k)) = true then d.map (fun p => if p.1 = k then (p.1, x) else p) else d ++ [(k, x)]
def dropD (d : List (List Nat × β)) (k : List Nat) : List (List Nat × β) := d.filter fun p => decide (p.1 ≠ k)
theorem key_eq {a b : List Nat} : ((Sum.inr (Tx a) : L2.Key) = .inr (Tx b)) ↔ a = b := ⟨fun h => tx_inj (Sum.inr.inj h), fun h => by rw [h]⟩
theorem lkD_pos {p : List Nat × β} {d : List (List Nat × β)} {k : List Nat} (e : p.1 = k) : lkD (p :: d) k = some p.2 := by simp [lkD, List.find?_cons, e]
theorem lkD_neg {p : List Nat × β} {d : List (List Nat × β)} {k : List Nat} (e : ¬ p.1 = k) : lkD (p :: d) k = lkD d k := by simp [lkD, List.find?_cons, e]
theorem DRep.look (k : List Nat) : ∀ {ks : List (L2.Key × V)} {ds : List (List Nat × β)}, DRep c F ks ds →
    (∀ x, lkD ds k = some x → ∃ v, valV ks (.inr (Tx k)) = some v ∧ c.rep F v x) ∧ (lkD ds k = none → valV ks (.inr (Tx k)) = none)
  | [], [], _ => ⟨fun x h => by simp [lkD] at h, fun _ => rfl⟩
  | p :: ks, q :: ds, h => by
    obtain ⟨h1, h2⟩ := DRep.look k h.2
    by_cases e : q.1 = k
    · have e1 : p.1 = (.inr (Tx k) : L2.Key) := by rw [h.1.1, e]
      rw [lkD_pos e, valV_pos e1]
      exact ⟨fun x hx => by cases hx; exact ⟨p.2, rfl, h.1.2⟩, fun z => by cases z⟩
    · have e1 : ¬ p.1 = (.inr (Tx k) : L2.Key) := fun z => e (key_eq.mp (by rw [← h.1.1]; exact z))
      rw [lkD_neg e, valV_neg e1]
      exact ⟨h1, h2⟩
  | [], _ :: _, h => h.elim
  | _ :: _, [], h => h.elim
theorem DRep.any (k : List Nat) : ∀ {ks : List (L2.Key × V)} {ds : List (List Nat × β)}, DRep c F ks ds → (ks.any fun p => decide (p.1 = (.inr (Tx k) : L2.Key))) = (ds.any fun p => decide (p.1 = k))
  | [], [], _ => rfl
  | p :: ks, q :: ds, h => by
    rw [List.any_cons, List.any_cons, h.2.any k, h.1.1]
    congr 1
    exact decide_eq_decide.mpr key_eq
  | [], _ :: _, h => h.elim
  | _ :: _, [], h => h.elim
theorem DRep.app {v : V} {x : β} {k : List Nat} (r : c.rep F v x) : ∀ {ks : List (L2.Key × V)} {ds : List (List Nat × β)}, DRep c F ks ds → DRep c F (ks ++ [(.inr (Tx k), v)]) (ds ++ [(k, x)])
  | [], [], _ => ⟨⟨rfl, r⟩, trivial⟩
  | _ :: _, _ :: _, h => ⟨h.1, DRep.app r h.2⟩
  | [], _ :: _, h => h.elim
  | _ :: _, [], h => h.elim
theorem DRep.repl {v : V} {x : β} {k : List Nat} (r : c.rep F v x) : ∀ {ks : List (L2.Key × V)} {ds : List (List Nat × β)}, DRep c F ks ds →
    DRep c F (ks.map fun kv => if kv.1 = (.inr (Tx k) : L2.Key) then (kv.1, v) else kv) (ds.map fun p => if p.1 = k then (p.1, x) else p)
  | [], [], _ => trivial
  | p :: ks, q :: ds, h => by
    rw [List.map_cons, List.map_cons]
    refine ⟨?_, DRep.repl r h.2⟩
    by_cases e : q.1 = k
    · have e1 : p.1 = (.inr (Tx k) : L2.Key) := by rw [h.1.1, e]
      rw [if_pos e, if_pos e1]
      exact ⟨h.1.1, r⟩
    · have e1 : ¬ p.1 = (.inr (Tx k) : L2.Key) := fun z => e (key_eq.mp (by rw [← h.1.1]; exact z))
      rw [if_neg e, if_neg e1]
      exact h.1
  | [], _ :: _, h => h.elim
  | _ :: _, [], h => h.elim
theorem DRep.put {v : V} {x : β} {k : List Nat} (r : c.rep F v x) {ks : List (L2.Key × V)} {ds : List (List Nat × β)} (h : DRep c F ks ds) : DRep c F (putK ks (.inr (Tx k)) v) (putD ds k x) := by
  unfold putK putD
  rw [h.any k]
  split
  · exact DRep.repl r h
  · exact DRep.app r h
theorem DRep.drop (k : List Nat) : ∀ {ks : List (L2.Key × V)} {ds : List (List Nat × β)}, DRep c F ks ds → DRep c F (dropK ks (.inr (Tx k))) (dropD ds k)
  | [], [], _ => trivial
  | p :: ks, q :: ds, h => by
    have ih := DRep.drop k h.2
    unfold dropK dropD at ih ⊢
    by_cases e : q.1 = k
    · have e1 : p.1 = (.inr (Tx k) : L2.Key) := by rw [h.1.1, e]
      rw [List.filter_cons_of_neg (a := p) (by simpa using e1), List.filter_cons_of_neg (a := q) (by simpa using e)]
      exact ih
    · have e1 : ¬ p.1 = (.inr (Tx k) : L2.Key) := fun z => e (key_eq.mp (by rw [← h.1.1]; exact z))
      rw [List.filter_cons_of_pos (a := p) (by simpa using e1), List.filter_cons_of_pos (a := q) (by simpa using e)]
      exact ⟨h.1, ih⟩
  | [], _ :: _, h => h.elim
  | _ :: _, [], h => h.elim
end
/-- a dict of one's own, a dict -/
def cDo {β : Type} (c : Cod β) : CodO (List (List Nat × β)) := ⟨fun F o d => ∃ kvs, o = .dK kvs ∧ DRep c F kvs d, fun e ⟨kvs, h, k⟩ => ⟨kvs, h, k.mono e⟩⟩
def cDi {β : Type} (c : Cod β) : Cod (List (List Nat × β)) := ⟨fun F v d => ∃ a kvs, v = .ref a ∧ F a = some (.dK kvs) ∧ DRep c F kvs d, fun e ⟨a, kvs, h, k, r⟩ => ⟨a, kvs, h, e a _ k, r.mono e⟩⟩
theorem cDi_of {β : Type} {c : Cod β} {d : List (List Nat × β)} : ∀ F p o, F p = some o → (cDo c).rep F o d → (cDi c).rep F (.ref p) d := fun F p o h ⟨kvs, e, r⟩ => ⟨p, kvs, rfl, by rw [← e]; exact h, r⟩
section
variable {K : PySem.W.Frag} {Γ : Gam} {ta tb td te ty tv : TE} {α β γ ρ : Type} {c : Cod β} {d : List (List Nat × β)} {k : List Nat} {x : β} {R : RR ρ} {P : Pst ρ} {t u tz : TS} {i j : Nat}
theorem ev_dget (h : Ev Γ td (cDi c) d) (h2 : Ev Γ ty cT k) (hk : lkD d k = some x) : Ev Γ (tDGet td ty) c x := fun F H σ S Q q =>
  h F H σ S _ fun v F1 H1 e1 r1 => h2 F1 H1 σ (S.grow e1) _ fun y F2 H2 e2 r2 => by
    obtain ⟨a, kvs, rfl, ha, hr⟩ := r1
    cases (show y = .str (Tx k) from r2)
    obtain ⟨v, hv, rv⟩ := (hr.look k).1 x hk
    exact ⟨a, v, rfl, by rw [← hv]; exact DGet.k (k := .inr (Tx k)) (e2.i a _ (e2.f a _ ha)), q v F2 H2 (e1.trans e2) (c.mono e2.f rv)⟩
theorem ev_dnotin (h2 : Ev Γ ty cT k) (h : Ev Γ td (cDi c) d) : Ev Γ (tDNotIn ty td) cBool (!(lkD d k).isSome) := fun F H σ S Q q =>
  h2 F H σ S _ fun y F1 H1 e1 r1 => h F1 H1 σ (S.grow e1) _ fun v F2 H2 e2 r2 => by
    obtain ⟨a, kvs, rfl, ha, hr⟩ := r2
    cases (show y = .str (Tx k) from r1)
    refine ⟨a, _, rfl, DGet.k (k := .inr (Tx k)) (e2.i a _ ha), q _ F2 H2 (e1.trans e2) ?_⟩
    show V.bl _ = V.bl _
    congr 1
    congr 1
    cases hl : lkD d k with
    | none => rw [(hr.look k).2 hl]; rfl
    | some x => obtain ⟨v, hv, _⟩ := (hr.look k).1 x hl; rw [hv]; rfl
theorem ev_dget1 (h : Ev Γ td (cDi c) d) (h2 : Ev Γ ty cT k) : Ev Γ (tDGet1 td ty) (cOpt c) (lkD d k) := fun F H σ S Q q =>
  h F H σ S _ fun v F1 H1 e1 r1 => by
    obtain ⟨a, kvs, rfl, ha, hr⟩ := r1
    refine ⟨a, rfl, .inl ⟨kvs, .inl (e1.i a _ ha)⟩, h2 F1 H1 σ (S.grow e1) _ fun y F2 H2 e2 r2 => ?_⟩
    cases (show y = .str (Tx k) from r2)
    refine ⟨_, DGet.k (k := .inr (Tx k)) (e2.i a _ (e2.f a _ ha)), q _ F2 H2 (e1.trans e2) ?_⟩
    cases hl : lkD d k with
    | none => rw [(hr.look k).2 hl]; rfl
    | some x => obtain ⟨v, hv, rv⟩ := (hr.look k).1 x hl; rw [hv]; exact c.mono e2.f rv
/-- {} -/
theorem evOb_dnew : EvOb Γ tDNewK (cDo c) [] := fun F H σ S Q q p hp => q p _ F _ (Ext.aside S.ex hp) hp (S.ex.free hp) upd_same ⟨[], rfl, trivial⟩
/-- d[k] = e -/
theorem sw_dput (e : Γ[i]? = some (.ob (cDo c) d)) (hv : Ev Γ tv c x) (h2 : Ev Γ ty cT k) (hl : d.length < 1000000) (kn : P.nx (Γ.set i (.ob (cDo c) (putD d k x)))) : SW R Γ (sDPut (tVar i) ty tv) P := fun F0 H0 F H σ D S o =>
  hv F H σ S.sl _ fun v F1 H1 e1 r1 => by
    have S1 := S.grow e1
    obtain ⟨p, w, k1, k2, k3, kvs, rfl, k4⟩ := S1.sl.obj e
    refine ⟨.ref p, k1, h2 F1 H1 σ S1.sl _ fun y F2 H2 e2 r2 => ?_⟩
    cases (show y = .str (Tx k) from r2)
    have S2 := S1.grow e2
    obtain ⟨p', w', j1, j2, j3, kvs', rfl, j4⟩ := S2.sl.obj e
    rw [k1] at j1; cases j1
    have hs : d.length < sizeLine := Nat.lt_of_lt_of_le hl (by decide)
    exact ⟨p, _, rfl, DPut.k (k := .inr (Tx k)) j3 (by rw [j4.len]; exact hs), o.nx F2 _ _ _ (S2.writeOb e k1 j2 (c := cDo c) ⟨_, rfl, DRep.put (c.mono e2.f r1) j4⟩) kn⟩
/-- dict(d) -/
def rDictD : List V → Hp → VK → Prop := fun xs H Q => ∃ (a : Addr) (kvs : List (L2.Key × V)), xs = [.ref a] ∧ Rd H a (.dK kvs) ∧ ∀ p, H p = none → Q (.ref p) (upd H p (.dK kvs))
theorem evOb_dcopy (h : Ev Γ td (cDi c) d) : EvOb Γ (tCB rDictD (tCons td tNil)) (cDo c) d := fun F H σ S Q q =>
  h F H σ S _ fun v F1 H1 e1 r1 => by
    obtain ⟨a, kvs, rfl, ha, hr⟩ := r1
    exact ⟨a, kvs, rfl, .inl (e1.i a _ ha), fun p hp => q p _ F1 _ (e1.trans (Ext.aside e1.i hp)) (e1.h.free hp) (e1.i.free hp) upd_same ⟨kvs, rfl, hr⟩⟩
end
/-! ### dicts compared: equal ones -/
def EqX (K : PySem.W.Frag) (H : Hp) (u v : V) : Prop := ∃ d, Dp K H u d ∧ Dp K H v d ∧ PyData.canLay0 d = true ∧ PyData.depth d ≤ 8 ∧ PyData.eqv d d = true
def rEqDi (K : PySem.W.Frag) (neg : Bool) : R2 := fun x y H Q => ∃ a b ks ls, x = .ref a ∧ y = .ref b ∧ H a = some (.dK ks) ∧ H b = some (.dK ls) ∧ ks.length = ls.length ∧ (∀ p ∈ ks, ∃ u, valV ls p.1 = some u ∧ EqX K H p.2 u) ∧ Q (.bl (!neg)) H
section
variable {X : Cx} {pins : List (Addr × Obj)} {σ : L2.St} {H : Hp} {s : Shared}
theorem hits_dp (I : Inv X pins σ H s) {A : Around} (hu : A.units + 8 < cLine) {ls : List (L2.Key × V)} {vb : List (L2.Key × Value)} (rb : KV ls vb) {ks : List (L2.Key × V)} {va : List (L2.Key × Value)} (ra : KV ks va) :
    (∀ p ∈ ks, ∃ u, valV ls p.1 = some u ∧ EqX X.K H p.2 u) → PySem.W.KeqHits A s vb va true := by
  unfold KV at ra
  induction ra with
  | nil => intro _; exact .nil
  | @cons p q ps qs h t ih =>
    intro hp
    obtain ⟨h1, h2⟩ := h
    obtain ⟨u, e, d, d1, d2, d3, d4, d5⟩ := hp p List.mem_cons_self
    have rr : RelO (some u) (valueAt vb p.1) := by rw [← e]; exact rb.val p.1
    obtain ⟨y, hy, ry⟩ := rr.some_of
    obtain ⟨k, v⟩ := q
    have h1' : p.1 = k := h1
    rw [h1'] at hy
    obtain ⟨as, r1⟩ := Dp.reads I d _ _ d1 h2
    obtain ⟨bs, r2⟩ := Dp.reads I d _ _ d2 ry
    have hq := SeqAt.eqAt_reads d d A s _ _ as bs r1 r2 d3 d3 (by omega)
    rw [d5] at hq
    show PySem.W.KeqHits A s vb ((k, v) :: qs) (true && true)
    exact .hit hy hq (ih fun p' hm => hp p' (List.mem_cons_of_mem _ hm))
theorem op_eqDi (hu : X.A.units + 64 < cLine) : OpR X (compareOp .Eq) (rEqDi X.K false) := by
  intro pins s σ H x y v u Q I rx ry h
  obtain ⟨a, b, ks, ls, rfl, rfl, ea, eb, hlen, hp, q⟩ := h
  obtain rfl : v = Value.ref a := rx
  obtain rfl : u = Value.ref b := ry
  obtain ⟨_, ya, va, ra, da⟩ := (show ObjOk X.prog X.w H s.heap a (.dK ks) from I.hok a _ ea)
  obtain ⟨_, yb, vb, rb, db⟩ := (show ObjOk X.prog X.w H s.heap b (.dK ls) from I.hok b _ eb)
  have hl : va.length = vb.length := by rw [← ra.length, ← rb.length]; exact hlen
  exact PySem.W.keq_eq (knd := mixKind X.prog X.w) (r := true) ya yb da db (by omega) (fun _ => hits_dp I (by show X.A.units + 1 + 8 < cLine; omega) rb ra hp) (fin_bl I q (by simp [hl]))
theorem op_neDi (hu : X.A.units + 64 < cLine) : OpR X (compareOp .NotEq) (rEqDi X.K true) := by
  intro pins s σ H x y v u Q I rx ry h
  obtain ⟨a, b, ks, ls, rfl, rfl, ea, eb, hlen, hp, q⟩ := h
  obtain rfl : v = Value.ref a := rx
  obtain rfl : u = Value.ref b := ry
  obtain ⟨_, ya, va, ra, da⟩ := (show ObjOk X.prog X.w H s.heap a (.dK ks) from I.hok a _ ea)
  obtain ⟨_, yb, vb, rb, db⟩ := (show ObjOk X.prog X.w H s.heap b (.dK ls) from I.hok b _ eb)
  have hl : va.length = vb.length := by rw [← ra.length, ← rb.length]; exact hlen
  exact PySem.W.keq_ne (knd := mixKind X.prog X.w) (r := true) ya yb da db (by omega) (fun _ => hits_dp I (by show X.A.units + 1 + 8 < cLine; omega) rb ra hp) (fin_bl I q (by simp [hl]))
end
section
variable {K : PySem.W.Frag} {Γ : Gam} {ta tb : TE} {β : Type} {c : Cod β} {d : List (List Nat × β)}
theorem lkD_mem {p : List Nat × β} (nd : (d.map (·.1)).Nodup) (h : p ∈ d) : lkD d p.1 = some p.2 := by
  induction d with
  | nil => simp at h
  | cons q d ih =>
    rw [List.map_cons, List.nodup_cons] at nd
    rcases List.mem_cons.mp h with rfl | h
    · exact lkD_pos rfl
    · rw [lkD_neg (fun e => nd.1 (by rw [e]; exact List.mem_map.mpr ⟨p, h, rfl⟩))]
      exact ih nd.2 h
theorem DRep.mem {F : Hp} : ∀ {ks : List (L2.Key × V)} {ds : List (List Nat × β)}, DRep c F ks ds → ∀ p ∈ ks, ∃ q ∈ ds, p.1 = .inr (Tx q.1) ∧ c.rep F p.2 q.2
  | [], [], _, p, hp => by simp at hp
  | _ :: _, q :: _, h, p, hp => by
    rcases List.mem_cons.mp hp with rfl | hp
    · exact ⟨q, List.mem_cons_self, h.1⟩
    · obtain ⟨r, hr, e⟩ := DRep.mem h.2 p hp
      exact ⟨r, List.mem_cons_of_mem _ hr, e⟩
  | [], _ :: _, h, _, _ => h.elim
  | _ :: _, [], h, _, _ => h.elim
/-- two dicts of the same data -/
theorem ev_eqDi {neg : Bool} (x : CodD K c) (hn : x.n ≤ 8) (nd : (d.map (·.1)).Nodup) (h1 : Ev Γ ta (cDi c) d) (h2 : Ev Γ tb (cDi c) d) : Ev Γ (tOp (rEqDi K neg) ta tb) cBool (!neg) :=
  ev_mono_op h1 h2 fun F H u v e r1 r2 Q q => by
    obtain ⟨a, ks, rfl, ha, hr⟩ := r1
    obtain ⟨b, ls, rfl, hb, hs⟩ := r2
    refine ⟨a, b, ks, ls, rfl, rfl, e a _ ha, e b _ hb, by rw [hr.len, hs.len], fun p hp => ?_, q _ F H (Ext.refl e) rfl⟩
    obtain ⟨w, hw, e1, r⟩ := hr.mem p hp
    obtain ⟨v, hv, rv⟩ := (hs.look w.1).1 w.2 (lkD_mem nd hw)
    refine ⟨v, by rw [e1]; exact hv, x.dat w.2, x.dp (c.mono e r), x.dp (c.mono e rv), x.lay _, Nat.le_trans (x.deep _) hn, ?_⟩
    rw [x.eqv]; simp
end
end Pw

/-! dicts by texts: pop, a display of one pair; None or a value -/
namespace Pw
open PySem PySem.Spec PyProof.Rows L2
section
variable {K : PySem.W.Frag} {Γ : Gam} {ta tb td te ty tv : TE} {α β γ ρ : Type} {c : Cod β} {d : List (List Nat × β)} {k : List Nat} {x : β} {R : RR ρ} {P : Pst ρ} {t u tz : TS} {i j : Nat}
/-- d.pop(k), k being there -/
theorem sw_dpop (e : Γ[i]? = some (.ob (cDo c) d)) (h2 : Ev Γ ty cT k) (hk : lkD d k = some x) (kn : P.nx (Γ.set i (.ob (cDo c) (dropD d k)))) : SW R Γ (tDrop (tDPop1 (tVar i) ty)) P := fun F0 H0 F H σ D S o => by
  obtain ⟨p, w, k1, k2, k3, kvs, rfl, k4⟩ := S.sl.obj e
  refine ⟨.ref p, k1, p, rfl, .inl ⟨kvs, .inl k3⟩, h2 F H σ S.sl _ fun y F2 H2 e2 r2 => ?_⟩
  cases (show y = .str (Tx k) from r2)
  have S2 := S.grow e2
  obtain ⟨p', w', j1, j2, j3, kvs', rfl, j4⟩ := S2.sl.obj e
  rw [k1] at j1; cases j1
  obtain ⟨v, hv, _⟩ := (j4.look k).1 x hk
  exact ⟨kvs', .inr (Tx k), v, j3, rfl, hv, o.nx F2 _ _ _ (S2.writeOb e k1 j2 (c := cDo c) ⟨_, rfl, j4.drop k⟩) kn⟩
/-- {k: e} -/
theorem evOb_disp1 {s : Str} (hs : s = Tx k) (h : Ev Γ tv c x) : EvOb Γ (tDisp [(tC (.str s), tv)]) (cDo c) [(k, x)] := fun F H σ S Q q p hp => by
  subst hs
  have e0 : Ext F H F (upd H p (.dK [])) := Ext.aside S.ex hp
  refine h F _ σ (S.grow e0) _ fun v F2 H2 e2 r2 => ?_
  have h2 : H2 p = some (.dK []) := e2.h p _ upd_same
  have f2 : F2 p = none := by
    cases hq : F2 p with
    | none => rfl
    | some o =>
      rcases e2.n p o hq with z | z
      · rw [S.ex.free hp] at z; cases z
      · rw [upd_same] at z; cases z
  refine ⟨h2, [(.inr (Tx k), v)], rfl, by simp, ?_⟩
  have hm : mergeK [] [((.inr (Tx k) : L2.Key), v)] = [(.inr (Tx k), v)] := rfl
  rw [hm]
  refine q p _ F2 _ ⟨e2.f, fun a o ha => ?_, fun a o ha => ?_, fun a o ha => ?_⟩ hp f2 upd_same ⟨_, rfl, ⟨rfl, r2⟩, trivial⟩
  · have na : a ≠ p := fun z => by subst z; rw [hp] at ha; cases ha
    rw [upd_ne na]; exact e2.h a o (by rw [upd_ne na]; exact ha)
  · have na : a ≠ p := fun z => by subst z; rw [f2] at ha; cases ha
    rw [upd_ne na]; exact e2.i a o ha
  · have na : a ≠ p := fun z => by subst z; rw [f2] at ha; cases ha
    rcases e2.n a o ha with z | z
    · exact .inl z
    · rw [upd_ne na] at z; exact .inr z
end
end Pw

/-! try: x = o.m(..) except E as e: caught = e, o one of the five classes -/
namespace Pw
open PySem PySem.Spec PyProof.Rows L2 Xp
def tM5S (Y : ExC) (m : Str) (sp : Nat → Sp) (E : L2.St → XK) (ta : TE) (t : TA) : TE := fun σ H Q => ∃ k, k < 5 ∧ ta σ H fun x H1 => ∃ a dx fs, x = .ref a ∧ H1 a = some (.ins (Y.at_ k) dx fs) ∧ fs.lookup m = none ∧
  t σ H1 fun vs H2 => sp k (x :: vs) H2 Q (E σ)
section
variable {X : Cx} {Y : ExC} {CX : CXT} {k : Nat} {m : Str} {sp : Nat → Sp} {E : L2.St → XK} {o e : Expr} {es : List Expr} {apos pos : Pos} {ta : TE} {t : TA}
theorem pe_m5S {pl : Sem Bool} (he : PE X o ta) (c : ExK X.K Y) (h : ∀ j, j < 5 → MtOk X.prog X.w X.K X.mg X.base CX k (Y.at_ j) m (sp j)) (hr : Room k X.A) (hx : ∀ σ, PassesAt CX X σ (E σ)) (ha : PA X (e :: es) t)
    (hst : starEach (e :: es) X.env = (false, eval e X.env) :: starEach es X.env := by rfl) (hpl : (backTo pos (starEach es X.env)).any (·.1) = false := by rfl)
    (ht : eval (.Call (.Attribute o m apos) (e :: es) [] pos) X.env = (do
      let ov ← eval o X.env
      standAt apos.atName
      let (f, first) ← holding [ov] (getMethod ov m pl)
      callWith pos f first (backTo pos (starEach (e :: es) X.env)) (backToKw pos (keywordEach [] X.env))) := by rfl) :
    PE X (.Call (.Attribute o m apos) (e :: es) [] pos) (tM5S Y m sp E ta t) := ⟨fun pins s σ H Q I hh => by
  obtain ⟨j, hj, hq⟩ := hh
  obtain ⟨f, fd, ps, hm, F, hb⟩ := (h j hj).ex
  refine PySem.W.methodCall_KW (pl := pl) (thn (he.run pins s σ H _ I hq) fun u s1 ⟨x, H1, I1, rx, a, dx, fs, ex, ea, l, q⟩ => ?_) ht
  subst ex
  obtain rfl : u = Value.ref a := rx
  refine getmeth_ok I1 ea (c.cl5 j hj) hm l ?_
  refine PySem.W.callWith_K (first := [.ref a]) (h₀ := X.base) I.ok.mod.kin hm.kp (thn (ha.run pos pins s1 σ H1 _ I1 q) fun us s2 ⟨vs, H2, I2, r, q2⟩ => ⟨I2.kIn, ?_⟩) hst hpl
  exact run_fnS (us := .ref a :: us) (vs := .ref a :: vs) F hr hb (hx σ) I2 (.cons rfl r) q2⟩
end
def tTryM (K : PySem.W.Frag) (c : Value) (i j l : Nat) (Y : ExC) (m : Str) (sp : Nat → Sp) (to : TE) (ta : TA) : TS := fun D σ H =>
  tAsg (tM5S Y m sp (WE (wHold K c i (fun _ _ _ => tAsg (tVar i) (gName j)) (fun _ _ _ _ => False) D)) to ta) (gName l) D σ H
section
variable {K : PySem.W.Frag} {Y : ExC} {Γ : Gam} {to te : TE} {α β γ ρ : Type} {c2 : Cod β} {m : Str} {R : RR ρ} {P : Pst ρ} {t u tz : TS} {i j l : Nat}
theorem sw_tryM {e : Ep} {ca : CodA α} {a : α} {pre : Ep × α → Prop} {f : Ep × α → Option β} {C : Addr} {cv : Value} {tr : TA} (he : Ev Γ to (cEx Y) e) (h : EvA Γ tr ca a) (hp : pre (e, a)) (hm : m ∉ fldNames) (hx : PySem.W.exmOne K (.ref C) cv = some true) (hi : i < Γ.length)
    (k1 : ∀ b, f (e, a) = some b → P.nx (Γ.set l (.val c2 b))) (k2 : f (e, a) = none → P.nx (((Γ.set i .any).set j (.val cExc C)).set i .any)) : SW R Γ (tTryM K cv i j l Y m (SpMX Y ca pre c2 f C) to tr) P := fun F0 H0 F H σ D S o =>
  ⟨clsI e, clsI_lt e, he F H σ S.sl _ fun v F0' H0' e0 r0 => by
    obtain ⟨aa, dx, fs, rfl, ha, hl⟩ := ex_at r0
    refine ⟨aa, dx, fs, rfl, e0.i aa _ ha, hl m hm, h F0' H0' σ (S.grow e0).sl _ fun vs F1 H1 e1' r1 => ?_⟩
    have e1 := e0.trans e1'
    refine ⟨F1, (e, a), e1.i, ⟨_, vs, rfl, exRep_mono e1'.f _ _ r0, r1⟩, ⟨rfl, hp⟩, fun b v F' H' eb e2 r2 => o.nx F' H' _ _ (((S.grow e1).grow e2).setV (i := l) r2) (k1 b eb), fun hn F' H' e2 => ⟨true, hx, fun _ x nx => ?_, fun q => nomatch q⟩⟩
    have S2 := (S.grow e1).grow e2
    have S3 := S2.grow (Ext.new (o := ExV (.ref C) none x) e2.i nx)
    have hi' : i < σ.length := by rw [S.sl.len]; exact hi
    refine ⟨.ref x, by rw [List.getElem?_set_self hi'], ?_⟩
    show D.nx (((σ.set i (some (.ref x))).set j (some (.ref x))).set i none) (upd H' x (ExV (.ref C) none x))
    refine o.nx (upd F' x (ExV (.ref C) none x)) _ _ _ ?_ (k2 hn)
    exact ((S3.set (e := .any) (i := i) (s := some (.ref x)) (fun h => h) trivial).setV (c := cExc) (d := C) (i := j) ⟨x, rfl, upd_same⟩).set (e := .any) (i := i) (s := none) (fun h => h) trivial⟩
theorem q_tryM {e : Ep} {ca : CodA α} {a : α} {pre : Ep × α → Prop} {f : Ep × α → Option β} {C : Addr} {cv : Value} {tr : TA} (he : Ev Γ to (cEx Y) e) (h : EvA Γ tr ca a) (hp : pre (e, a)) (hm : m ∉ fldNames) (hx : PySem.W.exmOne K (.ref C) cv = some true) (hi : i < Γ.length)
    (k1 : ∀ b, f (e, a) = some b → SW R (Γ.set l (.val c2 b)) tz P) (k2 : f (e, a) = none → SW R (((Γ.set i .any).set j (.val cExc C)).set i .any) tz P) : SW R Γ (tSeq (tTryM K cv i j l Y m (SpMX Y ca pre c2 f C) to tr) tz) P := sw_seq (sw_tryM he h hp hm hx hi k1 k2)
/-- a value there, None -/
theorem ev_isNo {d : Option β} (hn : ∀ F v x, c2.rep F v x → v ≠ .non) (h : Ev Γ te (cOpt c2) d) : Ev Γ (tOp rIsN te (tC .non)) cBool (!d.isSome) := fun F H σ S Q q =>
  h F H σ S _ fun v F1 H1 e1 r1 => by
    cases d with
    | none => cases (show v = .non from r1); exact ⟨rfl, q _ F1 H1 e1 rfl⟩
    | some x => exact ⟨rfl, q _ F1 H1 e1 (by show V.bl _ = V.bl _; congr 1; exact decide_eq_false (hn _ _ _ r1))⟩
end
/-! arguments that may raise -/
def EvAX {α : Type} (Γ : Gam) (t : TA) (c : CodA α) (b : Option α) (C : Addr) (E : XK) : Prop := ∀ F H σ, Sl F H σ Γ → ∀ Q : List V → Hp → Prop, (∀ x vs F' H', b = some x → Ext F H F' H' → c.rep F' vs x → Q vs H') → (b = none → ∀ F' H', Ext F H F' H' → E (.ref C) none H') → t σ H Q
def both {α β : Type} : Option α → Option β → Option (α × β)
  | some x, some y => some (x, y)
  | _, _ => none
section
variable {K : PySem.W.Frag} {Γ : Gam} {ta te : TE} {t : TA} {α β γ : Type} {c : Cod α} {c2 : Cod β} {r : CodA γ} {C : Addr} {E : XK}
theorem eax_nil : EvAX Γ tNil aNil (some ()) C E := fun F H σ S Q q _ => q () [] F H rfl (Ext.refl S.ex) rfl
theorem eax_cons {b : Option α} {a : Option γ} (h : EvX Γ te c b C E) (hr : EvAX Γ t r a C E) : EvAX Γ (tCons te t) (aCons c r) (both b a) C E := fun F H σ S Q q qx =>
  h F H σ S _ (fun x v F1 H1 hb e1 r1 => hr F1 H1 σ (S.grow e1) _ (fun y vs F2 H2 ha e2 r2 => q (x, y) (v :: vs) F2 H2 (by rw [hb, ha]; rfl) (e1.trans e2) ⟨v, vs, rfl, c.mono e2.f r1, r2⟩) fun hn F2 H2 e2 => qx (by rw [hn]; cases b <;> rfl) F2 H2 (e1.trans e2))
    fun hn F1 H1 e1 => qx (by rw [hn]; rfl) F1 H1 e1
theorem evX_callA {a : Option γ} {pre : γ → Prop} {f : γ → Option β} (h : EvAX Γ t r a C E) (hp : ∀ x, a = some x → pre x) : EvX Γ (tCall (SpX r pre c2 f C) [] E t) c2 (a.bind f) C E := fun F H σ S Q q qx =>
  h F H σ S _ (fun x vs F1 H1 ha e1 r1 => ⟨F1, x, e1.i, by rw [List.append_nil]; exact r1, hp x ha, fun b v F' H' hb e2 r2 => q b v F' H' (by rw [ha]; exact hb) (e1.trans e2) r2, fun hn F' H' e2 => qx (by rw [ha]; exact hn) F' H' (e1.trans e2)⟩)
    fun hn F1 H1 e1 => qx (by rw [hn]; rfl) F1 H1 e1
theorem evX_callF {a : Option γ} {pre : γ → Prop} {f : γ → β} {E' : XK} (h : EvAX Γ t r a C E) (hp : ∀ x, a = some x → pre x) : EvX Γ (tCall (SpF r pre c2 f) [] E' t) c2 (a.map f) C E := fun F H σ S Q q qx =>
  h F H σ S _ (fun x vs F1 H1 ha e1 r1 => ⟨F1, x, e1.i, by rw [List.append_nil]; exact r1, hp x ha, fun v F' H' e2 r2 => q (f x) v F' H' (by rw [ha]; rfl) (e1.trans e2) r2⟩)
    fun hn F1 H1 e1 => qx (by rw [hn]; rfl) F1 H1 e1
theorem evX_is {b b' : Option β} (h : EvX Γ te c2 b C E) (e : b = b') : EvX Γ te c2 b' C E := e ▸ h
end
end Pw

/-! the law's own small defs: _law_drawn -/
namespace Lw
open PySem L2 Pw
/-- the state behind n turns: rest, one, two, found -/
def drS (c : Int) : Nat → Int × Int × Int × List Int
  | 0 => (if c < 0 ∨ 1000000000000000000 ≤ c then (c.natAbs : Int) else 0, c % 1999999943 + 3, (c % 1999999943 + 3) * (c % 1999999943 + 3) % 1999999973 + 1, [])
  | n + 1 =>
    let s := drS c n
    let one := (s.2.1 * s.2.1 + s.2.2.1 + 2 * n + 1) % 1999999973
    let two := (s.2.2.1 * 69069 + one * 40692 + n) % 1999999943
    (if 0 < s.1 then s.1 / 1000000007 else s.1, one, two, s.2.2.2 ++ [if 0 < s.1 then s.1 % 1000000007 else (one + two * two) % 1000000007])
def drawn (c : Int) (n : Int) : List Int := (drS c n.toNat).2.2.2
theorem drS_b (c : Int) : ∀ n, 0 ≤ (drS c n).1 ∧ 0 ≤ (drS c n).2.1 ∧ (drS c n).2.1 ≤ 2000000000 ∧ 0 ≤ (drS c n).2.2.1 ∧ (drS c n).2.2.1 ≤ 2000000000
  | 0 => by
    have h1 := Int.emod_nonneg c (show (1999999943 : Int) ≠ 0 by decide)
    have h2 := Int.emod_lt_of_pos c (show (0 : Int) < 1999999943 by decide)
    have h3 := Int.emod_nonneg ((c % 1999999943 + 3) * (c % 1999999943 + 3)) (show (1999999973 : Int) ≠ 0 by decide)
    have h4 := Int.emod_lt_of_pos ((c % 1999999943 + 3) * (c % 1999999943 + 3)) (show (0 : Int) < 1999999973 by decide)
    refine ⟨?_, ?_, ?_, ?_, ?_⟩ <;> simp only [drS]
    · split <;> omega
    all_goals omega
  | n + 1 => by
    obtain ⟨a, _⟩ := drS_b c n
    simp only [drS]
    refine ⟨?_, Int.emod_nonneg _ (by decide), Int.le_trans (Int.le_of_lt (Int.emod_lt_of_pos _ (by decide))) (by decide), Int.emod_nonneg _ (by decide), Int.le_trans (Int.le_of_lt (Int.emod_lt_of_pos _ (by decide))) (by decide)⟩
    split
    · exact Int.ediv_nonneg a (by decide)
    · exact a
theorem drS_len (c : Int) : ∀ n, (drS c n).2.2.2.length = n
  | 0 => rfl
  | n + 1 => by simp only [drS, List.length_append, drS_len c n]; rfl
theorem drS_in (c : Int) : ∀ n x, x ∈ (drS c n).2.2.2 → 0 ≤ x ∧ x < 1000000007
  | 0, x, h => by simp [drS] at h
  | n + 1, x, h => by
    simp only [drS, List.mem_append, List.mem_singleton] at h
    rcases h with h | h
    · exact drS_in c n x h
    · subst h; split
      · exact ⟨Int.emod_nonneg _ (by decide), Int.emod_lt_of_pos _ (by decide)⟩
      · exact ⟨Int.emod_nonneg _ (by decide), Int.emod_lt_of_pos _ (by decide)⟩
theorem drawn_len {c n : Int} (h : 0 ≤ n) : ((drawn c n).length : Int) = n := by unfold drawn; rw [drS_len]; omega
theorem drawn_at (c n : Int) (i : Nat) : 0 ≤ (drawn c n).getD i 0 ∧ (drawn c n).getD i 0 < 1000000007 := by
  rw [List.getD_eq_getElem?_getD]
  cases q : (drawn c n)[i]? with
  | none => exact ⟨by decide, by decide⟩
  | some x => exact drS_in c _ x (List.mem_of_getElem? q)
def sp_law_drawn (K : PySem.W.Frag) : Sp := SpF (aCons cInt (aCons cInt aNil)) (fun a => 0 ≤ a.2.1 ∧ a.2.1 ≤ 1000) (cInts K) (fun a => drawn a.1 a.2.1)
def t_law_drawn (K : PySem.W.Frag) : TS := tSeq (tAsg (tC (.int 0)) (gName 2)) (tSeq (tIfS (tOr (tTest (tOp oLt (tVar 0) (tC (.int 0)))) (tTest (tOp oGe (tVar 0) (tOp oPow (tC (.int 10)) (tC (.int 18)))))) (tAsg (tCB rAbs (tCons (tVar 0) tNil)) (gName 2)) tNext) (tSeq (tAsg (tOp oAdd (tOp oMod (tVar 0) (tC (.int 1999999943))) (tC (.int 3))) (gName 3)) (tSeq (tAsg (tOp oAdd (tOp oMod (tOp oMul (tVar 3) (tVar 3)) (tC (.int 1999999973))) (tC (.int 1))) (gName 4)) (tSeq (tAsg (tLst tNil) (gName 5)) (tSeq (tFor (iRng1 (tCons (tVar 1) tNil)) (gName 6) (tSeq (tAsg (tOp oMod (tOp oAdd (tOp oAdd (tOp oAdd (tOp oMul (tVar 3) (tVar 3)) (tVar 4)) (tOp oMul (tC (.int 2)) (tVar 6))) (tC (.int 1))) (tC (.int 1999999973))) (gName 3)) (tSeq (tAsg (tOp oMod (tOp oAdd (tOp oAdd (tOp oMul (tVar 4) (tC (.int 69069))) (tOp oMul (tVar 3) (tC (.int 40692)))) (tVar 6)) (tC (.int 1999999943))) (gName 4)) (tSeq (tAsg (tOp oMod (tOp oAdd (tVar 3) (tOp oMul (tVar 4) (tVar 4))) (tC (.int 1000000007))) (gName 7)) (tSeq (tIfS (tTest (tOp oGt (tVar 2) (tC (.int 0)))) (tSeq (tAsg (tOp oMod (tVar 2) (tC (.int 1000000007))) (gName 7)) (tAsg (tOp oDiv (tVar 2) (tC (.int 1000000007))) (gName 2))) tNext) (tDrop (tBM K "list" rAppend (tVar 5) (tCons (tVar 7) tNil)))))))) (tRet (tVar 5)))))))
abbrev drG (c m : Int) (n : Nat) : Gam := [.val cInt c, .val cInt m, .val cInt (drS c n).1, .val cInt (drS c n).2.1, .val cInt (drS c n).2.2.1, .own cInt (drS c n).2.2.2, .any, .any]
theorem rd_law_drawn (K : PySem.W.Frag) (c m : Int) (hm0 : 0 ≤ m) (hm1 : m ≤ 1000) : SW (rVal (cInts K)) [.val cInt c, .val cInt m, .any, .any, .any, .any, .any, .any] (t_law_drawn K) (PF (drawn c m)) := by
  unfold t_law_drawn
  refine q_asg' ev_int ?_
  have h1 := Int.emod_nonneg c (show (1999999943 : Int) ≠ 0 by decide)
  have h2 := Int.emod_lt_of_pos c (show (0 : Int) < 1999999943 by decide)
  refine q_join [.val cInt c, .val cInt m, .val cInt (drS c 0).1, .any, .any, .any, .any, .any] ?_ ?_
  · refine sw_when (evT_or (evT_test (ev_lt (ev_var rfl) ev_int)) fun h => (evT_test (ev_ge (ev_var rfl) (ev_powL (r := 1000000000000000000) (by decide))))) (fun hb => ?_) (fun hb => ?_)
    · rw [Bool.or_eq_true, decide_eq_true_eq, decide_eq_true_eq] at hb
      refine sw_asg (ev_is (ev_abs (ev_var rfl)) (d' := (drS c 0).1) (by simp only [drS]; rw [if_pos hb])) (Wk.refl _)
    · rw [Bool.or_eq_false_iff, decide_eq_false_iff_not, decide_eq_false_iff_not] at hb
      rw [show (drS c 0).1 = 0 by simp only [drS]; rw [if_neg (by omega)]]
      exact Wk.refl _
  refine q_asg' (ev_add (ev_mod (ev_var rfl) ev_int (by decide)) ev_int) ?_
  refine q_asg' (ev_add (ev_mod (ev_mulS (ev_var rfl) (ev_var rfl) (by omega) (by omega)) ev_int (by decide)) ev_int) ?_
  refine q_asgN' (c := cInt) (evN_lst el_nil (by decide)) ?_
  refine q_forR1G (drG c m) (ev_var rfl) (by omega) (by omega) (Wk.refl _) (fun n hn => ?_) ?_
  · obtain ⟨b1, b2, b3, b4, b5⟩ := drS_b c n
    have hn' : (n : Int) < 1000 := by omega
    refine q_asg (ev_mod (ev_add (ev_add (ev_add (ev_mulS (ev_var rfl) (ev_var rfl) (by omega) (by omega)) (ev_var rfl)) (ev_mulS ev_int (ev_var rfl) (by decide) (by omega))) ev_int) ev_int (by decide)) fun one h_one => ?_
    have o1 : 0 ≤ one ∧ one < 1999999973 := by rw [h_one]; exact ⟨Int.emod_nonneg _ (by decide), Int.emod_lt_of_pos _ (by decide)⟩
    refine q_asg (ev_mod (ev_add (ev_add (ev_mulS (ev_var rfl) ev_int (by omega) (by decide)) (ev_mulS (ev_var rfl) ev_int (by omega) (by decide))) (ev_var rfl)) ev_int (by decide)) fun two h_two => ?_
    have o2 : 0 ≤ two ∧ two < 1999999943 := by rw [h_two]; exact ⟨Int.emod_nonneg _ (by decide), Int.emod_lt_of_pos _ (by decide)⟩
    refine q_asg (ev_mod (ev_add (ev_var rfl) (ev_mulS (ev_var rfl) (ev_var rfl) (by omega) (by omega))) ev_int (by decide)) fun number h_number => ?_
    have e1 : (drS c (n + 1)).2.1 = one := by rw [h_one]; rfl
    have e2 : (drS c (n + 1)).2.2.1 = two := by rw [h_two, h_one]; rfl
    refine q_when (evT_test (ev_gt (ev_var rfl) ev_int)) (fun hb => ?_) (fun hb => ?_)
    · have hb' : 0 < (drS c n).1 := of_decide_eq_true hb
      refine q_asg' (ev_mod (ev_var rfl) ev_int (by decide)) ?_
      refine sw_asg (ev_div (ev_var rfl) ev_int (by decide)) ?_
      refine sw_app rfl (ev_var rfl) (by rw [drS_len]; omega) ?_
      show Wk _ (drG c m (n + 1))
      unfold drG
      rw [e1, e2, show (drS c (n + 1)).1 = (drS c n).1 / 1000000007 by simp only [drS]; rw [if_pos hb'], show (drS c (n + 1)).2.2.2 = (drS c n).2.2.2 ++ [(drS c n).1 % 1000000007] by simp only [drS]; rw [if_pos hb']]
      exact .same (.same (.same (.same (.same (.same (.any (.any .nil)))))))
    · have hb' : ¬ 0 < (drS c n).1 := of_decide_eq_false hb
      refine sw_app rfl (ev_var rfl) (by rw [drS_len]; omega) ?_
      show Wk _ (drG c m (n + 1))
      unfold drG
      rw [e1, e2, show (drS c (n + 1)).1 = (drS c n).1 by simp only [drS]; rw [if_neg hb'], show (drS c (n + 1)).2.2.2 = (drS c n).2.2.2 ++ [number] by rw [h_number, h_two, h_one]; simp only [drS]; rw [if_neg hb']]
      exact .same (.same (.same (.same (.same (.same (.any (.any .nil)))))))
  · refine sw_freeze K 5 rfl ?_
    exact sw_ret (ev_var rfl) rfl
end Lw

/-! _law_cell, _law_gcd, _law_whole -/
namespace Lw
open PySem L2 Pw
theorem fmod_eq (a b : Int) : a.fmod b = a - b * a.fdiv b := by have := Int.mul_fdiv_add_fmod a b; omega
theorem gcd_fmod (a b : Int) : Int.gcd b (a.fmod b) = Int.gcd a b := by rw [fmod_eq, Int.gcd_sub_mul_left_right, Int.gcd_comm]
theorem fmod_neg_b {a b : Int} (h : b < 0) : b < a.fmod b ∧ a.fmod b ≤ 0 := ((Int.fdiv_fmod_unique' h).mp ⟨rfl, rfl⟩).2
theorem fmod_pos_b {a b : Int} (h : 0 < b) : 0 ≤ a.fmod b ∧ a.fmod b < b := ((Int.fdiv_fmod_unique h).mp ⟨rfl, rfl⟩).2
theorem fmod_abs {a b : Int} (h : b ≠ 0) : (a.fmod b).natAbs < b.natAbs := by
  rcases Int.lt_or_gt_of_ne h with h | h
  · have h1 := fmod_neg_b (a := a) h; omega
  · have h1 := fmod_pos_b (a := a) h; omega
def sp_law_gcd (K : PySem.W.Frag) : Sp := SpF (aCons cInt (aCons cInt aNil)) (fun _ => True) cInt (fun a => (Int.gcd a.1 a.2.1 : Int))
def t_law_gcd (K : PySem.W.Frag) : TS := tSeq (tWhile (tTest (tOp rNe (tVar 1) (tC (.int 0)))) (tPar 0 1 (tCons (tVar 1) (tCons (tOp oModX (tVar 0) (tVar 1)) tNil)))) (tRet (tCB rAbs (tCons (tVar 0) tNil)))
theorem rd_law_gcd (K : PySem.W.Frag) (a b : Int) : SW (rVal cInt) [.val cInt a, .val cInt b] (t_law_gcd K) (PF (Int.gcd a b : Int)) := by
  unfold t_law_gcd
  refine q_while (fun x : Int × Int => [.val cInt x.1, .val cInt x.2]) (fun x => Int.gcd x.1 x.2 = Int.gcd a b) (fun x => x.2.natAbs) (fun x => !decide (x.2 = 0)) (a, b) (Wk.refl _) rfl
    (fun x hx => (evT_test (ev_neI (ev_var rfl) ev_int))) (fun x hx hb => ?_) (fun x hx hb => ?_)
  · have h0 : x.2 ≠ 0 := by simpa using hb
    exact sw_par (ev_var rfl) (ev_modX (ev_var rfl) (ev_var rfl) h0) ⟨(x.2, x.1.fmod x.2), Wk.refl _, by simp only; rw [gcd_fmod]; exact hx, fmod_abs h0⟩
  · have h0 : x.2 = 0 := by simpa using hb
    refine sw_ret (ev_abs (ev_var rfl)) ?_
    show (x.1.natAbs : Int) = _
    rw [← hx, h0, Int.gcd_zero]
def sp_law_whole (K : PySem.W.Frag) : Sp := SpF (aCons cInt aNil) (fun _ => True) cBool (fun _ => true)
def t_law_whole (K : PySem.W.Frag) : TS := tRet (tAndV (tCB (rIsi K) (tCons (tVar 0) (tCons (tC (.ty "int")) tNil))) (tNotV (tCB (rIsi K) (tCons (tVar 0) (tCons (tC (.ty "bool")) tNil)))))
theorem rd_law_whole (K : PySem.W.Frag) (a : Int) : SW (rVal cBool) [.val cInt a] (t_law_whole K) (PF true) := by
  unfold t_law_whole
  exact sw_ret (ev_andV (ev_isiI (b := true) (ev_var rfl) (kit_ty (by decide +kernel))) fun h => (ev_notV (ev_isiI (b := false) (ev_var rfl) (kit_ty (by decide +kernel))))) rfl
def sp_law_cell (K : PySem.W.Frag) : Sp := SpF (aCons (cInts K) (aCons cInt aNil)) (fun _ => True) cInt (fun a => (cutD a.1 (some a.2.1) (some (a.2.1 + 1))).sum)
def t_law_cell (K : PySem.W.Frag) : TS := tRet (tCB (rSum K) (tCons (tSl (rSlL K) (tVar 0) (tPart (tVar 1)) (tPart (tOp oAdd (tVar 1) (tC (.int 1))))) tNil))
theorem rd_law_cell (K : PySem.W.Frag) (s : List Int) (i : Int) : SW (rVal cInt) [.val (cInts K) s, .val cInt i] (t_law_cell K) (PF (cutD s (some i) (some (i + 1))).sum) := by
  unfold t_law_cell
  exact sw_ret (ev_sum (evN_sl (ev_var rfl) (eo_some (ev_var rfl)) (eo_some (ev_add (ev_var rfl) ev_int))).ev) rfl
end Lw

/-! fractions: the tuple (num, den) of a Rat; divisor, fraction, plus, minus, times, over, under; the laws' own lowest, is_fraction, only -/
namespace Lw
open PySem L2 Pw
section
variable {K : PySem.W.Frag}
def cQ (K : PySem.W.Frag) : Cod Rat := cMap (cPair K cInt cInt) fun q => (q.num, (q.den : Int))
def dQ : CodD K (cQ K) := dMap (dPair dInt dInt) _ (fun p => Rat.divInt p.1 p.2) (fun b => Rat.num_divInt_den b) inferInstance
theorem ev_num {Γ : Gam} {te : TE} {q : Rat} (h : Ev Γ te (cQ K) q) : Ev Γ (tOp (rIxT K) te (tC (.int 0))) cInt q.num := ev_p0 (d := (q.num, (q.den : Int))) h
theorem ev_den {Γ : Gam} {te : TE} {q : Rat} (h : Ev Γ te (cQ K) q) : Ev Γ (tOp (rIxT K) te (tC (.int 1))) cInt (q.den : Int) := ev_p1 (d := (q.num, (q.den : Int))) h
theorem ev_lenQ {Γ : Gam} {te : TE} {q : Rat} (h : Ev Γ te (cQ K) q) : Ev Γ (tCB (rLenQ K) (tCons te tNil)) cInt 2 := ev_lenP (d := (q.num, (q.den : Int))) h
theorem ev_q {Γ : Gam} {ta tb : TE} {q : Rat} (h1 : Ev Γ ta cInt q.num) (h2 : Ev Γ tb cInt (q.den : Int)) : Ev Γ (tTup (tCons ta (tCons tb tNil))) (cQ K) q := ev_pair (K := K) h1 h2
theorem ev_qc {Γ : Gam} {i : Int} {q : Rat} (h : q = (i : Rat)) : Ev Γ (tTup (tCons (tC (.int i)) (tCons (tC (.int 1)) tNil))) (cQ K) q := by
  subst h; exact ev_q ev_int ev_int
end
/-- the share that top and bottom are divided by -/
def shr (a b : Int) : Int := if b < 0 then 0 - (Int.gcd a b : Int) else Int.gcd a b
theorem gcd_pos {a b : Int} (h : b ≠ 0) : 0 < (Int.gcd a b : Int) := by
  have := Int.gcd_pos_of_ne_zero_right a h; omega
theorem shr_ne {a b : Int} (h : b ≠ 0) : shr a b ≠ 0 := by
  have := gcd_pos (a := a) h; unfold shr; split <;> omega
theorem shr_le {a b : Int} (h : b ≠ 0) : (shr a b).natAbs ≤ b.natAbs := by
  have := Int.gcd_le_natAbs_right a h; unfold shr; split <;> omega
theorem fdiv_dvd {a d : Int} (h : d ∣ a) : a.fdiv d = a / d := by rw [Int.fdiv_eq_ediv_of_dvd h]
theorem low_num {a b : Int} (h : b ≠ 0) : a.fdiv (shr a b) = (Rat.divInt a b).num := by
  rw [Rat.num_divInt, Int.gcd_comm b a]
  have hg := gcd_pos (a := a) h
  unfold shr; split
  · rename_i hb
    rw [Int.sign_eq_neg_one_of_neg hb, Int.zero_sub, fdiv_dvd (Int.neg_dvd.mpr (Int.gcd_dvd_left a b)), Int.ediv_neg, Int.neg_mul, Int.one_mul, Int.neg_ediv_of_dvd (Int.gcd_dvd_left a b)]
  · rw [Int.sign_eq_one_of_pos (by omega), Int.one_mul, fdiv_dvd (Int.gcd_dvd_left a b)]
theorem low_den {a b : Int} (h : b ≠ 0) : b.fdiv (shr a b) = ((Rat.divInt a b).den : Int) := by
  rw [Rat.den_divInt, if_neg h, Int.gcd_comm b a]
  have hg := gcd_pos (a := a) h
  have hd := Int.gcd_dvd_right a b
  unfold shr; split
  · rename_i hb
    rw [Int.zero_sub, fdiv_dvd (Int.neg_dvd.mpr hd), Int.ediv_neg, Int.natCast_ediv, ← Int.neg_ediv_of_dvd hd]
    congr 1; omega
  · rw [fdiv_dvd hd, Int.natCast_ediv]; congr 1; omega
theorem divInt_num_le (a b : Int) : (Rat.divInt a b).num.natAbs ≤ a.natAbs := by
  by_cases h : b = 0
  · subst h; simp
  · rw [← low_num h]; exact Int.natAbs_fdiv_le_natAbs a _
theorem divInt_den_le {a b : Int} (h : b ≠ 0) : (Rat.divInt a b).den ≤ b.natAbs := by
  have e := low_den (a := a) h
  have := Int.natAbs_fdiv_le_natAbs b (shr a b)
  omega
/-- sizes of a fraction -/
def QB (n : Nat) (q : Rat) : Prop := Bt n q.num ∧ Bt n (q.den : Int)
theorem QB.wk {n m : Nat} {q : Rat} (h : QB n q) (k : n ≤ m) : QB m q := ⟨h.1.wk k, h.2.wk k⟩
theorem QB.divInt {n : Nat} {a b : Int} (ha : Bt n a) (hb : Bt n b) (h : b ≠ 0) : QB n (Rat.divInt a b) :=
  ⟨ha.le (divInt_num_le a b), hb.le (by have := divInt_den_le (a := a) h; omega)⟩
theorem q_add (x y : Rat) : x + y = Rat.divInt (x.num * y.den + y.num * x.den) ((x.den : Int) * y.den) := by
  rw [Rat.add_def', ← Rat.divInt_ofNat, Int.natCast_mul]
theorem q_sub (x y : Rat) : x - y = Rat.divInt (x.num * y.den - y.num * x.den) ((x.den : Int) * y.den) := by
  rw [Rat.sub_def', ← Rat.divInt_ofNat, Int.natCast_mul]
theorem q_mul (x y : Rat) : x * y = Rat.divInt (x.num * y.num) ((x.den : Int) * y.den) := by
  rw [Rat.mul_def', ← Rat.divInt_ofNat, Int.natCast_mul]
theorem q_div (x y : Rat) : x / y = Rat.divInt (x.num * y.den) (x.den * y.num) := by
  rw [Rat.div_def, Rat.inv_def]
  conv => lhs; lhs; rw [← Rat.num_divInt_den x]
  rw [Rat.divInt_mul_divInt]
theorem den_ne (q : Rat) : (q.den : Int) ≠ 0 := by have := q.den_pos; omega
theorem den_mul_ne (x y : Rat) : ((x.den : Int) * y.den) ≠ 0 := Int.mul_ne_zero (den_ne x) (den_ne y)
theorem QB.add {n m : Nat} {x y : Rat} (hx : QB n x) (hy : QB m y) : QB (n + m + 1) (x + y) := by
  rw [q_add]
  refine QB.divInt ?_ ((hx.2.mul hy.2).wk (by omega)) (den_mul_ne x y)
  have := (hx.1.mul hy.2).add ((hy.1.mul hx.2).wk (show m + n ≤ n + m by omega))
  rwa [Nat.max_self] at this
theorem QB.sub {n m : Nat} {x y : Rat} (hx : QB n x) (hy : QB m y) : QB (n + m + 1) (x - y) := by
  rw [q_sub]
  refine QB.divInt ?_ ((hx.2.mul hy.2).wk (by omega)) (den_mul_ne x y)
  have := (hx.1.mul hy.2).sub ((hy.1.mul hx.2).wk (show m + n ≤ n + m by omega))
  rwa [Nat.max_self] at this
theorem QB.mul {n m : Nat} {x y : Rat} (hx : QB n x) (hy : QB m y) : QB (n + m) (x * y) := by
  rw [q_mul]
  exact QB.divInt (hx.1.mul hy.1) (hx.2.mul hy.2) (den_mul_ne x y)
theorem QB.div {n m : Nat} {x y : Rat} (hx : QB n x) (hy : QB m y) (h : y ≠ 0) : QB (n + m) (x / y) := by
  rw [q_div]
  exact QB.divInt (hx.1.mul hy.2) (hx.2.mul hy.1) (Int.mul_ne_zero (den_ne x) (fun z => h (Rat.num_eq_zero.mp z)))
/-! ### the program's -/
def sp_divisor (K : PySem.W.Frag) : Sp := SpF (aCons cInt (aCons cInt aNil)) (fun _ => True) cInt (fun a => (Int.gcd a.1 a.2.1 : Int))
def t_divisor (K : PySem.W.Frag) : TS := tSeq (tWhile (tTest (tOp rNe (tVar 1) (tC (.int 0)))) (tPar 0 1 (tCons (tVar 1) (tCons (tOp oModX (tVar 0) (tVar 1)) tNil)))) (tRet (tCB rAbs (tCons (tVar 0) tNil)))
theorem rd_divisor (K : PySem.W.Frag) (a b : Int) : SW (rVal cInt) [.val cInt a, .val cInt b] (t_divisor K) (PF (Int.gcd a b : Int)) := rd_law_gcd K a b
def fracF (a b : Int) : Option Rat := if b = 0 then none else some (Rat.divInt a b)
def sp_fraction (K : PySem.W.Frag) (C : ExA) : Sp := SpX (aCons cInt (aCons cInt aNil)) (fun a => Bt 8900 a.2.1) (cQ K) (fun a => fracF a.1 a.2.1) C.NoNumber
def t_fraction (K : PySem.W.Frag) (C : ExA) (E : XK) : TS := tSeq (tIfS (tTest (tOp rEq (tVar 1) (tC (.int 0)))) (tRaise C.NoNumber E) tNext) (tSeq (tAsg (tCall (sp_divisor K) [] E0 (tCons (tVar 0) (tCons (tVar 1) tNil))) (gName 2)) (tSeq (tIfS (tTest (tOp oLt (tVar 1) (tC (.int 0)))) (tAsg (tOp oSub (tC (.int 0)) (tVar 2)) (gName 2)) tNext) (tRet (tTup (tCons (tOp oDivX (tVar 0) (tVar 2)) (tCons (tOp oDivX (tVar 1) (tVar 2)) tNil))))))
/-- lowest terms, by the share in slot 2 -/
theorem ev_low {Γ : Gam} {K : PySem.W.Frag} {a b : Int} (h : b ≠ 0) (hb : Bt 8900 b) (h0 : Γ[0]? = some (.val cInt a)) (h1 : Γ[1]? = some (.val cInt b)) (h2 : Γ[2]? = some (.val cInt (shr a b))) :
    Ev Γ (tTup (tCons (tOp oDivX (tVar 0) (tVar 2)) (tCons (tOp oDivX (tVar 1) (tVar 2)) tNil))) (cQ K) (Rat.divInt a b) := by
  have hs : Bt 8900 (shr a b) := hb.le (shr_le h)
  exact ev_q (ev_is (ev_divX 8900 (ev_var h0) (ev_var h2) (shr_ne h) hs) (low_num h)) (ev_is (ev_divX 8900 (ev_var h1) (ev_var h2) (shr_ne h) hs) (low_den h))
theorem rd_fraction (K : PySem.W.Frag) (C : ExA) (E : XK) (a b : Int) (hb : Bt 8900 b) : SW (rVal (cQ K)) [.val cInt a, .val cInt b, .any] (t_fraction K C E) (PX (fracF a b) C.NoNumber E) := by
  unfold t_fraction
  refine q_when (evT_test (ev_eqI (ev_var rfl) ev_int)) (fun hc => ?_) (fun hc => ?_)
  · exact sw_raise rfl ⟨rfl, by unfold fracF; rw [if_pos (of_decide_eq_true hc)]⟩
  have hc := of_decide_eq_false hc
  refine q_asg' (ev_call (ea_cons (ev_var rfl) (ea_cons (ev_var rfl) ea_nil)) trivial) ?_
  refine q_join [.val cInt a, .val cInt b, .val cInt (shr a b)] ?_ ?_
  · refine sw_when (evT_test (ev_lt (ev_var rfl) ev_int)) (fun hd => ?_) (fun hd => ?_)
    · exact sw_asg (ev_is (ev_sub ev_int (ev_var rfl)) (by unfold shr; rw [if_pos (of_decide_eq_true hd)])) (Wk.refl _)
    · rw [show shr a b = Int.gcd a b by unfold shr; rw [if_neg (of_decide_eq_false hd)]]; exact Wk.refl _
  exact sw_ret (ev_low hc hb rfl rfl rfl) (by show fracF a b = _; unfold fracF; rw [if_neg hc])
theorem ev_frac {Γ : Gam} {K : PySem.W.Frag} {C : ExA} {ta tb : TE} {E : XK} {a b : Int} (h1 : Ev Γ ta cInt a) (h2 : Ev Γ tb cInt b) (hb : b ≠ 0) (hB : Bt 8900 b) : Ev Γ (tCall (sp_fraction K C) [] E (tCons ta (tCons tb tNil))) (cQ K) (Rat.divInt a b) :=
  ev_callX (ea_cons h1 (ea_cons h2 ea_nil)) hB (by simp only [fracF]; rw [if_neg hb])
abbrev aQQ (K : PySem.W.Frag) := aCons (cQ K) (aCons (cQ K) aNil)
abbrev preQ (a : Rat × Rat × Unit) : Prop := QB 4000 a.1 ∧ QB 4000 a.2.1
def sp_plus (K : PySem.W.Frag) : Sp := SpF (aQQ K) preQ (cQ K) (fun a => a.1 + a.2.1)
def sp_minus (K : PySem.W.Frag) : Sp := SpF (aQQ K) preQ (cQ K) (fun a => a.1 - a.2.1)
def sp_times (K : PySem.W.Frag) : Sp := SpF (aQQ K) preQ (cQ K) (fun a => a.1 * a.2.1)
def overF (x y : Rat) : Option Rat := if y = 0 then none else some (x / y)
def sp_over (K : PySem.W.Frag) (C : ExA) : Sp := SpX (aQQ K) preQ (cQ K) (fun a => overF a.1 a.2.1) C.NoNumber
def sp_under (K : PySem.W.Frag) : Sp := SpF (aQQ K) preQ cBool (fun a => decide (a.1 < a.2.1))
def t_plus (K : PySem.W.Frag) (C : ExA) : TS := tRet (tCall (sp_fraction K C) [] E0 (tCons (tOp oAdd (tOp oMul (tOp (rIxT K) (tVar 0) (tC (.int 0))) (tOp (rIxT K) (tVar 1) (tC (.int 1)))) (tOp oMul (tOp (rIxT K) (tVar 1) (tC (.int 0))) (tOp (rIxT K) (tVar 0) (tC (.int 1))))) (tCons (tOp oMul (tOp (rIxT K) (tVar 0) (tC (.int 1))) (tOp (rIxT K) (tVar 1) (tC (.int 1)))) tNil)))
def t_minus (K : PySem.W.Frag) (C : ExA) : TS := tRet (tCall (sp_fraction K C) [] E0 (tCons (tOp oSub (tOp oMul (tOp (rIxT K) (tVar 0) (tC (.int 0))) (tOp (rIxT K) (tVar 1) (tC (.int 1)))) (tOp oMul (tOp (rIxT K) (tVar 1) (tC (.int 0))) (tOp (rIxT K) (tVar 0) (tC (.int 1))))) (tCons (tOp oMul (tOp (rIxT K) (tVar 0) (tC (.int 1))) (tOp (rIxT K) (tVar 1) (tC (.int 1)))) tNil)))
def t_times (K : PySem.W.Frag) (C : ExA) : TS := tRet (tCall (sp_fraction K C) [] E0 (tCons (tOp oMul (tOp (rIxT K) (tVar 0) (tC (.int 0))) (tOp (rIxT K) (tVar 1) (tC (.int 0)))) (tCons (tOp oMul (tOp (rIxT K) (tVar 0) (tC (.int 1))) (tOp (rIxT K) (tVar 1) (tC (.int 1)))) tNil)))
def t_over (K : PySem.W.Frag) (C : ExA) (E : XK) : TS := tSeq (tIfS (tTest (tOp rEq (tOp (rIxT K) (tVar 1) (tC (.int 0))) (tC (.int 0)))) (tRaise C.NoNumber E) tNext) (tRet (tCall (sp_fraction K C) [] E0 (tCons (tOp oMul (tOp (rIxT K) (tVar 0) (tC (.int 0))) (tOp (rIxT K) (tVar 1) (tC (.int 1)))) (tCons (tOp oMul (tOp (rIxT K) (tVar 0) (tC (.int 1))) (tOp (rIxT K) (tVar 1) (tC (.int 0)))) tNil))))
def t_under (K : PySem.W.Frag) : TS := tRet (tOp oLt (tOp oMul (tOp (rIxT K) (tVar 0) (tC (.int 0))) (tOp (rIxT K) (tVar 1) (tC (.int 1)))) (tOp oMul (tOp (rIxT K) (tVar 1) (tC (.int 0))) (tOp (rIxT K) (tVar 0) (tC (.int 1)))))
section
variable (K : PySem.W.Frag) (C : ExA) (E : XK) (x y : Rat) (hx : QB 4000 x) (hy : QB 4000 y)
include hx hy
theorem rd_plus : SW (rVal (cQ K)) [.val (cQ K) x, .val (cQ K) y] (t_plus K C) (PF (x + y)) := by
  unfold t_plus
  refine sw_ret (ev_frac (ev_add (ev_mul 4000 4000 (ev_num (ev_var rfl)) (ev_den (ev_var rfl)) hx.1 hy.2) (ev_mul 4000 4000 (ev_num (ev_var rfl)) (ev_den (ev_var rfl)) hy.1 hx.2)) (ev_mul 4000 4000 (ev_den (ev_var rfl)) (ev_den (ev_var rfl)) hx.2 hy.2) (den_mul_ne x y) ((hx.2.mul hy.2).wk (by decide))) (q_add x y).symm
theorem rd_minus : SW (rVal (cQ K)) [.val (cQ K) x, .val (cQ K) y] (t_minus K C) (PF (x - y)) := by
  unfold t_minus
  refine sw_ret (ev_frac (ev_sub (ev_mul 4000 4000 (ev_num (ev_var rfl)) (ev_den (ev_var rfl)) hx.1 hy.2) (ev_mul 4000 4000 (ev_num (ev_var rfl)) (ev_den (ev_var rfl)) hy.1 hx.2)) (ev_mul 4000 4000 (ev_den (ev_var rfl)) (ev_den (ev_var rfl)) hx.2 hy.2) (den_mul_ne x y) ((hx.2.mul hy.2).wk (by decide))) (q_sub x y).symm
theorem rd_times : SW (rVal (cQ K)) [.val (cQ K) x, .val (cQ K) y] (t_times K C) (PF (x * y)) := by
  unfold t_times
  refine sw_ret (ev_frac (ev_mul 4000 4000 (ev_num (ev_var rfl)) (ev_num (ev_var rfl)) hx.1 hy.1) (ev_mul 4000 4000 (ev_den (ev_var rfl)) (ev_den (ev_var rfl)) hx.2 hy.2) (den_mul_ne x y) ((hx.2.mul hy.2).wk (by decide))) (q_mul x y).symm
theorem rd_over : SW (rVal (cQ K)) [.val (cQ K) x, .val (cQ K) y] (t_over K C E) (PX (overF x y) C.NoNumber E) := by
  unfold t_over
  refine q_when (evT_test (ev_eqI (ev_num (ev_var rfl)) ev_int)) (fun hc => ?_) (fun hc => ?_)
  · exact sw_raise rfl ⟨rfl, by unfold overF; rw [if_pos (Rat.num_eq_zero.mp (of_decide_eq_true hc))]⟩
  have hn : y.num ≠ 0 := of_decide_eq_false hc
  refine sw_ret (ev_frac (ev_mul 4000 4000 (ev_num (ev_var rfl)) (ev_den (ev_var rfl)) hx.1 hy.2) (ev_mul 4000 4000 (ev_den (ev_var rfl)) (ev_num (ev_var rfl)) hx.2 hy.1) (Int.mul_ne_zero (den_ne x) hn) ((hx.2.mul hy.1).wk (by decide))) ?_
  show overF x y = _
  unfold overF; rw [if_neg (fun z => hn (Rat.num_eq_zero.mpr z)), q_div]
theorem rd_under : SW (rVal cBool) [.val (cQ K) x, .val (cQ K) y] (t_under K) (PF (decide (x < y))) := by
  unfold t_under
  refine sw_ret (ev_lt (ev_mul 4000 4000 (ev_num (ev_var rfl)) (ev_den (ev_var rfl)) hx.1 hy.2) (ev_mul 4000 4000 (ev_num (ev_var rfl)) (ev_den (ev_var rfl)) hy.1 hx.2)) ?_
  exact decide_eq_decide.mpr (Rat.lt_iff x y).symm
end
section
variable {Γ : Gam} {K : PySem.W.Frag} {C : ExA} {ta tb : TE} {E : XK} {x y : Rat} (h1 : Ev Γ ta (cQ K) x) (h2 : Ev Γ tb (cQ K) y) (hx : QB 4000 x) (hy : QB 4000 y)
include h1 h2 hx hy
theorem ev_plus : Ev Γ (tCall (sp_plus K) [] E (tCons ta (tCons tb tNil))) (cQ K) (x + y) := ev_call (ea_cons h1 (ea_cons h2 ea_nil)) ⟨hx, hy⟩
theorem ev_minus : Ev Γ (tCall (sp_minus K) [] E (tCons ta (tCons tb tNil))) (cQ K) (x - y) := ev_call (ea_cons h1 (ea_cons h2 ea_nil)) ⟨hx, hy⟩
theorem ev_times : Ev Γ (tCall (sp_times K) [] E (tCons ta (tCons tb tNil))) (cQ K) (x * y) := ev_call (ea_cons h1 (ea_cons h2 ea_nil)) ⟨hx, hy⟩
theorem ev_over (h : y ≠ 0) : Ev Γ (tCall (sp_over K C) [] E (tCons ta (tCons tb tNil))) (cQ K) (x / y) := ev_callX (ea_cons h1 (ea_cons h2 ea_nil)) ⟨hx, hy⟩ (by simp only [overF]; rw [if_neg h])
theorem ev_under : Ev Γ (tCall (sp_under K) [] E (tCons ta (tCons tb tNil))) cBool (decide (x < y)) := ev_call (ea_cons h1 (ea_cons h2 ea_nil)) ⟨hx, hy⟩
end
/-! ### the laws' own -/
def sp_law_is_fraction (K : PySem.W.Frag) : Sp := SpF (aCons (cQ K) aNil) (fun _ => True) cBool (fun _ => true)
def t_law_is_fraction (K : PySem.W.Frag) : TS := tSeq (tIfS (tOr (tNot (tB (tCB (rIsi K) (tCons (tVar 0) (tCons (tC (.ty "tuple")) tNil))))) (tOr (tTest (tOp rNe (tCB (rLenQ K) (tCons (tVar 0) tNil)) (tC (.int 2)))) (tOr (tNot (tB (tCall (sp_law_whole K) [] E0 (tCons (tOp (rIxT K) (tVar 0) (tC (.int 0))) tNil)))) (tNot (tB (tCall (sp_law_whole K) [] E0 (tCons (tOp (rIxT K) (tVar 0) (tC (.int 1))) tNil))))))) (tRet (tC (.bl false))) tNext) (tRet (tAndV (tOp oGt (tOp (rIxT K) (tVar 0) (tC (.int 1))) (tC (.int 0))) (tOp rEq (tCall (sp_law_gcd K) [] E0 (tCons (tOp (rIxT K) (tVar 0) (tC (.int 0))) (tCons (tOp (rIxT K) (tVar 0) (tC (.int 1))) tNil))) (tC (.int 1)))))
theorem rd_law_is_fraction (K : PySem.W.Frag) (x : Rat) : SW (rVal cBool) [.val (cQ K) x] (t_law_is_fraction K) (PF true) := by
  unfold t_law_is_fraction
  refine q_when (evT_or (evT_not (evT_B (ev_isiM (b := true) (d := x) (ev_var rfl) (kit_ty (by decide +kernel))))) fun h => (evT_or (evT_test (ev_neI (ev_lenQ (ev_var rfl)) ev_int)) fun h => (evT_or (evT_not (evT_B (ev_call (ea_cons (ev_num (ev_var rfl)) ea_nil) trivial))) fun h => (evT_not (evT_B (ev_call (ea_cons (ev_den (ev_var rfl)) ea_nil) trivial)))))) (fun hb => ?_) (fun hb => ?_)
  · simp at hb
  refine sw_ret (ev_andV (ev_gt (ev_den (ev_var rfl)) ev_int) fun h => (ev_eqI (ev_call (ea_cons (ev_num (ev_var rfl)) (ea_cons (ev_den (ev_var rfl)) ea_nil)) trivial) ev_int)) ?_
  show _ = true
  rw [Bool.and_eq_true, decide_eq_true_eq, decide_eq_true_eq]
  refine ⟨by have := x.den_pos; omega, ?_⟩
  have := x.reduced
  unfold Nat.Coprime at this
  show ((Int.gcd x.num x.den : Nat) : Int) = 1
  rw [show Int.gcd x.num x.den = Nat.gcd x.num.natAbs x.den from rfl, this]; rfl
def sp_law_lowest (K : PySem.W.Frag) : Sp := SpF (aCons cInt (aCons cInt aNil)) (fun a => a.2.1 ≠ 0 ∧ Bt 8900 a.2.1) (cQ K) (fun a => Rat.divInt a.1 a.2.1)
def t_law_lowest (K : PySem.W.Frag) : TS := tSeq (tAsg (tCall (sp_law_gcd K) [] E0 (tCons (tVar 0) (tCons (tVar 1) tNil))) (gName 2)) (tSeq (tIfS (tTest (tOp oLt (tVar 1) (tC (.int 0)))) (tAsg (tOp oSub (tC (.int 0)) (tVar 2)) (gName 2)) tNext) (tRet (tTup (tCons (tOp oDivX (tVar 0) (tVar 2)) (tCons (tOp oDivX (tVar 1) (tVar 2)) tNil)))))
theorem rd_law_lowest (K : PySem.W.Frag) (a b : Int) (hc : b ≠ 0) (hb : Bt 8900 b) : SW (rVal (cQ K)) [.val cInt a, .val cInt b, .any] (t_law_lowest K) (PF (Rat.divInt a b)) := by
  unfold t_law_lowest
  refine q_asg' (ev_call (ea_cons (ev_var rfl) (ea_cons (ev_var rfl) ea_nil)) trivial) ?_
  refine q_join [.val cInt a, .val cInt b, .val cInt (shr a b)] ?_ ?_
  · refine sw_when (evT_test (ev_lt (ev_var rfl) ev_int)) (fun hd => ?_) (fun hd => ?_)
    · exact sw_asg (ev_is (ev_sub ev_int (ev_var rfl)) (by unfold shr; rw [if_pos (of_decide_eq_true hd)])) (Wk.refl _)
    · rw [show shr a b = Int.gcd a b by unfold shr; rw [if_neg (of_decide_eq_false hd)]]; exact Wk.refl _
  exact sw_ret (ev_low hc hb rfl rfl rfl) rfl
/-! ### an error's class -/
def sp_law_only (K : PySem.W.Frag) (C : ExA) (D : Addr) (i : Int) : Sp := SpF (aCons cExc (aCons cInt aNil)) (fun a => a.1 = D) cBool (fun a => decide (sortL i = sortL a.2.1))
def t_law_only (K : PySem.W.Frag) (C : ExA) : TS := tSeq (tAsg (tLst (tCons (tCB (rIsX K) (tCons (tVar 0) (tCons (tC (.ref C.NoNumber)) tNil))) (tCons (tCB (rIsX K) (tCons (tVar 0) (tCons (tC (.ref C.NoRow)) tNil))) (tCons (tCB (rIsX K) (tCons (tVar 0) (tCons (tC (.ref C.NoValue)) tNil))) (tCons (tCB (rIsX K) (tCons (tVar 0) (tCons (tC (.ref C.NoText)) tNil))) tNil))))) (gName 2)) (tSeq (tAsg (tOp rCat (tVar 2) (tLst (tCons (tCB (rIsX K) (tCons (tVar 0) (tCons (tC (.ref C.NoRoot)) tNil))) (tCons (tCB (rIsX K) (tCons (tVar 0) (tCons (tC (.ref C.TooFar)) tNil))) (tCons (tCB (rIsX K) (tCons (tVar 0) (tCons (tC (.ref C.NoLine)) tNil))) tNil))))) (gName 2)) (tRet (tAndV (tCB (rIsX K) (tCons (tVar 0) (tCons (tC (.ty "ValueError")) tNil))) (tOp (rEqD K) (tVar 2) (tLc (iRng1 (tCons (tC (.int 7)) tNil)) (gName 3) tYes (tOp rEq (tVar 3) (tVar 1)) [3])))))
theorem rd_law_only (K : PySem.W.Frag) (C : ExA) {D : Addr} {i : Int} (X : ExD K C D i) (j : Int) : SW (rVal cBool) [.val cExc D, .val cInt j, .any, .any] (t_law_only K C) (PF (decide (sortL i = sortL j))) := by
  unfold t_law_only
  refine q_asgN' (evN_lst (el_cons (ev_isXr (ev_var rfl) X.c X.k0) (el_cons (ev_isXr (ev_var rfl) X.c X.k1) (el_cons (ev_isXr (ev_var rfl) X.c X.k2) (el_cons (ev_isXr (ev_var rfl) X.c X.k3) el_nil)))) (by simp)) ?_
  refine q_asgN' (evN_catO rfl (evN_lst (el_cons (ev_isXr (ev_var rfl) X.c X.k4) (el_cons (ev_isXr (ev_var rfl) X.c X.k5) (el_cons (ev_isXr (ev_var rfl) X.c X.k6) el_nil))) (by simp)) (by simp)) ?_
  refine sw_freeze K 2 rfl ?_
  refine sw_ret (ev_andV (ev_isXt (ev_var rfl) X.c X.v) fun h => ev_eqD (dList dBool) (Nat.le_of_ble_eq_true rfl) (ev_var rfl) (evN_lcR1 (c2 := cBool) ev_int (fun n => decide ((n : Int) = j)) (by decide) (by decide) wipe1 fun n hn => ev_eqI (ev_var rfl) (ev_var rfl)).ev) ?_
  show (true && decide _) = decide _
  rw [Bool.true_and]
  exact decide_eq_decide.mpr Iff.rfl
end Lw

/-! values of expressions -/
namespace Xp
open PySem L2 Pw Lw
abbrev Pt := List (T × Rat)
def putT (s : Nat) (a b : Rat) : Option Rat := if s = 43 then some (a + b) else if s = 45 then some (a - b) else if s = 42 then some (a * b) else if b = 0 then none else some (a / b)
def valF (pt : Pt) : Ep → Option Rat
  | .num n => some (n : Rat)
  | .name w => lkD pt w
  | .two s l r => (both (valF pt l) (valF pt r)).bind fun p => putT s p.1 p.2
  | .pow b n => (valF pt b).map fun q => q ^ n
  | .less e => (valF pt e).map fun q => 0 - q
/-- every value within is of a size that the program's fractions bear -/
def VB (pt : Pt) : Ep → Prop
  | .num n => QB 4000 (n : Rat)
  | .name w => ∀ q, lkD pt w = some q → QB 4000 q
  | .two s l r => VB pt l ∧ VB pt r ∧ ∀ q, valF pt (.two s l r) = some q → QB 4000 q
  | .pow b n => VB pt b ∧ ∀ q, valF pt b = some q → ∀ i, i ≤ n → QB 4000 (q ^ i)
  | .less e => VB pt e
theorem QB_neg {n : Nat} {q : Rat} (h : QB n q) : QB n (0 - q) := by
  have e : (0 : Rat) - q = -q := by rw [Rat.sub_eq_add_neg, Rat.zero_add]
  rw [e]
  refine ⟨?_, ?_⟩
  · have := h.1; rw [Rat.neg_num]; unfold Bt at this ⊢; rw [Int.natAbs_neg]; exact this
  · have := h.2; rw [Rat.neg_den]; exact this
theorem VB_val {pt : Pt} : ∀ {e : Ep} {q : Rat}, VB pt e → valF pt e = some q → QB 4000 q
  | .num n, q, h, e => by cases e; exact h
  | .name w, q, h, e => h q e
  | .two s l r, q, h, e => h.2.2 q e
  | .pow b n, q, h, e => by
    have e' : (valF pt b).map (fun q => q ^ n) = some q := e
    obtain ⟨v, hv, rfl⟩ := Option.map_eq_some_iff.mp e'
    exact h.2 v hv n (Nat.le_refl _)
  | .less b, q, h, e => by
    have e' : (valF pt b).map (fun q => 0 - q) = some q := e
    obtain ⟨v, hv, rfl⟩ := Option.map_eq_some_iff.mp e'
    exact QB_neg (VB_val (e := b) h hv)
theorem VB_spine {pt : Pt} : ∀ {e : Ep}, VB pt e → VB pt (spineF e).1 ∧ ∀ d ∈ (spineF e).2, VB pt d
  | .two s l r, h => by
    obtain ⟨h1, h2⟩ := VB_spine (e := l) h.1
    refine ⟨h1, fun d hd => ?_⟩
    rcases List.mem_append.mp hd with hd | hd
    · exact h2 d hd
    · obtain rfl := List.mem_singleton.mp hd; exact h
  | .num _, h => ⟨h, fun d hd => by simp [spineF] at hd⟩
  | .name _, h => ⟨h, fun d hd => by simp [spineF] at hd⟩
  | .pow _ _, h => ⟨h, fun d hd => by simp [spineF] at hd⟩
  | .less _, h => ⟨h, fun d hd => by simp [spineF] at hd⟩
theorem VB_lessN {pt : Pt} (e : Ep) : ∀ m, VB pt (lessN m e) ↔ VB pt e
  | 0 => Iff.rfl
  | m + 1 => VB_lessN e m
/-- how deep calls go -/
def dd : Ep → Nat × Nat
  | .num _ => (1, 1)
  | .name _ => (1, 1)
  | .two _ l r => (max (dd l).1 (dd r).2, max (dd l).1 (dd r).2 + 1)
  | .pow b _ => ((dd b).2 + 1, (dd b).2 + 1)
  | .less e => ((dd e).2 + 1, (dd e).2 + 1)
def dep (e : Ep) : Nat := (dd e).2
theorem dd_le : ∀ e : Ep, 1 ≤ (dd e).1 ∧ (dd e).1 ≤ (dd e).2 ∧ (dd e).2 ≤ size e
  | .num _ => by simp [dd, size]
  | .name _ => by simp [dd, size]
  | .two _ l r => by have := dd_le l; have := dd_le r; simp [dd, size]; omega
  | .pow b _ => by have := dd_le b; simp [dd, size]; omega
  | .less e => by have := dd_le e; simp [dd, size]; omega
theorem dep_spine : ∀ e : Ep, dep (spineF e).1 ≤ (dd e).1 ∧ ∀ d ∈ (spineF e).2, ∀ s l r, d = .two s l r → dep r ≤ (dd e).1
  | .two s l r => by
    obtain ⟨h1, h2⟩ := dep_spine l
    refine ⟨by show dep (spineF l).1 ≤ max _ _; omega, fun d hd => ?_⟩
    rcases List.mem_append.mp hd with hd | hd
    · intro s' l' r' e; have := h2 d hd s' l' r' e; show dep r' ≤ max _ _; omega
    · obtain rfl := List.mem_singleton.mp hd
      intro s' l' r' e; cases e; show dep r ≤ max _ _; unfold dep; omega
  | .num _ => ⟨Nat.le_refl _, fun d hd => by simp [spineF] at hd⟩
  | .name _ => ⟨Nat.le_refl _, fun d hd => by simp [spineF] at hd⟩
  | .pow _ _ => ⟨Nat.le_refl _, fun d hd => by simp [spineF] at hd⟩
  | .less _ => ⟨Nat.le_refl _, fun d hd => by simp [spineF] at hd⟩
theorem dep_lessN (e : Ep) : ∀ m, dep e + m ≤ dep (lessN m e)
  | 0 => Nat.le_refl _
  | m + 1 => by have := dep_lessN e m; show dep e + (m + 1) ≤ dep (lessN m e) + 1; omega
theorem val_lessN (pt : Pt) (e : Ep) : ∀ m, valF pt (lessN m e) = (valF pt e).map fun q => if m % 2 = 1 then 0 - q else q
  | 0 => by show valF pt e = _; cases valF pt e <;> rfl
  | m + 1 => by
    show (valF pt (lessN m e)).map (fun q => 0 - q) = _
    rw [val_lessN pt e m, Option.map_map]
    congr 1
    funext q
    show 0 - (if m % 2 = 1 then 0 - q else q) = _
    by_cases h : m % 2 = 1
    · rw [if_pos h, if_neg (by omega)]
      rw [Rat.sub_eq_add_neg, Rat.zero_add, Rat.sub_eq_add_neg, Rat.zero_add, Rat.neg_neg]
    · rw [if_neg h, if_pos (by omega)]
end Xp

/-! the laws' own helpers: numbers, names, trees, texts -/
namespace Lw.X
open PySem PySem.Spec PyProof.Rows L2 Pw Xp
def cE4 (K : PySem.W.Frag) : Cod Ep := cMap (cLT K) lt
theorem ev_lt4 {K : PySem.W.Frag} {Γ : Gam} {te : TE} {e : Ep} (h : Ev Γ te (cE4 K) e) : Ev Γ te (cLT K) (lt e) := h
theorem ev_lt4I {K : PySem.W.Frag} {Γ : Gam} {te : TE} {e : Ep} {p : LT} (h : Ev Γ te (cLT K) p) (hp : p = lt e) : Ev Γ te (cE4 K) e := by subst hp; exact h
/-! ### numbers -/
def sp_law_numbers (K : PySem.W.Frag) : Sp := SpN (aCons (cInts K) (aCons cInt (aCons cInt aNil))) (fun a => ∃ k n : Nat, a.2.1 = k ∧ a.2.2.1 = n ∧ n ≤ 100) cInt (fun a => numsF a.1 a.2.1.toNat a.2.2.1.toNat)
def t_law_numbers (K : PySem.W.Frag) : TS := tSeq (tAsg (tC (.int 0)) (gName 3)) (tSeq (tIfS (tTest (tOp oLt (tVar 1) (tCB (rLenQ K) (tCons (tVar 0) tNil)))) (tAsg (tOp (rIxL K) (tVar 0) (tVar 1)) (gName 3)) tNext) (tSeq (tAsg (tC (.int 0)) (gName 4)) (tSeq (tIfS (tOr (tTest (tOp oLt (tVar 3) (tC (.int 0)))) (tTest (tOp oGe (tVar 3) (tOp oPow (tC (.int 10)) (tC (.int 18)))))) (tAsg (tCB rAbs (tCons (tVar 3) tNil)) (gName 4)) tNext) (tSeq (tAsg (tOp oMod (tVar 3) (tC (.int 2147483647))) (gName 5)) (tSeq (tAsg (tLst tNil) (gName 6)) (tSeq (tFor (iRng1 (tCons (tVar 2) tNil)) (gName 7) (tSeq (tAsg (tOp oMod (tOp oAdd (tOp oAdd (tOp oMul (tVar 5) (tC (.int 39373))) (tOp oMul (tOp oMul (tC (.int 7561)) (tVar 7)) (tVar 7))) (tC (.int 1013904223))) (tC (.int 2147483647))) (gName 5)) (tIfS (tTest (tOp oGt (tVar 4) (tC (.int 0)))) (tSeq (tDrop (tBM K "list" rAppend (tVar 6) (tCons (tOp oMod (tVar 4) (tOp oPow (tC (.int 10)) (tC (.int 6)))) tNil))) (tAsg (tOp oDivX (tVar 4) (tOp oPow (tC (.int 10)) (tC (.int 6)))) (gName 4))) (tDrop (tBM K "list" rAppend (tVar 6) (tCons (tOp oMod (tOp oMod (tOp oMul (tVar 5) (tC (.int 65539))) (tC (.int 998244353))) (tOp oPow (tC (.int 10)) (tC (.int 6)))) tNil)))))) (tRet (tVar 6))))))))
theorem rd_law_numbers (K : PySem.W.Frag) (s : List Int) (k n : Nat) (hn : n ≤ 100) : SW (rNew cInt) [.val (cInts K) s, .val cInt (k : Int), .val cInt (n : Int), .any, .any, .any, .any, .any] (t_law_numbers K) (PF (numsF s k n)) := by
  unfold t_law_numbers
  have hc : ∃ c, c = s.getD k 0 := ⟨_, rfl⟩
  obtain ⟨c, hc⟩ := hc
  have hr : ∃ r, r = restN c := ⟨_, rfl⟩
  obtain ⟨r, hr⟩ := hr
  refine q_asg' ev_int ?_
  refine q_join [.val (cInts K) s, .val cInt (k : Int), .val cInt (n : Int), .val cInt c, .any, .any, .any, .any] ?_ ?_
  · refine sw_when (evT_test (ev_lt (ev_var rfl) (ev_len (ev_var rfl)))) (fun hb => ?_) (fun hb => ?_)
    · have hb := of_decide_eq_true hb
      refine sw_asg (ev_is (ev_ixG 0 (ev_var rfl) (ev_var rfl) ⟨by omega, hb⟩) (d' := c) (by rw [hc, Int.toNat_natCast])) (Wk.refl _)
    · have hb := of_decide_eq_false hb
      have : c = 0 := by rw [hc, List.getD_eq_getElem?_getD, List.getElem?_eq_none (by omega)]; rfl
      rw [this]; exact Wk.refl _
  refine q_asg' ev_int ?_
  refine q_join [.val (cInts K) s, .val cInt (k : Int), .val cInt (n : Int), .val cInt c, .val cInt r, .any, .any, .any] ?_ ?_
  · refine sw_when (evT_or (evT_test (ev_lt (ev_var rfl) ev_int)) fun _ => evT_test (ev_ge (ev_var rfl) (ev_powL (r := 1000000000000000000) (by decide)))) (fun hb => ?_) (fun hb => ?_)
    · simp only [Bool.or_eq_true, decide_eq_true_eq] at hb
      exact sw_asg (ev_is (ev_abs (ev_var rfl)) (d' := r) (by rw [hr]; unfold restN; rw [if_pos hb])) (Wk.refl _)
    · simp only [Bool.or_eq_false_iff, decide_eq_false_iff_not] at hb
      have : r = 0 := by rw [hr]; unfold restN; rw [if_neg (by intro z; rcases z with z | z; exact hb.1 z; exact hb.2 z)]
      rw [this]; exact Wk.refl _
  refine q_asg' (ev_mod (ev_var rfl) ev_int (by decide)) ?_
  refine q_asgN (c := cInt) (evN_lst el_nil (by simp)) (fun xs hx => ?_)
  subst hx
  refine q_forR1G (fun i => [.val (cInts K) s, .val cInt (k : Int), .val cInt (n : Int), .val cInt c, .val cInt (nrun c i).2.1, .val cInt (nrun c i).1, .own cInt (nrun c i).2.2, .any]) (ev_var rfl) (by omega) (by omega) ?_ (fun i hi => ?_) ?_
  · show Wk _ [_, _, _, _, .val cInt (restN c), _, _, _]
    rw [← hr]; exact Wk.refl _
  · obtain ⟨h1, h2, h3, h4⟩ := nrun_ok c i
    generalize hst : nrun c i = st at h1 h2 h3 h4 ⊢
    have hi' : i < 100 := by omega
    refine q_asg' (ev_is (ev_mod (ev_add (ev_add (ev_mulS (ev_var rfl) ev_int (by omega) (by omega)) (ev_mulS (ev_mulS ev_int (ev_var rfl) (by omega) (by omega)) (ev_var rfl) (by omega) (by omega))) ev_int) ev_int (by decide)) (d' := (nstep st i).1) ?_) ?_
    · unfold nstep; dsimp only; split <;> rfl
    have hnx : nrun c (i + 1) = nstep st i := by rw [nrun_succ, hst]
    have hm : 0 ≤ (nstep st i).1 ∧ (nstep st i).1 < 2147483647 := by have := (nrun_ok c (i + 1)).1; rw [hnx] at this; exact this
    refine sw_if (evT_test (ev_gt (ev_var rfl) ev_int)) (fun hb => ?_) (fun hb => ?_)
    · have hb := of_decide_eq_true hb
      have e1 : nstep st i = ((nstep st i).1, st.2.1.fdiv 1000000, st.2.2 ++ [st.2.1 % 1000000]) := by unfold nstep; dsimp only; rw [if_pos hb]
      refine q_app (c := cInt) rfl (ev_mod (ev_var rfl) (ev_powL (r := 1000000) (by decide)) (by decide)) (by omega) ?_
      refine sw_asg (ev_divX 8000 (ev_var rfl) (ev_powL (r := 1000000) (by decide)) (by decide) (by unfold Bt; exact Nat.lt_of_lt_of_le (show (1000000 : Int).natAbs < 2 ^ 20 by decide) (Nat.pow_le_pow_right (by decide) (by decide)))) ?_
      rw [hnx, e1]; exact .same (.same (.same (.same (.same (.same (.same (.any .nil)))))))
    · have hb := of_decide_eq_false hb
      have e1 : nstep st i = ((nstep st i).1, st.2.1, st.2.2 ++ [(nstep st i).1 * 65539 % 998244353 % 1000000]) := by unfold nstep; dsimp only; rw [if_neg hb]
      refine sw_app (c := cInt) rfl (ev_mod (ev_mod (ev_mulS (ev_var rfl) ev_int (by omega) (by omega)) ev_int (by decide)) (ev_powL (r := 1000000) (by decide)) (by decide)) (by omega) ?_
      rw [hnx]
      have e2 : (nstep st i).2.1 = st.2.1 := by rw [e1]
      have e3 : (nstep st i).2.2 = st.2.2 ++ [(nstep st i).1 * 65539 % 998244353 % 1000000] := by rw [e1]
      show Wk _ [_, _, _, _, .val cInt (nstep st i).2.1, .val cInt (nstep st i).1, .own cInt (nstep st i).2.2, .any]
      rw [e2, e3]; exact .same (.same (.same (.same (.same (.same (.same (.any .nil)))))))
  · rw [Int.toNat_natCast]
    refine sw_retO (c := cInt) rfl ?_
    show _ = numsF s k n
    unfold numsF; rw [hc]
/-! ### names -/
def sp_law_names (K : PySem.W.Frag) : Sp := SpN (aCons (cInts K) aNil) (fun a => a.1.length ≤ 10 ∧ ∀ x ∈ a.1, 0 ≤ x ∧ x < 1000000) cT (fun a => namesF a.1)
def t_law_names (K : PySem.W.Frag) : TS := tSeq (tAsg (tC (.str "abcdefghijklmnopqrstuvwxyz")) (gName 1)) (tSeq (tAsg (tLst tNil) (gName 2)) (tSeq (tFor (iList K (tVar 0)) (gName 3) (tSeq (tAsg (tC (.str "")) (gName 4)) (tSeq (tFor (iList K (tLst (tCons (tC (.int 8)) (tCons (tC (.int 208)) (tCons (tC (.int 5408)) tNil))))) (gName 5) (tAsg (tOp (rCatS) (tVar 4) (tOp (rIxS) (tVar 1) (tOp oMod (tOp oDivX (tVar 3) (tVar 5)) (tC (.int 26))))) (gName 4))) (tSeq (tAsg (tSl (rSlS) (tOp (rMulS) (tVar 4) (tC (.int 3))) tNoPart (tPart (tOp oAdd (tC (.int 1)) (tOp oMod (tVar 3) (tC (.int 8)))))) (gName 4)) (tSeq (tAsg (tC (.int 0)) (gName 6)) (tSeq (tWhile (tTest (tOp (rIn K false) (tVar 4) (tVar 2))) (tSeq (tAsg (tOp (rIxS) (tVar 1) (tVar 6)) (gName 4)) (tAsg (tOp oAdd (tVar 6) (tC (.int 1))) (gName 6)))) (tDrop (tBM K "list" rAppend (tVar 2) (tCons (tVar 4) tNil))))))))) (tRet (tVar 2))))
theorem letL_lets : letL = lets := rfl
theorem rd_law_names (K : PySem.W.Frag) (ns : List Int) (hl : ns.length ≤ 10) (hx : ∀ x ∈ ns, 0 ≤ x ∧ x < 1000000) : SW (rNew cT) [.val (cInts K) ns, .any, .any, .any, .any, .any, .any] (t_law_names K) (PF (namesF ns)) := by
  unfold t_law_names
  have hfold : ∀ i, i < ns.length → (ns.take (i + 1)).foldl nameStep [] = nameStep ((ns.take i).foldl nameStep []) (ns.getD i 0) := fun i hi => by
    rw [List.take_add_one, List.getElem?_eq_getElem hi, List.getD_eq_getElem?_getD, List.getElem?_eq_getElem hi, List.foldl_append]; rfl
  have hok : ∀ i, i ≤ ns.length → NamesOk ((ns.take i).foldl nameStep []) ∧ ((ns.take i).foldl nameStep []).length = i := fun i hi => by
    have := namesFold_ok (ns.take i) [] ⟨fun x h => by simp at h, by simp⟩ (by simp; omega) fun x h => (hx x (List.mem_of_mem_take h)).1
    rw [List.length_take, Nat.min_eq_left hi] at this
    simpa using this
  refine q_asg' ev_lets ?_
  refine q_asgN (c := cT) (evN_lst el_nil (by simp)) (fun xs hx' => ?_)
  subst hx'
  refine q_forLG (fun i => [.val (cInts K) ns, .val cT lets, .own cT ((ns.take i).foldl nameStep []), .any, .any, .any, .any]) (ev_var rfl) (Wk.refl _) (fun i d hd => ?_) ?_
  · have hi : i < ns.length := (List.getElem?_eq_some_iff.mp hd).1
    have hdx := hx d (List.mem_of_getElem? hd)
    have hdd : ns.getD i 0 = d := by rw [List.getD_eq_getElem?_getD, hd]; rfl
    obtain ⟨hfo, hfl⟩ := hok i (by omega)
    have hnx := hfold i hi
    rw [hdd] at hnx
    rw [hnx]
    generalize (ns.take i).foldl nameStep [] = fd at hfo hfl
    refine q_asg' (ev_t [] (by decide +kernel)) ?_
    -- three letters
    have ix : ∀ {Γ : Gam} {tb tc : TE} {x : Int}, Γ[1]? = some (.val cT lets) → Ev Γ tb cInt d → Ev Γ tc cInt x → (x = 8 ∨ x = 208 ∨ x = 5408) → Ev Γ (tOp rIxS (tVar 1) (tOp oMod (tOp oDivX tb tc) (tC (.int 26)))) cT [letAt d x] := fun {Γ tb tc x} e1 h1 h2 hx => by
      have hb : Bt 8000 x := by
        unfold Bt
        exact Nat.lt_of_lt_of_le (show x.natAbs < 2 ^ 20 by rcases hx with rfl | rfl | rfl <;> decide) (Nat.pow_le_pow_right (by decide) (by decide))
      have h0 : x ≠ 0 := by rcases hx with rfl | rfl | rfl <;> decide
      exact ev_ixSG (ev_var e1) (ev_mod (ev_divX 8000 h1 h2 h0 hb) ev_int (by decide)) ⟨by omega, by show _ < ((26 : Nat) : Int); omega⟩ (by decide)
    refine q_forLG (fun m => [.val (cInts K) ns, .val cT lets, .own cT fd, .val cInt d, .val cT ((word3 d).take m), .any, .any]) (evN_lst (el_cons ev_int (el_cons ev_int (el_cons ev_int el_nil))) (by simp)).ev (Wk.refl _) (fun m x hm => ?_) ?_
    · have hm3 : m < 3 := (List.getElem?_eq_some_iff.mp hm).1
      have hxx : (m = 0 ∧ x = 8) ∨ (m = 1 ∧ x = 208) ∨ (m = 2 ∧ x = 5408) := by
        have : m = 0 ∨ m = 1 ∨ m = 2 := by omega
        rcases this with rfl | rfl | rfl <;> simp at hm <;> simp [hm]
      refine sw_asg (ev_is (ev_catS (ev_var rfl) (ix rfl (ev_var rfl) (ev_var rfl) (by omega)) (by simp; omega)) (d' := (word3 d).take (m + 1)) ?_) (.same (.same (.same (.same (.same (.any (.any .nil)))))))
      rcases hxx with ⟨rfl, rfl⟩ | ⟨rfl, rfl⟩ | ⟨rfl, rfl⟩ <;> rfl
    · have h8 : 0 ≤ d % 8 ∧ d % 8 < 8 := by omega
      refine q_asg' (ev_is (ev_slS0 (ev_mulS' (ev_var rfl) ev_int ⟨by decide, by decide⟩ (by simp [word3])) eo_none (eo_some (ev_add ev_int (ev_mod (ev_var rfl) ev_int (by decide)))) (by omega) (by simp [word3])) (d' := wordF d) rfl) ?_
      refine q_asg' ev_int ?_
      refine q_while (fun x : Nat × T => [.val (cInts K) ns, .val cT lets, .own cT fd, .val cInt d, .val cT x.2, .any, .val cInt (x.1 : Int)]) (fun x => x.1 ≤ 26 ∧ (∀ j, j < x.1 → [letL.getD j 0] ∈ fd ∨ j + 1 = x.1) ∧ (0 < x.1 → x.2 = [letL.getD (x.1 - 1) 0]) ∧ pickN fd (wordF d) = pickGo fd (26 - x.1) x.1 x.2) (fun x => 26 - x.1) (fun x => decide (x.2 ∈ fd)) (0, wordF d)
        (.same (.same (.same (.same (.same (.any (.same .nil))))))) ⟨by show 0 ≤ 26; decide, fun j hj => by dsimp only at hj; omega, fun h => by dsimp only at h; omega, rfl⟩ (fun x hx => evT_test (ev_inTO (ev_var rfl) rfl)) (fun x hx hb => ?_) (fun x hx hb => ?_)
      · obtain ⟨k, w⟩ := x
        obtain ⟨g1, g2, g3, g4⟩ := hx
        have hb := of_decide_eq_true hb
        dsimp only at g1 g2 g3 g4 hb ⊢
        have hall : ∀ j, j < k → [letL.getD j 0] ∈ fd := fun j hj => by
          rcases g2 j hj with z | z
          · exact z
          · have := g3 (by omega); rw [this] at hb; rw [show j = k - 1 from by omega]; exact hb
        have hk := tried_le hall g1
        refine q_asg' (ev_is (ev_ixSG (ev_var rfl) (ev_var rfl) ⟨by omega, by show _ < ((26 : Nat) : Int); omega⟩ (by decide)) (d' := [letL.getD k 0]) (by rw [Int.toNat_natCast]; rfl)) ?_
        refine sw_asg (ev_is (ev_add (ev_var rfl) ev_int) (d' := ((k + 1 : Nat) : Int)) (by omega)) ⟨(k + 1, [letL.getD k 0]), Wk.refl _, ⟨by dsimp only; omega, fun j hj => ?_, fun _ => rfl, ?_⟩, by dsimp only; omega⟩
        · dsimp only at hj ⊢
          by_cases z : j = k
          · exact .inr (by omega)
          · exact .inl (hall j (by omega))
        · dsimp only
          rw [g4, show 26 - k = (26 - (k + 1)) + 1 from by omega, pickGo, if_pos hb]
      · obtain ⟨k, w⟩ := x
        obtain ⟨g1, g2, g3, g4⟩ := hx
        have hb := of_decide_eq_false hb
        dsimp only at g1 g2 g3 g4 hb ⊢
        have e1 : pickN fd (wordF d) = w := by
          rw [g4]
          cases 26 - k with
          | zero => rfl
          | succ j => rw [pickGo, if_neg hb]
        refine sw_app (c := cT) rfl (ev_var rfl) (by omega) ?_
        show Wk _ [_, _, .own cT (fd ++ [pickN fd (wordF d)]), _, _, _, _]
        rw [e1]
        exact .same (.same (.same (.any (.any (.any (.any .nil))))))
  · rw [List.take_length]
    exact sw_retO (c := cT) rfl rfl
/-! ### trees -/
def sp_law_leaf (K : PySem.W.Frag) : Sp := SpF (aCons cInt (aCons (cList K cT) aNil)) (fun a => (0 ≤ a.1 ∧ a.1 < 1000000) ∧ a.2.1.length ≤ 100) (cE4 K) (fun a => leafF a.1 a.2.1)
def t_law_leaf (K : PySem.W.Frag) : TS := tSeq (tIfS (tAnd (tTest (tOp oLt (tOp oMod (tVar 0) (tC (.int 5))) (tC (.int 3)))) (tTest (tOp (rNilQ K true) (tVar 1) (tLst tNil)))) (tRet (tTup (tCons (tTup (tCons (tC (.str "name")) (tCons (tOp (rIxL K) (tVar 1) (tOp oModX (tOp oDiv (tVar 0) (tC (.int 5))) (tCB (rLenQ K) (tCons (tVar 1) tNil)))) tNil))) (tCons (tC (.int 1)) (tCons (tC (.int 0)) (tCons (tC (.int 1)) tNil)))))) tNext) (tSeq (tIfS (tAnd (tTest (tOp rEq (tOp oMod (tVar 0) (tC (.int 5))) (tC (.int 4)))) (tTest (tOp rEq (tOp oMod (tOp oDiv (tVar 0) (tC (.int 5))) (tC (.int 8))) (tC (.int 0))))) (tSeq (tAsg (tOp oAdd (tOp oMul (tOp oAdd (tVar 0) (tC (.int 1))) (tOp oPow (tC (.int 10)) (tC (.int 20)))) (tOp oMul (tVar 0) (tC (.int 7919)))) (gName 2)) (tRet (tTup (tCons (tTup (tCons (tC (.str "number")) (tCons (tVar 2) tNil))) (tCons (tC (.int 0)) (tCons (tC (.int 0)) (tCons (tC (.int 30)) tNil))))))) tNext) (tRet (tTup (tCons (tTup (tCons (tC (.str "number")) (tCons (tOp oModX (tOp oDiv (tVar 0) (tC (.int 5))) (tOp (rIxL K) (tLst (tCons (tC (.int 13)) (tCons (tC (.int 3)) (tCons (tC (.int 1000)) tNil)))) (tOp oMod (tOp oDiv (tVar 0) (tC (.int 200))) (tC (.int 3))))) tNil))) (tCons (tC (.int 0)) (tCons (tC (.int 0)) (tCons (tC (.int 3)) tNil)))))))
theorem rd_law_leaf (K : PySem.W.Frag) (n : Int) (ws : List T) (hn : 0 ≤ n ∧ n < 1000000) (hl : ws.length ≤ 100) : SW (rVal (cE4 K)) [.val cInt n, .val (cList K cT) ws, .any] (t_law_leaf K) (PF (leafF n ws)) := by
  unfold t_law_leaf
  have b8 : ∀ x : Int, x.natAbs < 2 ^ 20 → Bt 8000 x := fun x h => Nat.lt_of_lt_of_le h (Nat.pow_le_pow_right (by decide) (by decide))
  refine q_when (b := decide (n % 5 < 3 ∧ ws ≠ [])) (evT_is (evT_and (evT_test (ev_lt (ev_mod (ev_var rfl) ev_int (by decide)) ev_int)) fun _ => evT_test (ev_neNil (ev_var rfl))) ?_) (fun hb => ?_) (fun hb => ?_)
  · rw [Bool.decide_and]; congr 1; cases ws <;> simp
  · have hb := of_decide_eq_true hb
    have hw := List.length_pos_iff.mpr hb.2
    have hm : 0 ≤ (n / 5).fmod (ws.length : Int) ∧ (n / 5).fmod (ws.length : Int) < ws.length := by
      rw [Int.fmod_eq_emod_of_nonneg _ (by omega)]
      exact ⟨Int.emod_nonneg _ (by omega), Int.emod_lt_of_pos _ (by omega)⟩
    have e1 : leafF n ws = .name (ws.getD ((n / 5).fmod ws.length).toNat []) := by unfold leafF; rw [if_pos hb]
    rw [e1]
    refine sw_ret (ev_lt4I (ev_mkQ (ev_mkTrName (ev_t tagName (by decide +kernel)) (ev_ixG [] (ev_var rfl) (ev_modX (ev_div (ev_var rfl) ev_int (by decide)) (ev_len (ev_var rfl)) (by omega)) hm)) ev_int ev_int ev_int) rfl) rfl
  · have hb := of_decide_eq_false hb
    refine q_when (b := decide (n % 5 = 4 ∧ n / 5 % 8 = 0)) (evT_is (evT_and (evT_test (ev_eqI (ev_mod (ev_var rfl) ev_int (by decide)) ev_int)) fun _ => evT_test (ev_eqI (ev_mod (ev_div (ev_var rfl) ev_int (by decide)) ev_int (by decide)) ev_int)) (by rw [Bool.decide_and])) (fun hc => ?_) (fun hc => ?_)
    · have hc := of_decide_eq_true hc
      refine q_asg' (ev_is (ev_add (ev_mul 64 80 (ev_add (ev_var rfl) ev_int) (ev_powL (r := 100000000000000000000) (by decide)) (by unfold Bt; omega) (by unfold Bt; decide)) (ev_mulS (ev_var rfl) ev_int (by omega) (by omega))) (d' := (((n + 1) * 100000000000000000000 + n * 7919).toNat : Int)) (by omega)) ?_
      have e1 : leafF n ws = .num ((n + 1) * 100000000000000000000 + n * 7919).toNat := by unfold leafF; rw [if_neg hb, if_pos hc]
      rw [e1]
      refine sw_ret (ev_lt4I (ev_mkQ (ev_mkTrNum (ev_t tagNum (by decide +kernel)) (ev_var rfl)) ev_int ev_int ev_int) ?_) rfl
      show _ = (_, (0 : Int), (0 : Int), if _ < 1000 then (3 : Int) else 30)
      rw [if_neg (by omega)]
    · have hc := of_decide_eq_false hc
      have hd : ∃ d : Int, d = [13, 3, 1000].getD (n / 200 % 3).toNat 1 ∧ 0 < d ∧ d ≤ 1000 := by
        have : n / 200 % 3 = 0 ∨ n / 200 % 3 = 1 ∨ n / 200 % 3 = 2 := by omega
        rcases this with h | h | h <;> rw [h] <;> exact ⟨_, rfl, by decide, by decide⟩
      obtain ⟨d, hd, h0, h3⟩ := hd
      have e1 : leafF n ws = .num ((n / 5).fmod d).toNat := by unfold leafF; rw [if_neg hb, if_neg hc, ← hd]
      have hm : 0 ≤ (n / 5).fmod d ∧ (n / 5).fmod d < d := by
        rw [Int.fmod_eq_emod_of_nonneg _ (by omega)]
        exact ⟨Int.emod_nonneg _ (by omega), Int.emod_lt_of_pos _ h0⟩
      rw [e1]
      refine sw_ret (ev_lt4I (ev_mkQ (ev_mkTrNum (ev_t tagNum (by decide +kernel)) (ev_is (ev_modX (ev_div (ev_var rfl) ev_int (by decide)) (ev_is (ev_ixG 1 (evN_lst (el_cons ev_int (el_cons ev_int (el_cons ev_int el_nil))) (by simp)).ev (ev_mod (ev_div (ev_var rfl) ev_int (by decide)) ev_int (by decide)) ⟨by omega, by show _ < ((3 : Nat) : Int); omega⟩) hd.symm) (by omega)) (d' := (((n / 5).fmod d).toNat : Int)) (by omega))) ev_int ev_int ev_int) ?_) rfl
      show _ = (_, (0 : Int), (0 : Int), if _ < 1000 then (3 : Int) else 30)
      rw [if_pos (by omega)]
def Sg (s : Nat) : Prop := s = 43 ∨ s = 45 ∨ s = 42 ∨ s = 47
def sp_law_joined (K : PySem.W.Frag) : Sp := SpF (aCons cT (aCons (cE4 K) (aCons (cE4 K) aNil))) (fun a => ∃ s, a.1 = [s] ∧ Sg s) (cE4 K) (fun a => .two (a.1.headD 0) a.2.1 a.2.2.1)
def t_law_joined (K : PySem.W.Frag) : TS := tSeq (tIfS (tOr (tTest (tOp rEq (tVar 0) (tC (.str "+")))) (tTest (tOp rEq (tVar 0) (tC (.str "-"))))) (tSeq (tAsg (tCB rMaxI (tCons (tOp oAdd (tOp (rIxT K) (tVar 1) (tC (.int 1))) (tOp (rIxT K) (tVar 2) (tC (.int 2)))) (tCons (tOp oAdd (tOp (rIxT K) (tVar 2) (tC (.int 1))) (tOp (rIxT K) (tVar 1) (tC (.int 2)))) tNil))) (gName 3)) (tRet (tTup (tCons (tTup (tCons (tVar 0) (tCons (tOp (rIxT K) (tVar 1) (tC (.int 0))) (tCons (tOp (rIxT K) (tVar 2) (tC (.int 0))) tNil)))) (tCons (tVar 3) (tCons (tOp oAdd (tOp (rIxT K) (tVar 1) (tC (.int 2))) (tOp (rIxT K) (tVar 2) (tC (.int 2)))) (tCons (tOp oAdd (tOp oAdd (tOp (rIxT K) (tVar 1) (tC (.int 3))) (tOp (rIxT K) (tVar 2) (tC (.int 3)))) (tC (.int 1))) tNil))))))) tNext) (tSeq (tIfS (tTest (tOp rEq (tVar 0) (tC (.str "*")))) (tRet (tTup (tCons (tTup (tCons (tVar 0) (tCons (tOp (rIxT K) (tVar 1) (tC (.int 0))) (tCons (tOp (rIxT K) (tVar 2) (tC (.int 0))) tNil)))) (tCons (tOp oAdd (tOp (rIxT K) (tVar 1) (tC (.int 1))) (tOp (rIxT K) (tVar 2) (tC (.int 1)))) (tCons (tOp oAdd (tOp (rIxT K) (tVar 1) (tC (.int 2))) (tOp (rIxT K) (tVar 2) (tC (.int 2)))) (tCons (tOp oAdd (tOp (rIxT K) (tVar 1) (tC (.int 3))) (tOp (rIxT K) (tVar 2) (tC (.int 3)))) tNil)))))) tNext) (tRet (tTup (tCons (tTup (tCons (tVar 0) (tCons (tOp (rIxT K) (tVar 1) (tC (.int 0))) (tCons (tOp (rIxT K) (tVar 2) (tC (.int 0))) tNil)))) (tCons (tOp oAdd (tOp (rIxT K) (tVar 1) (tC (.int 1))) (tOp (rIxT K) (tVar 2) (tC (.int 2)))) (tCons (tOp oAdd (tOp (rIxT K) (tVar 1) (tC (.int 2))) (tOp (rIxT K) (tVar 2) (tC (.int 1)))) (tCons (tOp oAdd (tOp (rIxT K) (tVar 1) (tC (.int 3))) (tOp (rIxT K) (tVar 2) (tC (.int 3)))) tNil)))))))
theorem rd_law_joined (K : PySem.W.Frag) (s : Nat) (a b : Ep) (hs : Sg s) : SW (rVal (cE4 K)) [.val cT [s], .val (cE4 K) a, .val (cE4 K) b, .any] (t_law_joined K) (PF (.two s a b)) := by
  unfold t_law_joined
  refine q_when (evT_or (evT_test (ev_eqT (ev_var rfl) (ev_t [43] (by decide +kernel)))) fun _ => evT_test (ev_eqT (ev_var rfl) (ev_t [45] (by decide +kernel)))) (fun hb => ?_) (fun hb => ?_)
  · have hb' : s = 43 ∨ s = 45 := by simpa using hb
    refine q_asg' (ev_max (ev_add (ev_q1 (ev_lt4 (ev_var rfl))) (ev_q2 (ev_lt4 (ev_var rfl)))) (ev_add (ev_q1 (ev_lt4 (ev_var rfl))) (ev_q2 (ev_lt4 (ev_var rfl))))) ?_
    refine sw_ret (ev_lt4I (ev_mkQ (ev_mkTrTwo (s := s) (ev_var rfl) (ev_q0 (ev_lt4 (ev_var rfl))) (ev_q0 (ev_lt4 (ev_var rfl)))) (ev_var rfl) (ev_add (ev_q2 (ev_lt4 (ev_var rfl))) (ev_q2 (ev_lt4 (ev_var rfl)))) (ev_add (ev_add (ev_q3 (ev_lt4 (ev_var rfl))) (ev_q3 (ev_lt4 (ev_var rfl)))) ev_int)) ?_) rfl
    show _ = (Ep.two s a b, ms (.two s a b)); rw [ms_add hb']; rfl
  · have hb' : ¬ (s = 43 ∨ s = 45) := by simpa using hb
    refine q_when (evT_test (ev_eqT (ev_var rfl) (ev_t [42] (by decide +kernel)))) (fun hc => ?_) (fun hc => ?_)
    · have hc' : s = 42 := by simpa using hc
      refine sw_ret (ev_lt4I (ev_mkQ (ev_mkTrTwo (s := s) (ev_var rfl) (ev_q0 (ev_lt4 (ev_var rfl))) (ev_q0 (ev_lt4 (ev_var rfl)))) (ev_add (ev_q1 (ev_lt4 (ev_var rfl))) (ev_q1 (ev_lt4 (ev_var rfl)))) (ev_add (ev_q2 (ev_lt4 (ev_var rfl))) (ev_q2 (ev_lt4 (ev_var rfl)))) (ev_add (ev_q3 (ev_lt4 (ev_var rfl))) (ev_q3 (ev_lt4 (ev_var rfl))))) ?_) rfl
      show _ = (Ep.two s a b, ms (.two s a b)); rw [ms_mul hc']; rfl
    · have hc' : ¬ s = 42 := by simpa using hc
      refine sw_ret (ev_lt4I (ev_mkQ (ev_mkTrTwo (s := s) (ev_var rfl) (ev_q0 (ev_lt4 (ev_var rfl))) (ev_q0 (ev_lt4 (ev_var rfl)))) (ev_add (ev_q1 (ev_lt4 (ev_var rfl))) (ev_q2 (ev_lt4 (ev_var rfl)))) (ev_add (ev_q2 (ev_lt4 (ev_var rfl))) (ev_q1 (ev_lt4 (ev_var rfl)))) (ev_add (ev_q3 (ev_lt4 (ev_var rfl))) (ev_q3 (ev_lt4 (ev_var rfl))))) ?_) rfl
      show _ = (Ep.two s a b, ms (.two s a b)); rw [ms_div hb' hc']; rfl
def sp_law_fits (K : PySem.W.Frag) : Sp := SpF (aCons (cE4 K) (aCons cInt aNil)) (fun _ => True) cBool (fun a => fitsF a.1 a.2.1)
def t_law_fits (K : PySem.W.Frag) : TS := tRet (tAndV (tOp oLe (tCB rMaxI (tCons (tOp (rIxT K) (tVar 0) (tC (.int 1))) (tCons (tOp (rIxT K) (tVar 0) (tC (.int 2))) tNil))) (tVar 1)) (tOp oLe (tOp (rIxT K) (tVar 0) (tC (.int 3))) (tC (.int 150))))
theorem rd_law_fits (K : PySem.W.Frag) (e : Ep) (m : Int) : SW (rVal cBool) [.val (cE4 K) e, .val cInt m] (t_law_fits K) (PF (fitsF e m)) := by
  unfold t_law_fits
  exact sw_ret (ev_andV (ev_le (ev_max (ev_q1 (ev_lt4 (ev_var rfl))) (ev_q2 (ev_lt4 (ev_var rfl)))) (ev_var rfl)) fun _ => ev_le (ev_q3 (ev_lt4 (ev_var rfl))) ev_int) rfl
theorem ev_joined {K : PySem.W.Frag} {Γ : Gam} {ta tb tc : TE} {E : XK} {s : Nat} {a b : Ep} (h1 : Ev Γ ta cT [s]) (h2 : Ev Γ tb (cE4 K) a) (h3 : Ev Γ tc (cE4 K) b) (hs : Sg s) : Ev Γ (tCall (sp_law_joined K) [] E (tCons ta (tCons tb (tCons tc tNil)))) (cE4 K) (.two s a b) :=
  ev_call (f := fun a : T × Ep × Ep × Unit => Ep.two (a.1.headD 0) a.2.1 a.2.2.1) (pre := fun a : T × Ep × Ep × Unit => ∃ s, a.1 = [s] ∧ Sg s) (ea_cons h1 (ea_cons h2 (ea_cons h3 ea_nil))) ⟨s, rfl, hs⟩
theorem ev_fits {K : PySem.W.Frag} {Γ : Gam} {ta tb : TE} {E : XK} {e : Ep} {m : Int} (h1 : Ev Γ ta (cE4 K) e) (h2 : Ev Γ tb cInt m) : Ev Γ (tCall (sp_law_fits K) [] E (tCons ta (tCons tb tNil))) cBool (fitsF e m) :=
  ev_call (f := fun a : Ep × Int × Unit => fitsF a.1 a.2.1) (pre := fun _ => True) (ea_cons h1 (ea_cons h2 ea_nil)) trivial
theorem ev_leaf {K : PySem.W.Frag} {Γ : Gam} {ta tb : TE} {E : XK} {n : Int} {ws : List T} (h1 : Ev Γ ta cInt n) (h2 : Ev Γ tb (cList K cT) ws) (hn : 0 ≤ n ∧ n < 1000000) (hl : ws.length ≤ 100) : Ev Γ (tCall (sp_law_leaf K) [] E (tCons ta (tCons tb tNil))) (cE4 K) (leafF n ws) :=
  ev_call (f := fun a : Int × List T × Unit => leafF a.1 a.2.1) (pre := fun a : Int × List T × Unit => (0 ≤ a.1 ∧ a.1 < 1000000) ∧ a.2.1.length ≤ 100) (ea_cons h1 (ea_cons h2 ea_nil)) ⟨hn, hl⟩
def sp_law_step (K : PySem.W.Frag) : Sp := SpN (aCons (cList K (cE4 K)) (aCons cInt (aCons (cList K cT) (aCons cInt aNil)))) (fun a => (0 ≤ a.2.1 ∧ a.2.1 < 1000000) ∧ a.1.length ≤ 1000 ∧ a.2.2.1.length ≤ 100 ∧ ∀ e ∈ a.1, (ms e).1 ≤ 1000 ∧ (ms e).2.1 ≤ 1000 ∧ (ms e).2.2 ≤ 1000) (cE4 K) (fun a => stepF a.1 a.2.1 a.2.2.1 a.2.2.2.1)
def t_law_step (K : PySem.W.Frag) : TS := tSeq (tAsg (tOp oMod (tVar 1) (tC (.int 8))) (gName 4)) (tSeq (tAsg (tOp oDiv (tVar 1) (tC (.int 8))) (gName 5)) (tSeq (tIfS (tAnd (tTest (tOp oGt (tVar 4) (tC (.int 2)))) (tAnd (tTest (tOp oLt (tVar 4) (tC (.int 6)))) (tTest (tOp oGt (tCB (rLenQ K) (tCons (tVar 0) tNil)) (tC (.int 1)))))) (tSeq (tAsg (tCall (sp_law_joined K) [] E0 (tCons (tOp (rIxS) (tC (.str "+-*/")) (tOp oMod (tVar 5) (tC (.int 4)))) (tCons (tOp (rIxL K) (tVar 0) (tUn oNeg (tC (.int 2)))) (tCons (tOp (rIxL K) (tVar 0) (tUn oNeg (tC (.int 1)))) tNil)))) (gName 6)) (tIfS (tB (tCall (sp_law_fits K) [] E0 (tCons (tVar 6) (tCons (tVar 3) tNil)))) (tRet (tOp (rCatQ K) (tSl (rSlL K) (tVar 0) tNoPart (tPart (tUn oNeg (tC (.int 2))))) (tLst (tCons (tVar 6) tNil)))) tNext)) tNext) (tSeq (tIfS (tAnd (tTest (tOp rEq (tVar 4) (tC (.int 6)))) (tTest (tOp (rNilQ K true) (tVar 0) (tLst tNil)))) (tSeq (tAsg (tOp (rIxL K) (tVar 0) (tUn oNeg (tC (.int 1)))) (gTup K 4 (gCons (gName 7) (gCons (gName 8) (gCons (gName 9) (gCons (gName 10) (gNil))))))) (tSeq (tAsg (tOp (rIxL K) (tLst (tCons (tC (.int 2)) (tCons (tC (.int 3)) (tCons (tC (.int 0)) (tCons (tC (.int 1)) (tCons (tOp oMod (tOp oDiv (tVar 5) (tC (.int 5))) (tC (.int 13))) tNil)))))) (tOp oMod (tVar 5) (tC (.int 5)))) (gName 11)) (tSeq (tAsg (tTup (tCons (tTup (tCons (tC (.str "^")) (tCons (tVar 7) (tCons (tVar 11) tNil)))) (tCons (tOp oMul (tVar 8) (tVar 11)) (tCons (tOp oMul (tVar 9) (tVar 11)) (tCons (tOp oMul (tVar 10) (tCB rMaxI (tCons (tC (.int 1)) (tCons (tVar 11) tNil)))) tNil))))) (gName 6)) (tIfS (tB (tCall (sp_law_fits K) [] E0 (tCons (tVar 6) (tCons (tVar 3) tNil)))) (tRet (tOp (rCatQ K) (tSl (rSlL K) (tVar 0) tNoPart (tPart (tUn oNeg (tC (.int 1))))) (tLst (tCons (tVar 6) tNil)))) tNext)))) tNext) (tSeq (tIfS (tAnd (tTest (tOp rEq (tVar 4) (tC (.int 7)))) (tTest (tOp (rNilQ K true) (tVar 0) (tLst tNil)))) (tRet (tOp (rCatQ K) (tSl (rSlL K) (tVar 0) tNoPart (tPart (tUn oNeg (tC (.int 1))))) (tLst (tCons (tOp (rCatT K) (tTup (tCons (tTup (tCons (tC (.str "less")) (tCons (tOp (rIxT K) (tOp (rIxL K) (tVar 0) (tUn oNeg (tC (.int 1)))) (tC (.int 0))) tNil))) tNil)) (tSl (rSlT K) (tOp (rIxL K) (tVar 0) (tUn oNeg (tC (.int 1)))) (tPart (tC (.int 1))) tNoPart)) tNil)))) tNext) (tRet (tOp (rCatQ K) (tVar 0) (tLst (tCons (tCall (sp_law_leaf K) [] E0 (tCons (tVar 5) (tCons (tVar 2) tNil))) tNil))))))))
theorem cutD_neg {α : Type} (xs : List α) (k : Nat) (hk : k ≤ xs.length) (h0 : 0 < k) : Pw.cutD xs none (some (-(k : Int))) = xs.take (xs.length - k) := by
  unfold Pw.cutD
  have h1 : HT.sIx xs.length xs.length (some (-(k : Int))) = xs.length - k := by
    have := clipS_eq xs.length xs.length (some (-(k : Int)))
    unfold clipS at this
    dsimp only at this
    rw [if_pos (by omega)] at this; omega
  have h2 : HT.sIx xs.length 0 none = 0 := rfl
  rw [h1, h2]; rfl
theorem atI_back {α : Type} {xs : List α} {k : Nat} (x0 : α) (h0 : 0 < k) (hk : k ≤ xs.length) : atI xs (-(k : Int)) = some (xs.getD (xs.length - k) x0) := by
  unfold atI ixN
  rw [if_neg (by omega), if_pos (by omega)]
  have : (-(k : Int) + (xs.length : Int)).toNat = xs.length - k := by omega
  first
    | (show xs[(-(k : Int) + (xs.length : Int)).toNat]? = _; rw [this, List.getD_eq_getElem?_getD, List.getElem?_eq_getElem (by omega)]; rfl)
    | (show xs[((xs.length : Int) + -(k : Int)).toNat]? = _; rw [Int.add_comm, this, List.getD_eq_getElem?_getD, List.getElem?_eq_getElem (by omega)]; rfl)
theorem rd_law_step (K : PySem.W.Frag) (st : List Ep) (n : Int) (ws : List T) (most : Int) (hn : 0 ≤ n ∧ n < 1000000) (hl : st.length ≤ 1000) (hw : ws.length ≤ 100) (hm : ∀ e ∈ st, (ms e).1 ≤ 1000 ∧ (ms e).2.1 ≤ 1000 ∧ (ms e).2.2 ≤ 1000) :
    SW (rNew (cE4 K)) [.val (cList K (cE4 K)) st, .val cInt n, .val (cList K cT) ws, .val cInt most, .any, .any, .any, .any, .any, .any, .any, .any] (t_law_step K) (PF (stepF st n ws most)) := by
  unfold t_law_step
  have e0 : stepF st n ws most = if (2 < n % 8 ∧ n % 8 < 6 ∧ 1 < st.length) ∧ fitsF (Ep.two (signs4.getD (n / 8 % 4).toNat 0) (st.getD (st.length - 2) (.num 0)) (st.getD (st.length - 1) (.num 0))) most = true then st.take (st.length - 2) ++ [Ep.two (signs4.getD (n / 8 % 4).toNat 0) (st.getD (st.length - 2) (.num 0)) (st.getD (st.length - 1) (.num 0))]
    else if (n % 8 = 6 ∧ st ≠ []) ∧ fitsF (Ep.pow (st.getD (st.length - 1) (.num 0)) (exps (n / 8)).toNat) most = true then st.take (st.length - 1) ++ [Ep.pow (st.getD (st.length - 1) (.num 0)) (exps (n / 8)).toNat]
    else if n % 8 = 7 ∧ st ≠ [] then st.take (st.length - 1) ++ [Ep.less (st.getD (st.length - 1) (.num 0))]
    else st ++ [leafF (n / 8) ws] := rfl
  have ne : (!st.isEmpty) = decide (st ≠ []) := by cases st <;> simp
  have l1 : ∀ {Γ : Gam}, Γ[0]? = some (.val (cList K (cE4 K)) st) → st ≠ [] → Ev Γ (tOp (rIxL K) (tVar 0) (tUn oNeg (tC (.int 1)))) (cE4 K) (st.getD (st.length - 1) (.num 0)) := fun e h => by
    have := List.length_pos_iff.mpr h
    exact ev_ixL (ev_var e) (ev_neg ev_int) (atI_back (xs := st) (k := 1) (Ep.num 0) (by decide) (by omega))
  have l2 : ∀ {Γ : Gam}, Γ[0]? = some (.val (cList K (cE4 K)) st) → 1 < st.length → Ev Γ (tOp (rIxL K) (tVar 0) (tUn oNeg (tC (.int 2)))) (cE4 K) (st.getD (st.length - 2) (.num 0)) := fun e h =>
    ev_ixL (ev_var e) (ev_neg ev_int) (atI_back (xs := st) (k := 2) (Ep.num 0) (by decide) (by omega))
  have s1 : ∀ {Γ : Gam}, Γ[0]? = some (.val (cList K (cE4 K)) st) → st ≠ [] → EvN Γ (tSl (rSlL K) (tVar 0) tNoPart (tPart (tUn oNeg (tC (.int 1))))) (cE4 K) (st.take (st.length - 1)) := fun e h => by
    have := List.length_pos_iff.mpr h
    exact evN_is (evN_sl (ev_var e) eo_none (eo_some (ev_neg ev_int))) (cutD_neg st 1 (by omega) (by decide))
  have s2 : ∀ {Γ : Gam}, Γ[0]? = some (.val (cList K (cE4 K)) st) → 1 < st.length → EvN Γ (tSl (rSlL K) (tVar 0) tNoPart (tPart (tUn oNeg (tC (.int 2))))) (cE4 K) (st.take (st.length - 2)) := fun e h =>
    evN_is (evN_sl (ev_var e) eo_none (eo_some (ev_neg ev_int))) (cutD_neg st 2 (by omega) (by decide))
  refine q_asg' (ev_mod (ev_var rfl) ev_int (by decide)) ?_
  refine q_asg' (ev_div (ev_var rfl) ev_int (by decide)) ?_
  refine q_joinI (fun Γ' => Wk Γ' [.val (cList K (cE4 K)) st, .val cInt n, .val (cList K cT) ws, .val cInt most, .val cInt (n % 8), .val cInt (n / 8), .any, .any, .any, .any, .any, .any] ∧ ¬ ((2 < n % 8 ∧ n % 8 < 6 ∧ 1 < st.length) ∧ fitsF (Ep.two (signs4.getD (n / 8 % 4).toNat 0) (st.getD (st.length - 2) (.num 0)) (st.getD (st.length - 1) (.num 0))) most = true)) ?_ fun Γ' hG => sw_wk hG.1 ?_
  · refine sw_when (b := decide (2 < n % 8 ∧ n % 8 < 6 ∧ 1 < st.length)) (evT_is (evT_and (evT_test (ev_gt (ev_var rfl) ev_int)) fun _ => evT_and (evT_test (ev_lt (ev_var rfl) ev_int)) fun _ => evT_test (ev_gt (ev_len (ev_var rfl)) ev_int)) ?_) (fun hb => ?_) (fun hb => ?_)
    · rw [Bool.decide_and, Bool.decide_and]; congr 2; exact decide_eq_decide.mpr (by omega)
    · have hb := of_decide_eq_true hb
      have h4 : 0 ≤ n / 8 % 4 ∧ n / 8 % 4 < 4 := by omega
      refine q_asg' (ev_joined (s := signs4.getD (n / 8 % 4).toNat 0) (ev_ixSG (ev_t signs4 (by decide +kernel)) (ev_mod (ev_var rfl) ev_int (by decide)) ⟨by omega, by show _ < ((4 : Nat) : Int); omega⟩ (by decide)) (l2 rfl hb.2.2) (l1 rfl (fun z => by rw [z] at hb; simp at hb)) (signs4_ok _)) ?_
      refine sw_when (evT_B (ev_fits (ev_var rfl) (ev_var rfl))) (fun hc => ?_) (fun hc => ?_)
      · rw [e0, if_pos ⟨hb, hc⟩]
        exact sw_retN (evN_catQ (K := K) (s2 rfl hb.2.2).ev (evN_lst (el_cons (ev_var rfl) el_nil) (by simp)).ev (by simp; omega)) rfl
      · refine ⟨.same (.same (.same (.same (.same (.same (.any (.any (.any (.any (.any (.any .nil))))))))))), fun z => by rw [z.2] at hc; cases hc⟩
    · have hb := of_decide_eq_false hb
      exact ⟨Wk.refl _, fun z => hb z.1⟩
  rw [e0, if_neg hG.2]
  refine q_joinI (fun Γ' => Wk Γ' [.val (cList K (cE4 K)) st, .val cInt n, .val (cList K cT) ws, .val cInt most, .val cInt (n % 8), .val cInt (n / 8), .any, .any, .any, .any, .any, .any] ∧ ¬ ((n % 8 = 6 ∧ st ≠ []) ∧ fitsF (Ep.pow (st.getD (st.length - 1) (.num 0)) (exps (n / 8)).toNat) most = true)) ?_ fun Γ' hG2 => sw_wk hG2.1 ?_
  · refine sw_when (b := decide (n % 8 = 6 ∧ st ≠ [])) (evT_is (evT_and (evT_test (ev_eqI (ev_var rfl) ev_int)) fun _ => evT_test (ev_neNil (ev_var rfl))) (by rw [Bool.decide_and, ne])) (fun hb => ?_) (fun hb => ?_)
    · have hb := of_decide_eq_true hb
      have hs := List.length_pos_iff.mpr hb.2
      have hx := exps_le (n / 8)
      have hms := hm _ (getD_mem (st := st) (i := st.length - 1) (by omega))
      have hmp := ms_pos (st.getD (st.length - 1) (.num 0))
      generalize hz : st.getD (st.length - 1) (.num 0) = z at hms hmp ⊢
      refine q_un4 (p := lt z) (ev_lt4 (by rw [← hz]; exact l1 rfl hb.2)) ?_
      have h5 : 0 ≤ n / 8 % 5 ∧ n / 8 % 5 < 5 := by omega
      refine q_asg' (ev_is (ev_ixG 0 (evN_lst (el_cons ev_int (el_cons ev_int (el_cons ev_int (el_cons ev_int (el_cons (ev_mod (ev_div (ev_var rfl) ev_int (by decide)) ev_int (by decide)) el_nil))))) (by simp)).ev (ev_mod (ev_var rfl) ev_int (by decide)) ⟨by omega, by show _ < ((5 : Nat) : Int); omega⟩) (d' := ((exps (n / 8)).toNat : Int)) ?_) ?_
      · rw [Int.toNat_of_nonneg hx.1]; rfl
      have hxn : (exps (n / 8)).toNat ≤ 12 := by omega
      generalize (exps (n / 8)).toNat = x at hxn ⊢
      have hmx : max 1 (x : Int) ≤ 12 := by omega
      refine q_asg' (ev_lt4I (e := .pow z x) (ev_mkQ (ev_mkTrPow (ev_t [94] (by decide +kernel)) (ev_var rfl) (ev_var rfl)) (ev_mulS (ev_var rfl) (ev_var rfl) (by show (ms z).1.natAbs < _; omega) (by omega)) (ev_mulS (ev_var rfl) (ev_var rfl) (by show (ms z).2.1.natAbs < _; omega) (by omega)) (ev_mulS (ev_var rfl) (ev_max ev_int (ev_var rfl)) (by show (ms z).2.2.natAbs < _; omega) (by omega))) rfl) ?_
      refine sw_when (evT_B (ev_fits (ev_var rfl) (ev_var rfl))) (fun hc => ?_) (fun hc => ?_)
      · rw [if_pos ⟨hb, hc⟩]
        exact sw_retN (evN_catQ (K := K) (s1 rfl hb.2).ev (evN_lst (el_cons (ev_var rfl) el_nil) (by simp)).ev (by simp; omega)) rfl
      · refine ⟨.same (.same (.same (.same (.same (.same (.any (.any (.any (.any (.any (.any .nil))))))))))), fun z => by rw [z.2] at hc; cases hc⟩
    · have hb := of_decide_eq_false hb
      exact ⟨Wk.refl _, fun z => hb z.1⟩
  rw [if_neg hG2.2]
  refine q_when (b := decide (n % 8 = 7 ∧ st ≠ [])) (evT_is (evT_and (evT_test (ev_eqI (ev_var rfl) ev_int)) fun _ => evT_test (ev_neNil (ev_var rfl))) (by rw [Bool.decide_and, ne])) (fun hb => ?_) (fun hb => ?_)
  · have hb := of_decide_eq_true hb
    rw [if_pos hb]
    exact sw_retN (evN_catQ (K := K) (s1 rfl hb.2).ev (evN_lst (el_cons (ev_lt4I (ev_catQ (ev_mkTrLess (ev_t tagLess (by decide +kernel)) (ev_q0 (ev_lt4 (l1 rfl hb.2)))) (ev_lt4 (l1 rfl hb.2))) rfl) el_nil) (by simp)).ev (by simp; omega)) rfl
  · have hb := of_decide_eq_false hb
    rw [if_neg hb]
    exact sw_retN (evN_catQ (K := K) (ev_var rfl) (evN_lst (el_cons (ev_leaf (ev_var rfl) (ev_var rfl) (by omega) hw) el_nil) (by simp)).ev (by simp; omega)) rfl
theorem evN_step {K : PySem.W.Frag} {Γ : Gam} {ta tb tc td : TE} {E : XK} {st : List Ep} {n m : Int} {ws : List T} (h1 : Ev Γ ta (cList K (cE4 K)) st) (h2 : Ev Γ tb cInt n) (h3 : Ev Γ tc (cList K cT) ws) (h4 : Ev Γ td cInt m) (hn : 0 ≤ n ∧ n < 1000000) (hl : st.length ≤ 1000) (hw : ws.length ≤ 100)
    (hm : ∀ e ∈ st, (ms e).1 ≤ 1000 ∧ (ms e).2.1 ≤ 1000 ∧ (ms e).2.2 ≤ 1000) : EvN Γ (tCall (sp_law_step K) [] E (tCons ta (tCons tb (tCons tc (tCons td tNil))))) (cE4 K) (stepF st n ws m) :=
  evN_call (f := fun a : List Ep × Int × List T × Int × Unit => stepF a.1 a.2.1 a.2.2.1 a.2.2.2.1) (pre := fun a : List Ep × Int × List T × Int × Unit => (0 ≤ a.2.1 ∧ a.2.1 < 1000000) ∧ a.1.length ≤ 1000 ∧ a.2.2.1.length ≤ 100 ∧ ∀ e ∈ a.1, (ms e).1 ≤ 1000 ∧ (ms e).2.1 ≤ 1000 ∧ (ms e).2.2 ≤ 1000)
    (ea_cons h1 (ea_cons h2 (ea_cons h3 (ea_cons h4 ea_nil)))) ⟨hn, hl, hw, hm⟩
def sp_law_grown (K : PySem.W.Frag) : Sp := SpF (aCons (cInts K) (aCons (cList K cT) (aCons cInt aNil))) (fun a => (0 < a.1.length ∧ a.1.length ≤ 100 ∧ ∀ x ∈ a.1, 0 ≤ x ∧ x < 1000000) ∧ NamesOk a.2.1 ∧ a.2.1.length ≤ 100 ∧ 1 ≤ a.2.2.1 ∧ a.2.2.1 ≤ 100) (cTr K) (fun a => grownF a.1 a.2.1 a.2.2.1)
def t_law_grown (K : PySem.W.Frag) : TS := tSeq (tAsg (tLst tNil) (gName 3)) (tSeq (tFor (iList K (tVar 0)) (gName 4) (tAsg (tCall (sp_law_step K) [] E0 (tCons (tVar 3) (tCons (tVar 4) (tCons (tVar 1) (tCons (tVar 2) tNil))))) (gName 3))) (tSeq (tAsg (tOp (rIxL K) (tVar 3) (tC (.int 0))) (gName 5)) (tSeq (tFor (iRng2 (tCons (tC (.int 1)) (tCons (tCB (rLenQ K) (tCons (tVar 3) tNil)) tNil))) (gName 6) (tSeq (tAsg (tCall (sp_law_joined K) [] E0 (tCons (tOp (rIxS) (tC (.str "+-*/")) (tOp oMod (tOp oAdd (tCB (rLenQ K) (tCons (tVar 0) tNil)) (tVar 6)) (tC (.int 4)))) (tCons (tVar 5) (tCons (tOp (rIxL K) (tVar 3) (tVar 6)) tNil)))) (gName 7)) (tIfS (tB (tCall (sp_law_fits K) [] E0 (tCons (tVar 7) (tCons (tVar 2) tNil)))) (tAsg (tVar 7) (gName 5)) tNext))) (tRet (tOp (rIxT K) (tVar 5) (tC (.int 0)))))))
theorem rd_law_grown (K : PySem.W.Frag) (ns : List Int) (ws : List T) (most : Int) (hn : 0 < ns.length) (hl : ns.length ≤ 100) (hx : ∀ x ∈ ns, 0 ≤ x ∧ x < 1000000) (hw : NamesOk ws) (hwl : ws.length ≤ 100) (hm : 1 ≤ most) (hm2 : most ≤ 100) :
    SW (rVal (cTr K)) [.val (cInts K) ns, .val (cList K cT) ws, .val cInt most, .any, .any, .any, .any, .any] (t_law_grown K) (PF (grownF ns ws most)) := by
  unfold t_law_grown
  have ok : ∀ i, i ≤ ns.length → StOk most ws i ((ns.take i).foldl (fun st n => stepF st n ws most) []) := fun i hi => by
    have := steps_ok hw hm (ns.take i) [] 0 ⟨fun e h => by simp at h, by simp [total], by simp [totalW], by simp, fun h => by omega⟩ fun x h => hx x (List.mem_of_mem_take h)
    rw [List.length_take, Nat.min_eq_left hi, Nat.zero_add] at this
    exact this
  have stp : ∀ i (hi : i < ns.length), (ns.take (i + 1)).foldl (fun st n => stepF st n ws most) [] = stepF ((ns.take i).foldl (fun st n => stepF st n ws most) []) (ns.getD i 0) ws most := fun i hi => by
    rw [List.take_add_one, List.getElem?_eq_getElem hi, List.getD_eq_getElem?_getD, List.getElem?_eq_getElem hi, List.foldl_append]; rfl
  refine q_asg' (EvN.ev (K := K) (evN_lst (c := cE4 K) el_nil (by simp))) ?_
  refine q_forLG (fun i => [.val (cInts K) ns, .val (cList K cT) ws, .val cInt most, .val (cList K (cE4 K)) ((ns.take i).foldl (fun st n => stepF st n ws most) []), .any, .any, .any, .any]) (ev_var rfl) (Wk.refl _) (fun i d hd => ?_) ?_
  · have hi : i < ns.length := (List.getElem?_eq_some_iff.mp hd).1
    have hdd : ns.getD i 0 = d := by rw [List.getD_eq_getElem?_getD, hd]; rfl
    have hs := ok i (by omega)
    have hnx := stp i hi
    rw [hdd] at hnx
    rw [hnx]
    generalize (ns.take i).foldl (fun st n => stepF st n ws most) [] = st at hs
    refine sw_asg (evN_step (ev_var rfl) (ev_var rfl) (ev_var rfl) (ev_var rfl) (hx d (List.mem_of_getElem? hd)) (by have := hs.l; omega) hwl (fun e he => by have := (hs.g e he).f; omega)).ev (.same (.same (.same (.same (.any (.any (.any (.any .nil))))))))
  · rw [List.take_length]
    have hs := ok ns.length (Nat.le_refl _)
    rw [List.take_length] at hs
    have e0 : grownF ns ws most = grows ns.length most (ns.foldl (fun st n => stepF st n ws most) []) ((ns.foldl (fun st n => stepF st n ws most) []).length - 1) := rfl
    rw [e0]
    generalize ns.foldl (fun st n => stepF st n ws most) [] = st at hs
    have h0 := hs.z hn
    have hp := List.length_pos_iff.mpr h0
    have hsl := hs.l
    refine q_asg' (ev_ixG (.num 0) (ev_var rfl) ev_int ⟨by decide, by omega⟩) ?_
    refine q_forR2G (fun i => [.val (cInts K) ns, .val (cList K cT) ws, .val cInt most, .val (cList K (cE4 K)) st, .any, .val (cE4 K) (grows ns.length most st i), .any, .any]) ev_int (ev_len (ev_var rfl)) (by decide) (by omega) (Wk.refl _) (fun i hi => ?_) ?_
    · rw [grows_succ]
      generalize grows ns.length most st i = f
      have h4 : 0 ≤ ((ns.length : Int) + (1 + (i : Int))) % 4 ∧ ((ns.length : Int) + (1 + (i : Int))) % 4 < 4 := by omega
      have e1 : ((i + 1 : Nat) : Int) = 1 + (i : Int) := by omega
      refine q_asg' (ev_joined (s := signs4.getD (((ns.length : Int) + (1 + (i : Int))) % 4).toNat 0) (ev_ixSG (ev_t signs4 (by decide +kernel)) (ev_mod (ev_add (ev_len (ev_var rfl)) (ev_var rfl)) ev_int (by decide)) ⟨by omega, by show _ < ((4 : Nat) : Int); omega⟩ (by decide)) (ev_var rfl) (ev_is (ev_ixG (.num 0) (ev_var rfl) (ev_var rfl) ⟨by omega, hi⟩) (d' := st.getD (i + 1) (.num 0)) (by congr 1; omega)) (signs4_ok _)) ?_
      unfold growGo
      dsimp only
      rw [e1]
      refine sw_when (evT_B (ev_fits (ev_var rfl) (ev_var rfl))) (fun hc => ?_) (fun hc => ?_)
      · rw [if_pos hc]
        exact sw_asg (ev_var rfl) (.same (.same (.same (.same (.any (.same (.any (.any .nil))))))))
      · rw [if_neg (by rw [hc]; decide)]
        exact .same (.same (.same (.same (.any (.same (.any (.any .nil)))))))
    · rw [show ((st.length : Int) - 1).toNat = st.length - 1 from by omega]
      exact sw_ret (ev_q0 (ev_lt4 (ev_var rfl))) rfl
/-! ### texts -/
def sp_law_binds (K : PySem.W.Frag) : Sp := SpF (aCons (cTr K) aNil) (fun a => Wf a.1) cInt (fun a => (binds a.1 : Int))
def t_law_binds (K : PySem.W.Frag) : TS := tSeq (tIfS (tOr (tTest (tOp rEq (tOp (rIxT K) (tVar 0) (tC (.int 0))) (tC (.str "+")))) (tTest (tOp rEq (tOp (rIxT K) (tVar 0) (tC (.int 0))) (tC (.str "-"))))) (tRet (tC (.int 0))) tNext) (tSeq (tIfS (tOr (tTest (tOp rEq (tOp (rIxT K) (tVar 0) (tC (.int 0))) (tC (.str "*")))) (tTest (tOp rEq (tOp (rIxT K) (tVar 0) (tC (.int 0))) (tC (.str "/"))))) (tRet (tC (.int 1))) tNext) (tRet (tDGet (tDisp [(tC (.str "less"), tC (.int 2)), (tC (.str "^"), tC (.int 3)), (tC (.str "name"), tC (.int 4)), (tC (.str "number"), tC (.int 4))]) (tOp (rIxT K) (tVar 0) (tC (.int 0))))))
theorem tag_two {e : Ep} (w : Wf e) (s : Nat) (hs : s = 43 ∨ s = 45 ∨ s = 42 ∨ s = 47) : tag e = [s] ↔ ∃ l r, e = .two s l r := by
  cases e with
  | two s' l r =>
    constructor
    · intro h; have : s' = s := by simpa [tag] using h
      subst this; exact ⟨l, r, rfl⟩
    · rintro ⟨l', r', h⟩; cases h; rfl
  | num n => exact ⟨fun h => by simp [tag, tagNum] at h, fun ⟨_, _, h⟩ => by cases h⟩
  | name n => exact ⟨fun h => by simp [tag, tagName] at h, fun ⟨_, _, h⟩ => by cases h⟩
  | less n => exact ⟨fun h => by simp [tag, tagLess] at h, fun ⟨_, _, h⟩ => by cases h⟩
  | pow b n => exact ⟨fun h => by simp [tag] at h; omega, fun ⟨_, _, h⟩ => by cases h⟩
theorem rd_law_binds (K : PySem.W.Frag) (e : Ep) (w : Wf e) : SW (rVal cInt) [.val (cTr K) e] (t_law_binds K) (PF (binds e : Int)) := by
  unfold t_law_binds
  refine q_when (evT_or (evT_test (ev_eqT (ev_tr0 (ev_var rfl)) (ev_t [43] (by decide +kernel)))) fun _ => evT_test (ev_eqT (ev_tr0 (ev_var rfl)) (ev_t [45] (by decide +kernel)))) (fun hb => ?_) (fun hb => ?_)
  · rw [Bool.or_eq_true, decide_eq_true_eq, decide_eq_true_eq, tag_two w 43 (by omega), tag_two w 45 (by omega)] at hb
    rcases hb with ⟨l, r, rfl⟩ | ⟨l, r, rfl⟩ <;> exact sw_ret ev_int rfl
  · rw [Bool.or_eq_false_iff, decide_eq_false_iff_not, decide_eq_false_iff_not, tag_two w 43 (by omega), tag_two w 45 (by omega)] at hb
    refine q_when (evT_or (evT_test (ev_eqT (ev_tr0 (ev_var rfl)) (ev_t [42] (by decide +kernel)))) fun _ => evT_test (ev_eqT (ev_tr0 (ev_var rfl)) (ev_t [47] (by decide +kernel)))) (fun hc => ?_) (fun hc => ?_)
    · rw [Bool.or_eq_true, decide_eq_true_eq, decide_eq_true_eq, tag_two w 42 (by omega), tag_two w 47 (by omega)] at hc
      rcases hc with ⟨l, r, rfl⟩ | ⟨l, r, rfl⟩ <;> exact sw_ret ev_int rfl
    · rw [Bool.or_eq_false_iff, decide_eq_false_iff_not, decide_eq_false_iff_not, tag_two w 42 (by omega), tag_two w 47 (by omega)] at hc
      refine sw_ret (ev_bindsD (fun s l r z => ?_) (ev_tr0 (ev_var rfl))) rfl
      subst z
      rcases w.1 with h | h | h | h <;> subst h
      · exact hb.1 ⟨l, r, rfl⟩
      · exact hb.2 ⟨l, r, rfl⟩
      · exact hc.1 ⟨l, r, rfl⟩
      · exact hc.2 ⟨l, r, rfl⟩
theorem ev_lbinds {K : PySem.W.Frag} {Γ : Gam} {ta : TE} {E : XK} {e : Ep} (h : Ev Γ ta (cTr K) e) (w : Wf e) : Ev Γ (tCall (sp_law_binds K) [] E (tCons ta tNil)) cInt (binds e : Int) :=
  ev_call (f := fun a : Ep × Unit => (binds a.1 : Int)) (pre := fun a : Ep × Unit => Wf a.1) (ea_cons h ea_nil) w
def sp_law_text (K : PySem.W.Frag) (n : Nat) : Sp := SpF (aCons (cTr K) aNil) (fun a => size a.1 ≤ n ∧ n ≤ 5000 ∧ Wf a.1) cT (fun a => sh a.1)
def sp_law_inner (K : PySem.W.Frag) (n : Nat) : Sp := SpF (aCons (cTr K) (aCons cInt aNil)) (fun a => size a.1 ≤ n ∧ n ≤ 5000 ∧ Wf a.1 ∧ ∃ l : Nat, a.2.1 = l) cT (fun a => br (binds a.1) a.2.1.toNat (sh a.1))
theorem ev_ltext {K : PySem.W.Frag} {Γ : Gam} {ta : TE} {e : Ep} {E : XK} {n : Nat} (h : Ev Γ ta (cTr K) e) (h1 : size e ≤ n) (h2 : n ≤ 5000) (h3 : Wf e) : Ev Γ (tCall (sp_law_text K n) [] E (tCons ta tNil)) cT (sh e) :=
  ev_call (f := fun z : Ep × Unit => sh z.1) (pre := fun z : Ep × Unit => size z.1 ≤ n ∧ n ≤ 5000 ∧ Wf z.1) (ea_cons h ea_nil) ⟨h1, h2, h3⟩
theorem ev_linner {K : PySem.W.Frag} {Γ : Gam} {ta tb : TE} {e : Ep} {E : XK} {n l : Nat} (h : Ev Γ ta (cTr K) e) (hl : Ev Γ tb cInt (l : Int)) (h1 : size e ≤ n) (h2 : n ≤ 5000) (h3 : Wf e) : Ev Γ (tCall (sp_law_inner K n) [] E (tCons ta (tCons tb tNil))) cT (br (binds e) l (sh e)) :=
  ev_call (f := fun a : Ep × Int × Unit => br (binds a.1) a.2.1.toNat (sh a.1)) (pre := fun a : Ep × Int × Unit => size a.1 ≤ n ∧ n ≤ 5000 ∧ Wf a.1 ∧ ∃ l : Nat, a.2.1 = l) (ea_cons h (ea_cons hl ea_nil)) ⟨h1, h2, h3, l, rfl⟩
def t_law_inner (K : PySem.W.Frag) (n : Nat) : TS := tSeq (tIfS (tTest (tOp oLt (tCall (sp_law_binds K) [] E0 (tCons (tVar 0) tNil)) (tVar 1))) (tRet (tOp (rCatS) (tOp (rCatS) (tC (.str "(")) (tCall (sp_law_text K n) [] E0 (tCons (tVar 0) tNil))) (tC (.str ")")))) tNext) (tRet (tCall (sp_law_text K n) [] E0 (tCons (tVar 0) tNil)))
theorem rd_law_inner (K : PySem.W.Frag) (n : Nat) (e : Ep) (l : Nat) (h1 : size e ≤ n) (h2 : n ≤ 5000) (h3 : Wf e) : SW (rVal cT) [.val (cTr K) e, .val cInt (l : Int)] (t_law_inner K n) (PF (br (binds e) l (sh e))) := by
  have hl := sh_len e h3
  unfold t_law_inner
  refine q_when (evT_test (ev_lt (ev_lbinds (ev_var rfl) h3) (ev_var rfl))) (fun hc => ?_) (fun hc => ?_)
  · have hc := of_decide_eq_true hc
    refine sw_ret (ev_is (ev_catS (ev_catS (ev_t [40] (by decide +kernel)) (ev_ltext (e := e) (ev_var rfl) h1 h2 h3) (by simp; omega)) (ev_t [41] (by decide +kernel)) (by simp; omega)) ?_) rfl
    unfold br; rw [if_pos (by omega)]; simp
  · have hc := of_decide_eq_false hc
    refine sw_ret (ev_is (ev_ltext (e := e) (ev_var rfl) h1 h2 h3) ?_) rfl
    unfold br; rw [if_neg (by omega)]
def t_law_text (K : PySem.W.Frag) (n : Nat) : TS := tSeq (tIfS (tOr (tTest (tOp rEq (tOp (rIxT K) (tVar 0) (tC (.int 0))) (tC (.str "name")))) (tTest (tOp rEq (tOp (rIxT K) (tVar 0) (tC (.int 0))) (tC (.str "number"))))) (tRet (tCB rStrB (tCons (tOp (rIxT K) (tVar 0) (tC (.int 1))) tNil))) tNext) (tSeq (tIfS (tTest (tOp rEq (tOp (rIxT K) (tVar 0) (tC (.int 0))) (tC (.str "less")))) (tRet (tOp (rCatS) (tC (.str "-")) (tCall (sp_law_inner K n) [] E0 (tCons (tOp (rIxT K) (tVar 0) (tC (.int 1))) (tCons (tC (.int 2)) tNil))))) tNext) (tSeq (tIfS (tTest (tOp rEq (tOp (rIxT K) (tVar 0) (tC (.int 0))) (tC (.str "^")))) (tRet (tOp (rCatS) (tOp (rCatS) (tCall (sp_law_inner K n) [] E0 (tCons (tOp (rIxT K) (tVar 0) (tC (.int 1))) (tCons (tC (.int 4)) tNil))) (tC (.str "^"))) (tCB rStrI (tCons (tOp (rIxT K) (tVar 0) (tC (.int 2))) tNil)))) tNext) (tSeq (tAsg (tCall (sp_law_binds K) [] E0 (tCons (tVar 0) tNil)) (gName 1)) (tRet (tOp (rCatS) (tOp (rCatS) (tOp (rCatS) (tOp (rCatS) (tCall (sp_law_inner K n) [] E0 (tCons (tOp (rIxT K) (tVar 0) (tC (.int 1))) (tCons (tVar 1) tNil))) (tC (.str " "))) (tOp (rIxT K) (tVar 0) (tC (.int 0)))) (tC (.str " "))) (tCall (sp_law_inner K n) [] E0 (tCons (tOp (rIxT K) (tVar 0) (tC (.int 2))) (tCons (tOp oAdd (tVar 1) (tC (.int 1))) tNil))))))))
theorem num_log {n : Nat} (h : (TL.numL n).length ≤ 30) : n.log2 < 1920 := by
  have : n < 10 ^ 30 := num_lt h
  by_cases h0 : n = 0
  · subst h0; decide
  · rw [Nat.log2_lt h0]; exact Nat.lt_of_lt_of_le this (by decide +kernel)
theorem small_log {n : Nat} (h : n ≤ 12) : n.log2 < 1920 := num_log (TL.numL_len (k := 30) (by decide) (Nat.lt_of_le_of_lt h (by decide)))
theorem rd_law_text (K : PySem.W.Frag) (n : Nat) (e : Ep) (h1 : size e ≤ n + 1) (h2 : n ≤ 5000) (w : Wf e) : SW (rVal cT) [.val (cTr K) e, .any] (t_law_text K n) (PF (sh e)) := by
  unfold t_law_text
  refine q_when (evT_or (evT_test (ev_eqT (ev_tr0 (ev_var rfl)) (ev_t tagName (by decide +kernel)))) fun _ => evT_test (ev_eqT (ev_tr0 (ev_var rfl)) (ev_t tagNum (by decide +kernel)))) (fun hb => ?_) (fun hb => ?_)
  · cases e with
    | num m => exact sw_ret (ev_strBI (ev_trNum (ev_var rfl)) (num_log w)) rfl
    | name v => exact sw_ret (ev_strBS (ev_trName (ev_var rfl))) rfl
    | two s l r => simp [tag, tagName, tagNum] at hb
    | pow b m => simp [tag, tagName, tagNum] at hb
    | less b => simp [tag, tagName, tagNum, tagLess] at hb
  · refine q_when (evT_test (ev_eqT (ev_tr0 (ev_var rfl)) (ev_t tagLess (by decide +kernel)))) (fun hc => ?_) (fun hc => ?_)
    · cases e with
      | less b =>
        have hl := sh_len b w
        have hb' := br_len (b := binds b) (l := 2) (t := sh b)
        have hs : size b ≤ n := by simp [size] at h1; omega
        exact sw_ret (ev_is (ev_catS (ev_t [45] (by decide +kernel)) (ev_linner (e := b) (l := 2) (ev_trI (ev_var rfl)) ev_int hs h2 w) (by simp; omega)) rfl) rfl
      | num m => simp [tag, tagNum, tagLess] at hc
      | name v => simp [tag, tagName, tagLess] at hc
      | two s l r => simp [tag, tagLess] at hc
      | pow b m => simp [tag, tagLess] at hc
    · refine q_when (evT_test (ev_eqT (ev_tr0 (ev_var rfl)) (ev_t [94] (by decide +kernel)))) (fun hd => ?_) (fun hd => ?_)
      · cases e with
        | pow b m =>
          have hl := sh_len b w.1
          have hb' := br_len (b := binds b) (l := 4) (t := sh b)
          have hs : size b ≤ n := by simp [size] at h1; omega
          have h5 : (TL.numL m).length ≤ 2 := TL.numL_len (by decide) (by have := w.2; omega)
          refine sw_ret (ev_is (ev_catS (ev_catS (ev_linner (e := b) (l := 4) (ev_trB (ev_var rfl)) ev_int hs h2 w.1) (ev_t [94] (by decide +kernel)) (by simp; omega)) (ev_strI (n := m) (ev_trN (ev_var rfl)) (small_log w.2)) (by simp; omega)) ?_) rfl
          show _ = br (binds b) 4 (sh b) ++ 94 :: TL.numL m
          simp
        | two s l r => have : s = 94 := by simpa [tag] using hd
                       have := w.1; omega
        | num m => simp [tag, tagNum] at hd
        | name v => simp [tag, tagName] at hd
        | less b => simp [tag, tagLess] at hd
      · cases e with
        | two s l r =>
          have hll := sh_len l w.2.1
          have hlr := sh_len r w.2.2
          have hb1 := br_len (b := binds l) (l := bindS s) (t := sh l)
          have hb2 := br_len (b := binds r) (l := bindS s + 1) (t := sh r)
          have hs : size l + size r ≤ n := by simp [size] at h1; omega
          refine q_asg' (ev_is (ev_lbinds (ev_var rfl) w) (d' := ((bindS s : Nat) : Int)) rfl) ?_
          refine sw_ret (ev_is (ev_catS (ev_catS (ev_catS (ev_catS (ev_linner (e := l) (l := bindS s) (ev_trL (ev_var rfl)) (ev_var rfl) (by omega) h2 w.2.1) (ev_t [32] (by decide +kernel)) (by simp; omega)) (ev_tr0 (t := .two s l r) (ev_var rfl)) (by simp [tag]; omega)) (ev_t [32] (by decide +kernel)) (by simp [tag]; omega))
            (ev_linner (e := r) (l := bindS s + 1) (ev_trR (ev_var rfl)) (ev_is (ev_add (ev_var rfl) ev_int) (by omega)) (by omega) h2 w.2.2) (by simp [tag]; omega)) ?_) rfl
          show _ = br (binds l) (bindS s) (sh l) ++ 32 :: s :: 32 :: br (binds r) (bindS s + 1) (sh r)
          simp [tag]
        | pow b m => simp [tag] at hd
        | num m => simp [tag, tagName, tagNum] at hb
        | name v => simp [tag, tagName, tagNum] at hb
        | less b => simp [tag, tagLess] at hc
/-! ### calls of these -/
section
variable {K : PySem.W.Frag} {Γ : Gam} {ta tb tc : TE} {E : XK}
theorem evN_numbers {s : List Int} {k n : Nat} {x y : Int} (h1 : Ev Γ ta (cInts K) s) (h2 : Ev Γ tb cInt x) (h3 : Ev Γ tc cInt y) (hx : x = k) (hy : y = n) (hn : n ≤ 100) : EvN Γ (tCall (sp_law_numbers K) [] E (tCons ta (tCons tb (tCons tc tNil)))) cInt (numsF s k n) := by
  subst hx; subst hy
  have h := evN_call (E := E) (c2 := cInt) (f := fun a : List Int × Int × Int × Unit => numsF a.1 a.2.1.toNat a.2.2.1.toNat) (pre := fun a : List Int × Int × Int × Unit => ∃ k n : Nat, a.2.1 = k ∧ a.2.2.1 = n ∧ n ≤ 100) (ea_cons h1 (ea_cons h2 (ea_cons h3 ea_nil))) ⟨k, n, rfl, rfl, hn⟩
  dsimp only at h
  rw [Int.toNat_natCast, Int.toNat_natCast] at h
  exact h
theorem evN_names {ns : List Int} (h1 : Ev Γ ta (cInts K) ns) (hl : ns.length ≤ 10) (hx : ∀ x ∈ ns, 0 ≤ x ∧ x < 1000000) : EvN Γ (tCall (sp_law_names K) [] E (tCons ta tNil)) cT (namesF ns) :=
  evN_is (evN_call (f := fun a : List Int × Unit => namesF a.1) (pre := fun a : List Int × Unit => a.1.length ≤ 10 ∧ ∀ x ∈ a.1, 0 ≤ x ∧ x < 1000000) (ea_cons h1 ea_nil) ⟨hl, hx⟩) rfl
theorem ev_grown {ns : List Int} {ws : List T} {most : Int} (h1 : Ev Γ ta (cInts K) ns) (h2 : Ev Γ tb (cList K cT) ws) (h3 : Ev Γ tc cInt most) (hn : 0 < ns.length) (hl : ns.length ≤ 100) (hx : ∀ x ∈ ns, 0 ≤ x ∧ x < 1000000) (hw : NamesOk ws) (hwl : ws.length ≤ 100) (hm : 1 ≤ most) (hm2 : most ≤ 100) :
    Ev Γ (tCall (sp_law_grown K) [] E (tCons ta (tCons tb (tCons tc tNil)))) (cTr K) (grownF ns ws most) :=
  ev_is (ev_call (f := fun a : List Int × List T × Int × Unit => grownF a.1 a.2.1 a.2.2.1) (pre := fun a : List Int × List T × Int × Unit => (0 < a.1.length ∧ a.1.length ≤ 100 ∧ ∀ x ∈ a.1, 0 ≤ x ∧ x < 1000000) ∧ NamesOk a.2.1 ∧ a.2.1.length ≤ 100 ∧ 1 ≤ a.2.2.1 ∧ a.2.2.1 ≤ 100) (ea_cons h1 (ea_cons h2 (ea_cons h3 ea_nil))) ⟨⟨hn, hl, hx⟩, hw, hwl, hm, hm2⟩) rfl
theorem sp_read_of {Y : ExC} {C : ExA} {text : T} {e : Ep} {F H : Hp} {vs : List V} {Q : VK} (x : Ex F H) (r : (aCons cT aNil).rep F vs (text, ())) (hl : text.length ≤ 1000000) (hr : readL text = some e) (q : ∀ v F' H', Ext F H F' H' → (cEx Y).rep F' v e → Q v H') : sp_read K Y C vs H Q E := by
  unfold sp_read
  generalize hf : (fun a : T × Unit => readL a.1) = f
  have h1 : f (text, ()) = some e := by rw [← hf]; exact hr
  refine ⟨F, (text, ()), x, r, hl, fun b v F' H' hb e2 r2 => ?_, fun hb => ?_⟩
  · rw [h1] at hb; cases hb; exact q v F' H' e2 r2
  · rw [h1] at hb; cases hb
/-- read(text), which is read -/
theorem ev_read {Y : ExC} {C : ExA} {text : T} {e : Ep} (h : Ev Γ ta cT text) (g : G 30 0 text e) (hl : text.length ≤ 1000) : Ev Γ (tCall (sp_read K Y C) [] E (tCons ta tNil)) (cEx Y) e := fun F H σ S Q q =>
  ea_cons h ea_nil F H σ S _ fun vs F1 H1 e1 r1 => sp_read_of e1.i (by rw [List.append_nil]; exact r1) (by omega) (read_ok g hl) fun v F' H' e2 r2 => q v F' H' (e1.trans e2) r2
end
/-- numbers of the script, kept behind a name -/
theorem numsF_ex (s : List Int) (k n : Nat) : ∃ xs, xs = numsF s k n ∧ xs.length = n ∧ ∀ x ∈ xs, 0 ≤ x ∧ x < 1000000 := ⟨_, rfl, nums_len s k n, nums_mem s k n⟩
/-- an own text is read -/
theorem G_own {e : Ep} (w : Wf e) (hs : size e ≤ 30) : G 30 0 (sh e) e := G_up 0 (binds_le e) (by omega) (G_sh 30 e hs (by decide) w)
end Lw.X

/-! names of expressions -/
namespace Xp
open PySem L2 Pw PySem.Spec
/-- the names, as often as they stand -/
def occF : Ep → List T
  | .num _ => []
  | .name w => [w]
  | .two _ l r => occF l ++ occF r
  | .pow b _ => occF b
  | .less e => occF e
theorem occ_len : ∀ e : Ep, (occF e).length ≤ size e
  | .num _ => by simp [occF]
  | .name _ => by simp [occF, size]
  | .two _ l r => by have := occ_len l; have := occ_len r; simp [occF, size]; omega
  | .pow b _ => by have := occ_len b; simp [occF, size]; omega
  | .less e => by have := occ_len e; simp [occF, size]; omega
theorem occ_wf : ∀ e : Ep, Wf e → ∀ w ∈ occF e, ∀ c ∈ w, c < 0x110000
  | .num _, _, w, h => by simp [occF] at h
  | .name v, g, w, h => by
    have : w = v := by simpa [occF] using h
    subst this
    exact fun c hc => by have := g.2.2 c hc; unfold isLet at this; simp at this; omega
  | .two _ l r, g, w, h => by
    rcases List.mem_append.mp h with h | h
    · exact occ_wf l g.2.1 w h
    · exact occ_wf r g.2.2 w h
  | .pow b _, g, w, h => occ_wf b g.1 w h
  | .less e, g, w, h => occ_wf e g w h
def insT (w : T) : List T → List T
  | [] => [w]
  | x :: xs => if w = x then x :: xs else if ltCps w x = true then w :: x :: xs else x :: insT w xs
def sortT (ds : List T) : List T := ds.foldr insT []
theorem mem_ins (w : T) : ∀ (xs : List T) (k : T), k ∈ insT w xs ↔ k = w ∨ k ∈ xs
  | [], k => by simp [insT]
  | x :: xs, k => by
    unfold insT
    split
    · rename_i h; subst h; simp
    · split
      · simp
      · rw [List.mem_cons, mem_ins w xs k, List.mem_cons]
        constructor
        · rintro (h | h | h)
          · exact .inr (.inl h)
          · exact .inl h
          · exact .inr (.inr h)
        · rintro (h | h | h)
          · exact .inr (.inl h)
          · exact .inl h
          · exact .inr (.inr h)
theorem ris_ins (w : T) : ∀ {xs : List T}, RisT xs → RisT (insT w xs)
  | [], _ => List.pairwise_singleton ..
  | x :: xs, h => by
    obtain ⟨h1, h2⟩ := List.pairwise_cons.mp h
    unfold insT
    split
    · exact h
    · rename_i hne
      split
      · rename_i hl
        refine List.pairwise_cons.mpr ⟨fun y hy => ?_, h⟩
        rcases List.mem_cons.mp hy with rfl | hy
        · exact hl
        · exact ltc_trans hl (h1 y hy)
      · rename_i hl
        refine List.pairwise_cons.mpr ⟨fun y hy => ?_, ris_ins w h2⟩
        rcases (mem_ins w xs y).mp hy with rfl | hy
        · exact ltc_tot hne (by simpa using hl)
        · exact h1 y hy
theorem len_ins (w : T) : ∀ xs : List T, (insT w xs).length ≤ xs.length + 1
  | [] => by simp [insT]
  | x :: xs => by
    unfold insT
    split
    · simp
    · split
      · simp
      · have := len_ins w xs; simp; omega
theorem sort_mem (k : T) : ∀ ds : List T, k ∈ sortT ds ↔ k ∈ ds
  | [] => Iff.rfl
  | d :: ds => by
    show k ∈ insT d (sortT ds) ↔ _
    rw [mem_ins, sort_mem k ds, List.mem_cons]
theorem sort_ris : ∀ ds : List T, RisT (sortT ds)
  | [] => List.Pairwise.nil
  | d :: ds => ris_ins d (sort_ris ds)
theorem sort_len : ∀ ds : List T, (sortT ds).length ≤ ds.length
  | [] => Nat.le_refl _
  | d :: ds => by have := len_ins d (sortT ds); have := sort_len ds; show (insT d (sortT ds)).length ≤ ds.length + 1; omega
/-- the names of an expression, rising, each once -/
def namesOf (e : Ep) : List T := sortT (occF e)
theorem namesOf_ok {e : Ep} (w : Wf e) : TxsOk (namesOf e) := fun d hd => occ_wf e w d ((sort_mem d _).mp hd)
end Xp
namespace Lw.X
open PySem PySem.Spec PyProof.Rows L2 Pw Xp
theorem nf_alln : ("all_names" : Str) ∉ fldNames := by decide +kernel
theorem nf_names : ("names" : Str) ∉ fldNames := by decide +kernel
def sp_all_names (K : PySem.W.Frag) (Y : ExC) (n : Nat) : Nat → Sp := SpMF Y aNil (fun z => size z.1 ≤ n ∧ n ≤ 5000) (cList K cT) (fun z => occF z.1)
theorem ev_alln {K : PySem.W.Frag} {Y : ExC} {Γ : Gam} {ta : TE} {e : Ep} {E : XK} {n : Nat} (h : Ev Γ ta (cEx Y) e) (h1 : size e ≤ n) (h2 : n ≤ 5000) : Ev Γ (tM5 Y "all_names" (sp_all_names K Y n) E ta tNil) (cList K cT) (occF e) :=
  ev_mF (f := fun z : Ep × Unit => occF z.1) (pre := fun z : Ep × Unit => size z.1 ≤ n ∧ n ≤ 5000) h ea_nil ⟨h1, h2⟩ nf_alln
def sp_names (K : PySem.W.Frag) (Y : ExC) : Nat → Sp := SpMN Y aNil (fun z => size z.1 ≤ 40) cT (fun z => namesOf z.1)
theorem evN_namesM {K : PySem.W.Frag} {Y : ExC} {Γ : Gam} {ta : TE} {e : Ep} {E : XK} (h : Ev Γ ta (cEx Y) e) (h1 : size e ≤ 40) : EvN Γ (tM5 Y "names" (sp_names K Y) E ta tNil) cT (namesOf e) :=
  evN_m (f := fun z : Ep × Unit => namesOf z.1) (pre := fun z : Ep × Unit => size z.1 ≤ 40) h ea_nil h1 nf_names
def t_Expression_names (K : PySem.W.Frag) (Y : ExC) : TS := tRet (tSortSet K (tM5 Y "all_names" (sp_all_names K Y 40) E0 (tVar 0) tNil))
theorem rd_Expression_names (K : PySem.W.Frag) (Y : ExC) (e : Ep) (h : size e ≤ 40) : SW (rNew cT) [.val (cEx Y) e] (t_Expression_names K Y) (PF (namesOf e)) := by
  have := occ_len e
  have := sort_len (occF e)
  exact sw_retN (ev_sortSetV (ev_alln (n := 40) (ev_var rfl) h (by decide)) (sort_ris _) (fun k => sort_mem k _) (by show (occF e).length + 1 < 4096; omega) (by omega)) rfl
def t_Number_all_names (K : PySem.W.Frag) : TS := tRet (tLst tNil)
def t_Name_all_names (K : PySem.W.Frag) : TS := tRet (tLst (tCons (tFld K (tVar 0) "word") tNil))
def t_Two_all_names (K : PySem.W.Frag) (Y : ExC) (n : Nat) : TS := tSeq (tAsg (tMeth Y.Two "spine" (sp_Two_spine K Y) [] E0 (tVar 0) tNil) (gTup K 2 (gCons (gName 1) (gCons (gName 2) (gNil))))) (tSeq (tAsg (tM5 Y "all_names" (sp_all_names K Y n) E0 (tVar 1) tNil) (gName 3)) (tSeq (tFor (iList K (tVar 2)) (gName 4) (tAsg (tOp (rCatQ K) (tVar 3) (tM5 Y "all_names" (sp_all_names K Y n) E0 (tFld K (tVar 4) "right") tNil)) (gName 3))) (tRet (tVar 3))))
def t_Power_all_names (K : PySem.W.Frag) (Y : ExC) (n : Nat) : TS := tRet (tM5 Y "all_names" (sp_all_names K Y n) E0 (tFld K (tVar 0) "base") tNil)
def t_Less_all_names (K : PySem.W.Frag) (Y : ExC) (n : Nat) : TS := tRet (tM5 Y "all_names" (sp_all_names K Y n) E0 (tOp (rIxT K) (tMeth Y.Less "core" (sp_Less_core K Y) [] E0 (tVar 0) tNil) (tC (.int 0))) tNil)
theorem rd_Number_all_names (K : PySem.W.Frag) (Y : ExC) (e : Ep) (h : clsI e = 0) : SW (rVal (cList K cT)) [.val (cEx Y) e] (t_Number_all_names K) (PF (occF e)) := by
  cases e with
  | num n => exact sw_ret (evN_lst el_nil (by simp)).ev rfl
  | _ => cases h
theorem rd_Name_all_names (K : PySem.W.Frag) (Y : ExC) (k : ExK K Y) (e : Ep) (h : clsI e = 1) : SW (rVal (cList K cT)) [.val (cEx Y) e] (t_Name_all_names K) (PF (occF e)) := by
  cases e with
  | name w => exact sw_ret (evN_lst (el_cons (ev_fWord k (ev_var rfl)) el_nil) (by simp)).ev rfl
  | _ => cases h
theorem rd_Power_all_names (K : PySem.W.Frag) (Y : ExC) (k : ExK K Y) (n : Nat) (e : Ep) (h : clsI e = 3) (h1 : size e ≤ n + 1) (h2 : n ≤ 5000) : SW (rVal (cList K cT)) [.val (cEx Y) e] (t_Power_all_names K Y n) (PF (occF e)) := by
  cases e with
  | pow b m => exact sw_ret (ev_alln (e := b) (ev_fBase k (ev_var rfl)) (by simp [size] at h1; omega) h2) rfl
  | _ => cases h
theorem occ_lessN (e : Ep) : ∀ m, occF (lessN m e) = occF e
  | 0 => rfl
  | m + 1 => occ_lessN e m
theorem rd_Less_all_names (K : PySem.W.Frag) (Y : ExC) (k : ExK K Y) (n : Nat) (e : Ep) (h : clsI e = 4) (h1 : size e ≤ n + 1) (h2 : n ≤ 5000) : SW (rVal (cList K cT)) [.val (cEx Y) e] (t_Less_all_names K Y n) (PF (occF e)) := by
  have hc := chain_eq e
  generalize hq : chain e = q at hc
  obtain ⟨m, c⟩ := q
  dsimp only at hc
  have hm : ∃ j, m = j + 1 := by
    cases e with
    | less b => have : (chain b).1 + 1 = m := congrArg Prod.fst hq; exact ⟨_, this.symm⟩
    | _ => cases h
  obtain ⟨j, rfl⟩ := hm
  have hs : size e = size c + (j + 1) := by rw [hc]; exact size_lessN c _
  have ec : Ev ([.val (cEx Y) e] : Gam) (tMeth Y.Less "core" (sp_Less_core K Y) [] E0 (tVar 0) tNil) (cPair K (cEx Y) cInt) (c, ((j + 1 : Nat) : Int)) := fun F H σ S Q q => by
    obtain ⟨v, h1, h2⟩ := S.var (i := 0) rfl
    obtain ⟨a, dx, fs, rfl, ha, hl⟩ := ex_at h2
    rw [h, show Y.at_ 4 = Y.Less from rfl] at ha
    exact ⟨.ref a, h1, a, dx, fs, rfl, S.ex a _ ha, hl _ (by decide +kernel), F, (e, ()), S.ex, ⟨_, _, rfl, h2, rfl⟩, h, fun v F' H' e' r => q v F' H' e' (by have r := r; dsimp only at r; rw [hq] at r; exact r)⟩
  refine sw_ret (ev_is (ev_alln (e := c) (ev_p0 ec) (by omega) h2) ?_) rfl
  rw [hc, occ_lessN]
theorem rd_Two_all_names (K : PySem.W.Frag) (Y : ExC) (k : ExK K Y) (n : Nat) (e : Ep) (h : clsI e = 2) (h1 : size e ≤ n + 1) (h2 : n < 5000) : SW (rVal (cList K cT)) [.val (cEx Y) e, .any, .any, .any, .any] (t_Two_all_names K Y n) (PF (occF e)) := by
  unfold t_Two_all_names
  have ec : Ev ([.val (cEx Y) e, .any, .any, .any, .any] : Gam) (tMeth Y.Two "spine" (sp_Two_spine K Y) [] E0 (tVar 0) tNil) (cPair K (cEx Y) (cList K (cEx Y))) (spineF e) := fun F H σ S Q q => by
    obtain ⟨v, g1, g2⟩ := S.var (i := 0) rfl
    obtain ⟨a, dx, fs, rfl, ha, hl⟩ := ex_at g2
    rw [h, show Y.at_ 2 = Y.Two from rfl] at ha
    exact ⟨.ref a, g1, a, dx, fs, rfl, S.ex a _ ha, hl _ (by decide +kernel), F, (e, ()), S.ex, ⟨_, _, rfl, g2, rfl⟩, ⟨h, by show size e ≤ 5000; omega⟩, fun v F' H' e' r => q v F' H' e' r⟩
  have hf : size (spineF e).1 ≤ n := by
    cases e with
    | two s l r => have := spine_two (s := s) (l := l) (r := r); omega
    | _ => cases h
  refine q_un2 ec (fun x y hx hy => ?_)
  subst hx; subst hy
  refine q_asg' (ev_alln (ev_var rfl) hf (by omega)) ?_
  refine q_forLG (fun i => [.val (cEx Y) e, .val (cEx Y) (spineF e).1, .val (cList K (cEx Y)) (spineF e).2, .val (cList K cT) (occF (pvx (spineF e).1 (spineF e).2 i)), .any]) (ev_var rfl) (Wk.refl _) (fun i d hd => ?_) ?_
  · obtain ⟨s, r, hdr⟩ := spine_at e i d hd
    have hmem : d ∈ (spineF e).2 := List.mem_of_getElem? hd
    obtain ⟨hz1, hz2⟩ := (spine_size e).2 d hmem
    have hnext : pvx (spineF e).1 (spineF e).2 (i + 1) = d := by
      unfold pvx
      rw [List.getD_cons_succ, List.getD_eq_getElem?_getD, hd]; rfl
    generalize hp : pvx (spineF e).1 (spineF e).2 i = p at hdr ⊢
    subst hdr
    have hsz : size p + size r + 1 ≤ n + 1 := by simpa [size] using Nat.le_trans hz1 h1
    have := occ_len p
    have := occ_len r
    have := size_pos p
    refine sw_asg (EvN.ev (K := K) (evN_catQ (ev_var rfl) (ev_alln (e := r) (ev_fRight k (ev_var rfl)) (by omega) (by omega)) (by omega))) ?_
    rw [hnext]
    exact .same (.same (.same (.same (.any .nil))))
  · rw [spine_end]
    exact sw_ret (ev_var rfl) rfl
end Lw.X

/-! values of expressions: the program's defs -/
namespace Lw.X
open PySem PySem.Spec PyProof.Rows L2 Pw Xp
theorem ev_O1 {K : PySem.W.Frag} {Γ : Gam} {O1 : Addr} (h : ∀ H : Hp, SqT K H O1 [.int 1, .int 1]) : Ev Γ (tC (.ref O1)) (cQ K) 1 :=
  ev_c fun F => ⟨O1, _, rfl, h F, .int 1, [.int 1], rfl, rfl, .int 1, [], rfl, rfl, rfl⟩
def sp_to_power (K : PySem.W.Frag) : Sp := SpF (aCons (cQ K) (aCons cInt aNil)) (fun a => ∃ n : Nat, a.2.1 = n ∧ n ≤ 1000 ∧ ∀ i, i ≤ n → QB 4000 (a.1 ^ i)) (cQ K) (fun a => a.1 ^ a.2.1.toNat)
def t_to_power (K : PySem.W.Frag) (O1 : Addr) : TS := tSeq (tAsg (tC (.ref O1)) (gName 2)) (tSeq (tFor (iRng1 (tCons (tVar 1) tNil)) (gName 3) (tAsg (tCall (sp_times K) [] E0 (tCons (tVar 2) (tCons (tVar 0) tNil))) (gName 2))) (tRet (tVar 2)))
theorem rd_to_power (K : PySem.W.Frag) (O1 : Addr) (hO : ∀ H : Hp, SqT K H O1 [.int 1, .int 1]) (q : Rat) (n : Nat) (hn : n ≤ 1000) (h : ∀ i, i ≤ n → QB 4000 (q ^ i)) : SW (rVal (cQ K)) [.val (cQ K) q, .val cInt (n : Int), .any, .any] (t_to_power K O1) (PF (q ^ n)) := by
  unfold t_to_power
  refine q_asg' (ev_is (ev_O1 hO) (d' := q ^ 0) (Rat.pow_zero q).symm) ?_
  refine q_forR1G (fun i => [.val (cQ K) q, .val cInt (n : Int), .val (cQ K) (q ^ i), .any]) (ev_var rfl) (by omega) (by omega) (Wk.refl _) (fun i hi => ?_) ?_
  · have h1 : QB 4000 q := by have := h 1 (by omega); rwa [Rat.pow_succ, Rat.pow_zero, Rat.one_mul] at this
    refine sw_asg (ev_is (ev_call (f := fun a : Rat × Rat × Unit => a.1 * a.2.1) (pre := preQ) (ea_cons (ev_var rfl) (ea_cons (ev_var rfl) ea_nil)) ⟨h i (by omega), h1⟩) (d' := q ^ (i + 1)) (Rat.pow_succ q i).symm) (.same (.same (.same (.any .nil))))
  · rw [Int.toNat_natCast]; exact sw_ret (ev_var rfl) rfl
theorem evX_power {K : PySem.W.Frag} {Γ : Gam} {ta tb : TE} {q : Option Rat} {n : Nat} {C : Addr} {E E' : XK} (h : EvX Γ ta (cQ K) q C E) (h2 : Ev Γ tb cInt (n : Int)) (hn : n ≤ 1000) (hq : ∀ x, q = some x → ∀ i, i ≤ n → QB 4000 (x ^ i)) :
    EvX Γ (tCall (sp_to_power K) [] E' (tCons ta (tCons tb tNil))) (cQ K) (q.map fun x => x ^ n) C E := by
  refine evX_is (evX_callF (f := fun a : Rat × Int × Unit => a.1 ^ a.2.1.toNat) (eax_cons h (eax_cons (EvX.of h2) eax_nil)) (fun x hx => ?_)) ?_
  · cases q with
    | none => cases hx
    | some v => cases hx; exact ⟨n, rfl, hn, hq v rfl⟩
  · cases q with
    | none => rfl
    | some v => show some (v ^ ((n : Nat) : Int).toNat) = some (v ^ n); rw [Int.toNat_natCast]
def sp_put_together (K : PySem.W.Frag) (C : ExA) : Sp := SpX (aCons cT (aCons (cQ K) (aCons (cQ K) aNil))) (fun a => ∃ s, a.1 = [s] ∧ QB 4000 a.2.1 ∧ QB 4000 a.2.2.1) (cQ K) (fun a => putT (a.1.headD 0) a.2.1 a.2.2.1) C.NoValue
def t_put_together (K : PySem.W.Frag) (C : ExA) (E : XK) : TS := tSeq (tIfS (tTest (tOp rEq (tVar 0) (tC (.str "+")))) (tRet (tCall (sp_plus K) [] E0 (tCons (tVar 1) (tCons (tVar 2) tNil)))) tNext) (tSeq (tIfS (tTest (tOp rEq (tVar 0) (tC (.str "-")))) (tRet (tCall (sp_minus K) [] E0 (tCons (tVar 1) (tCons (tVar 2) tNil)))) tNext) (tSeq (tIfS (tTest (tOp rEq (tVar 0) (tC (.str "*")))) (tRet (tCall (sp_times K) [] E0 (tCons (tVar 1) (tCons (tVar 2) tNil)))) tNext) (tSeq (tIfS (tTest (tOp rEq (tOp (rIxT K) (tVar 2) (tC (.int 0))) (tC (.int 0)))) (tRaise C.NoValue E) tNext) (tRet (tCall (sp_over K C) [] E0 (tCons (tVar 1) (tCons (tVar 2) tNil)))))))
theorem rd_put_together (K : PySem.W.Frag) (C : ExA) (E : XK) (s : Nat) (x y : Rat) (hx : QB 4000 x) (hy : QB 4000 y) : SW (rVal (cQ K)) [.val cT [s], .val (cQ K) x, .val (cQ K) y] (t_put_together K C E) (PX (putT s x y) C.NoValue E) := by
  unfold t_put_together
  refine q_when (evT_test (ev_eqT (ev_var rfl) (ev_t [43] (by decide +kernel)))) (fun h => ?_) (fun h1 => ?_)
  · have h : s = 43 := by simpa using h
    refine sw_ret (ev_call (f := fun a : Rat × Rat × Unit => a.1 + a.2.1) (pre := preQ) (ea_cons (ev_var rfl) (ea_cons (ev_var rfl) ea_nil)) ⟨hx, hy⟩) ?_
    show putT s x y = _; unfold putT; rw [if_pos h]
  have h1 : s ≠ 43 := by simpa using h1
  refine q_when (evT_test (ev_eqT (ev_var rfl) (ev_t [45] (by decide +kernel)))) (fun h => ?_) (fun h2 => ?_)
  · have h : s = 45 := by simpa using h
    refine sw_ret (ev_call (f := fun a : Rat × Rat × Unit => a.1 - a.2.1) (pre := preQ) (ea_cons (ev_var rfl) (ea_cons (ev_var rfl) ea_nil)) ⟨hx, hy⟩) ?_
    show putT s x y = _; unfold putT; rw [if_neg h1, if_pos h]
  have h2 : s ≠ 45 := by simpa using h2
  refine q_when (evT_test (ev_eqT (ev_var rfl) (ev_t [42] (by decide +kernel)))) (fun h => ?_) (fun h3 => ?_)
  · have h : s = 42 := by simpa using h
    refine sw_ret (ev_call (f := fun a : Rat × Rat × Unit => a.1 * a.2.1) (pre := preQ) (ea_cons (ev_var rfl) (ea_cons (ev_var rfl) ea_nil)) ⟨hx, hy⟩) ?_
    show putT s x y = _; unfold putT; rw [if_neg h1, if_neg h2, if_pos h]
  have h3 : s ≠ 42 := by simpa using h3
  refine q_when (evT_test (ev_eqI (ev_num (ev_var rfl)) ev_int)) (fun h => ?_) (fun h4 => ?_)
  · refine sw_raise rfl ⟨rfl, ?_⟩
    show putT s x y = none; unfold putT; rw [if_neg h1, if_neg h2, if_neg h3, if_pos (Rat.num_eq_zero.mp (of_decide_eq_true h))]
  · have h4 : ¬ y = 0 := fun z => of_decide_eq_false h4 (Rat.num_eq_zero.mpr z)
    refine sw_ret (ev_callX (f := fun a : Rat × Rat × Unit => overF a.1 a.2.1) (pre := preQ) (b := x / y) (ea_cons (ev_var rfl) (ea_cons (ev_var rfl) ea_nil)) ⟨hx, hy⟩ (by show overF x y = _; unfold overF; rw [if_neg h4])) ?_
    show putT s x y = _; unfold putT; rw [if_neg h1, if_neg h2, if_neg h3, if_neg h4]
theorem evX_put {K : PySem.W.Frag} {C : ExA} {Γ : Gam} {ta tb tc : TE} {s : Nat} {x : Rat} {y : Option Rat} {E : XK} (h1 : Ev Γ ta cT [s]) (h2 : Ev Γ tb (cQ K) x) (h3 : EvX Γ tc (cQ K) y C.NoValue E) (hx : QB 4000 x) (hy : ∀ v, y = some v → QB 4000 v) :
    EvX Γ (tCall (sp_put_together K C) [] E (tCons ta (tCons tb (tCons tc tNil)))) (cQ K) (y.bind fun v => putT s x v) C.NoValue E := by
  refine evX_is (evX_callA (f := fun a : T × Rat × Rat × Unit => putT (a.1.headD 0) a.2.1 a.2.2.1) (eax_cons (EvX.of h1) (eax_cons (EvX.of h2) (eax_cons h3 eax_nil))) (fun a ha => ?_)) ?_
  · cases y with
    | none => cases ha
    | some v => cases ha; exact ⟨s, rfl, hx, hy v rfl⟩
  · cases y with
    | none => rfl
    | some v => rfl
theorem QB0 : QB 4000 (0 : Rat) := ⟨Nat.two_pow_pos _, Nat.one_lt_two_pow (by decide)⟩
/-! ### value -/
theorem nf_value : ("value" : Str) ∉ fldNames := by decide +kernel
def sp_value (K : PySem.W.Frag) (Y : ExC) (C : ExA) (n : Nat) : Nat → Sp := SpMX Y (aCons (cDi (cQ K)) aNil) (fun z => dep z.1 ≤ n ∧ size z.1 ≤ 5000 ∧ Wf z.1 ∧ VB z.2.1 z.1) (cQ K) (fun z => valF z.2.1 z.1) C.NoValue
theorem evX_value {K : PySem.W.Frag} {Y : ExC} {C : ExA} {Γ : Gam} {ta tb : TE} {e : Ep} {pt : Pt} {E : XK} {n : Nat} (h : Ev Γ ta (cEx Y) e) (hp : Ev Γ tb (cDi (cQ K)) pt) (h1 : dep e ≤ n) (h2 : size e ≤ 5000) (w : Wf e) (vb : VB pt e) :
    EvX Γ (tM5 Y "value" (sp_value K Y C n) E ta (tCons tb tNil)) (cQ K) (valF pt e) C.NoValue E :=
  evX_m (f := fun z : Ep × Pt × Unit => valF z.2.1 z.1) (pre := fun z : Ep × Pt × Unit => dep z.1 ≤ n ∧ size z.1 ≤ 5000 ∧ Wf z.1 ∧ VB z.2.1 z.1) h (ea_cons hp ea_nil) ⟨h1, h2, w, vb⟩ nf_value
def t_Number_value (K : PySem.W.Frag) (C : ExA) (Y : ExC) (n : Nat) (E : XK) : TS := tRet (tTup (tCons (tFld K (tVar 0) "whole") (tCons (tC (.int 1)) tNil)))
def t_Name_value (K : PySem.W.Frag) (C : ExA) (Y : ExC) (n : Nat) (E : XK) : TS := tSeq (tIfS (tTest (tDNotIn (tFld K (tVar 0) "word") (tVar 1))) (tRaise C.NoValue E) tNext) (tRet (tDGet (tVar 1) (tFld K (tVar 0) "word")))
def t_Two_value (K : PySem.W.Frag) (C : ExA) (Y : ExC) (n : Nat) (E : XK) : TS := tSeq (tAsg (tMeth Y.Two "spine" (sp_Two_spine K Y) [] E0 (tVar 0) tNil) (gTup K 2 (gCons (gName 2) (gCons (gName 3) (gNil))))) (tSeq (tAsg (tM5 Y "value" (sp_value K Y C n) E (tVar 2) (tCons (tVar 1) tNil)) (gName 4)) (tSeq (tFor (iList K (tVar 3)) (gName 5) (tAsg (tCall (sp_put_together K C) [] E (tCons (tFld K (tVar 5) "sign") (tCons (tVar 4) (tCons (tM5 Y "value" (sp_value K Y C n) E (tFld K (tVar 5) "right") (tCons (tVar 1) tNil)) tNil)))) (gName 4))) (tRet (tVar 4))))
def t_Power_value (K : PySem.W.Frag) (C : ExA) (Y : ExC) (n : Nat) (E : XK) : TS := tRet (tCall (sp_to_power K) [] E0 (tCons (tM5 Y "value" (sp_value K Y C n) E (tFld K (tVar 0) "base") (tCons (tVar 1) tNil)) (tCons (tFld K (tVar 0) "exponent") tNil)))
def t_Less_value (K : PySem.W.Frag) (C : ExA) (Y : ExC) (n : Nat) (E : XK) : TS := tSeq (tAsg (tMeth Y.Less "core" (sp_Less_core K Y) [] E0 (tVar 0) tNil) (gTup K 2 (gCons (gName 2) (gCons (gName 3) (gNil))))) (tSeq (tAsg (tM5 Y "value" (sp_value K Y C n) E (tVar 2) (tCons (tVar 1) tNil)) (gName 4)) (tSeq (tIfS (tTest (tOp rEq (tOp oMod (tVar 3) (tC (.int 2))) (tC (.int 1)))) (tAsg (tCall (sp_minus K) [] E0 (tCons (tTup (tCons (tC (.int 0)) (tCons (tC (.int 1)) tNil))) (tCons (tVar 4) tNil))) (gName 4)) tNext) (tRet (tVar 4))))
section
variable (K : PySem.W.Frag) (C : ExA) (Y : ExC) (k : ExK K Y) (pt : Pt)
include k
theorem rd_Number_value (n : Nat) (E : XK) (e : Ep) (h : clsI e = 0) : SW (rVal (cQ K)) [.val (cEx Y) e, .val (cDi (cQ K)) pt] (t_Number_value K C Y n E) (PX (valF pt e) C.NoValue E) := by
  cases e with
  | num a => exact sw_ret (ev_q (q := ((a : Nat) : Rat)) (ev_is (ev_fWhole k (ev_var rfl)) rfl) (ev_is ev_int rfl)) rfl
  | _ => cases h
theorem rd_Name_value (n : Nat) (E : XK) (e : Ep) (h : clsI e = 1) : SW (rVal (cQ K)) [.val (cEx Y) e, .val (cDi (cQ K)) pt] (t_Name_value K C Y n E) (PX (valF pt e) C.NoValue E) := by
  cases e with
  | name w =>
    unfold t_Name_value
    refine q_when (evT_test (ev_dnotin (ev_fWord k (ev_var rfl)) (ev_var rfl))) (fun hb => ?_) (fun hb => ?_)
    · refine sw_raise rfl ⟨rfl, ?_⟩
      show lkD pt w = none
      cases hl : lkD pt w with
      | none => rfl
      | some x => rw [hl] at hb; cases hb
    · obtain ⟨x, hx⟩ : ∃ x, lkD pt w = some x := by
        cases hl : lkD pt w with
        | none => rw [hl] at hb; cases hb
        | some x => exact ⟨x, rfl⟩
      exact sw_ret (ev_dget (ev_var rfl) (ev_fWord k (ev_var rfl)) hx) hx
  | _ => cases h
theorem rd_Power_value (n : Nat) (E : XK) (e : Ep) (h : clsI e = 3) (h1 : dep e ≤ n + 1) (h2 : size e ≤ 5000) (w : Wf e) (vb : VB pt e) : SW (rVal (cQ K)) [.val (cEx Y) e, .val (cDi (cQ K)) pt] (t_Power_value K C Y n E) (PX (valF pt e) C.NoValue E) := by
  cases e with
  | pow b m =>
    have := w.2
    exact sw_retX (evX_power (evX_value (e := b) (ev_fBase k (ev_var rfl)) (ev_var rfl) (by unfold dep at h1 ⊢; simp [dd] at h1; omega) (by simp [size] at h2; omega) w.1 vb.1) (ev_fExp k (ev_var rfl)) (by omega) (fun x hx => vb.2 x hx)) rfl (fun x hx => hx) (fun hn => ⟨rfl, hn⟩)
  | _ => cases h
theorem rd_Less_value (n : Nat) (E : XK) (e : Ep) (h : clsI e = 4) (h1 : dep e ≤ n + 1) (h2 : size e ≤ 5000) (w : Wf e) (vb : VB pt e) : SW (rVal (cQ K)) [.val (cEx Y) e, .val (cDi (cQ K)) pt, .any, .any, .any] (t_Less_value K C Y n E) (PX (valF pt e) C.NoValue E) := by
  have hc := chain_eq e
  generalize hq : chain e = q at hc
  obtain ⟨m, c⟩ := q
  dsimp only at hc
  have hm : ∃ j, m = j + 1 := by
    cases e with
    | less b => have : (chain b).1 + 1 = m := congrArg Prod.fst hq; exact ⟨_, this.symm⟩
    | _ => cases h
  obtain ⟨j, rfl⟩ := hm
  have hs : size e = size c + (j + 1) := by rw [hc]; exact size_lessN c _
  have hd := dep_lessN c (j + 1)
  rw [← hc] at hd
  have wc : Wf c := wf_lessN c _ (hc ▸ w)
  have vc : VB pt c := (VB_lessN c (j + 1)).mp (hc ▸ vb)
  have ec : Ev ([.val (cEx Y) e, .val (cDi (cQ K)) pt, .any, .any, .any] : Gam) (tMeth Y.Less "core" (sp_Less_core K Y) [] E0 (tVar 0) tNil) (cPair K (cEx Y) cInt) (c, ((j + 1 : Nat) : Int)) := fun F H σ S Q q => by
    obtain ⟨v, h1, h2⟩ := S.var (i := 0) rfl
    obtain ⟨a, dx, fs, rfl, ha, hl⟩ := ex_at h2
    rw [h, show Y.at_ 4 = Y.Less from rfl] at ha
    exact ⟨.ref a, h1, a, dx, fs, rfl, S.ex a _ ha, hl _ (by decide +kernel), F, (e, ()), S.ex, ⟨_, _, rfl, h2, rfl⟩, h, fun v F' H' e' r => q v F' H' e' (by have r := r; dsimp only at r; rw [hq] at r; exact r)⟩
  have hv : valF pt e = (valF pt c).map fun q => if (j + 1) % 2 = 1 then 0 - q else q := by rw [hc]; exact val_lessN pt c (j + 1)
  unfold t_Less_value
  refine q_un2 ec (fun x y hx hy => ?_)
  subst hx; subst hy
  refine q_asgX (evX_value (e := x) (ev_var rfl) (ev_var rfl) (by omega) (by omega) wc vc) rfl (fun v hv' => ?_) (fun hn => ⟨rfl, by rw [hv, hn]; rfl⟩)
  have qb := VB_val vc hv'
  refine q_join [.val (cEx Y) e, .val (cDi (cQ K)) pt, .val (cEx Y) x, .val cInt ((j + 1 : Nat) : Int), .val (cQ K) (if (j + 1) % 2 = 1 then 0 - v else v)] ?_ ?_
  · refine sw_when (evT_test (ev_eqI (ev_mod (ev_var rfl) ev_int (by decide)) ev_int)) (fun hb => ?_) (fun hb => ?_)
    · have hb : (j + 1) % 2 = 1 := by have := of_decide_eq_true hb; omega
      rw [if_pos hb]
      refine sw_asg (ev_call (f := fun a : Rat × Rat × Unit => a.1 - a.2.1) (pre := preQ) (ea_cons (ev_qc (i := 0) (q := 0) rfl) (ea_cons (ev_var rfl) ea_nil)) ⟨QB0, qb⟩) (Wk.refl _)
    · have hb : ¬ (j + 1) % 2 = 1 := by have := of_decide_eq_false hb; omega
      rw [if_neg hb]
      exact Wk.refl _
  · refine sw_ret (ev_var rfl) ?_
    show valF pt e = some _
    rw [hv, hv']; rfl
omit k in
theorem val_two (s : Nat) (p r : Ep) {x : Rat} (h : valF pt p = some x) : valF pt (.two s p r) = (valF pt r).bind fun v => putT s x v := by
  show (both (valF pt p) (valF pt r)).bind _ = _
  rw [h]; cases valF pt r <;> rfl
theorem rd_Two_value (n : Nat) (E : XK) (e : Ep) (h : clsI e = 2) (h1 : dep e ≤ n + 1) (h2 : size e ≤ 5000) (w : Wf e) (vb : VB pt e) : SW (rVal (cQ K)) [.val (cEx Y) e, .val (cDi (cQ K)) pt, .any, .any, .any, .any] (t_Two_value K C Y n E) (PX (valF pt e) C.NoValue E) := by
  have ec : Ev ([.val (cEx Y) e, .val (cDi (cQ K)) pt, .any, .any, .any, .any] : Gam) (tMeth Y.Two "spine" (sp_Two_spine K Y) [] E0 (tVar 0) tNil) (cPair K (cEx Y) (cList K (cEx Y))) (spineF e) := fun F H σ S Q q => by
    obtain ⟨v, g1, g2⟩ := S.var (i := 0) rfl
    obtain ⟨a, dx, fs, rfl, ha, hl⟩ := ex_at g2
    rw [h, show Y.at_ 2 = Y.Two from rfl] at ha
    exact ⟨.ref a, g1, a, dx, fs, rfl, S.ex a _ ha, hl _ (by decide +kernel), F, (e, ()), S.ex, ⟨_, _, rfl, g2, rfl⟩, ⟨h, h2⟩, fun v F' H' e' r => q v F' H' e' r⟩
  have hq1 : (dd e).1 ≤ n := by
    cases e with
    | two s l r => unfold dep at h1; simp [dd] at h1 ⊢; omega
    | _ => cases h
  obtain ⟨d1, d2⟩ := dep_spine e
  obtain ⟨v1, v2⟩ := VB_spine vb
  obtain ⟨⟨s1, s2⟩, s3⟩ := spine_size e
  unfold t_Two_value
  refine q_un2 ec (fun x y hx hy => ?_)
  subst hx; subst hy
  have hup : ∀ m i, m = (spineF e).2.length - i → i ≤ (spineF e).2.length → valF pt (pvx (spineF e).1 (spineF e).2 i) = none → valF pt e = none := fun m => by
    induction m with
    | zero => intro i hm hi hn; rw [show i = (spineF e).2.length from by omega, spine_end] at hn; exact hn
    | succ m ih =>
      intro i hm hi hn
      obtain ⟨d, hd⟩ : ∃ d, (spineF e).2[i]? = some d := ⟨_, List.getElem?_eq_getElem (by omega)⟩
      obtain ⟨s, r, hdr⟩ := spine_at e i d hd
      have hnext : pvx (spineF e).1 (spineF e).2 (i + 1) = d := by
        unfold pvx
        rw [List.getD_cons_succ, List.getD_eq_getElem?_getD, hd]; rfl
      refine ih (i + 1) (by omega) (by omega) ?_
      rw [hnext, hdr]
      show (both (valF pt _) (valF pt r)).bind _ = none
      rw [hn]; rfl
  refine q_asgX (evX_value (e := (spineF e).1) (ev_var rfl) (ev_var rfl) (by omega) (by omega) (s2 w) v1) rfl (fun v0 hv0 => ?_) (fun hn => ⟨rfl, hup _ 0 rfl (by omega) hn⟩)
  refine q_forL (ev_var rfl) (fun i Γ' => ∃ v, valF pt (pvx (spineF e).1 (spineF e).2 i) = some v ∧ Wk Γ' [.val (cEx Y) e, .val (cDi (cQ K)) pt, .val (cEx Y) (spineF e).1, .val (cList K (cEx Y)) (spineF e).2, .val (cQ K) v, .any]) ⟨v0, hv0, Wk.refl _⟩ (fun i d Γ' hd hI => ?_) (fun Γ' hI => ?_)
  · obtain ⟨v, hv, wk⟩ := hI
    refine sw_wk (wk.set 5 _) ?_
    obtain ⟨s, r, hdr⟩ := spine_at e i d hd
    have hmem : d ∈ (spineF e).2 := List.mem_of_getElem? hd
    have hil : i < (spineF e).2.length := (List.getElem?_eq_some_iff.mp hd).1
    have hnext : pvx (spineF e).1 (spineF e).2 (i + 1) = d := by
      unfold pvx
      rw [List.getD_cons_succ, List.getD_eq_getElem?_getD, hd]; rfl
    have hdr2 := d2 d hmem _ _ _ hdr
    have hup' := hup _ (i + 1) rfl (by omega)
    rw [hnext] at hup' ⊢
    generalize pvx (spineF e).1 (spineF e).2 i = p at hdr hv
    subst hdr
    obtain ⟨hz1, hz2⟩ := s3 _ hmem
    have wd := hz2 w
    have vd := v2 _ hmem
    have hval := val_two pt s p r hv
    refine sw_asgX (evX_put (s := s) (x := v) (ev_fSign (s := s) k (ev_var rfl)) (ev_var rfl) (evX_value (e := r) (ev_fRight k (ev_var rfl)) (ev_var rfl) (by omega) (by simp [size] at hz1; omega) wd.2.2 vd.2.1) (VB_val vd.1 hv) (fun x hx => VB_val vd.2.1 hx)) rfl (fun x hx => ?_) (fun hn => ⟨rfl, hup' (by rw [hval]; exact hn)⟩)
    exact ⟨x, by rw [hval]; exact hx, .same (.same (.same (.same (.same (.any .nil)))))⟩
  · obtain ⟨v, hv, wk⟩ := hI
    rw [spine_end] at hv
    exact sw_wk wk (sw_ret (ev_var rfl) hv)
end
end Lw.X

/-! [e for k in range(n) if t] -/
namespace Pw
open PySem PySem.Spec PyProof.Rows L2
section
variable {K : PySem.W.Frag} {Γ : Gam} {ta tb tc te : TE} {α β γ : Type} {c : Cod α} {d : α} {c2 : Cod β} {d2 : β}
theorem evN_lcR1f {m : Int} {j : Nat} {vs : List Nat} {tt : TT} (h : Ev Γ ta cInt m) (f : Nat → Bool) (g : Nat → β) (hm : m ≤ 1000000) (hm0 : -(2 ^ 60) ≤ m) (hw : ∀ (σ : L2.St) x, wipe ((wipe σ vs).set j (some x)) vs = wipe σ vs)
    (ht : ∀ n : Nat, (n : Int) < m → EvT ((vs.foldr (fun v G => G.set v .any) Γ).set j (.val cInt (n : Int))) tt (f n))
    (he : ∀ n : Nat, (n : Int) < m → f n = true → Ev ((vs.foldr (fun v G => G.set v .any) Γ).set j (.val cInt (n : Int))) te c2 (g n)) : EvN Γ (tLc (iRng1 (tCons ta tNil)) (gName j) tt te vs) c2 (gvn f g (List.range m.toNat)) := fun F H σ S Q q => h F H σ S _ fun v F1 H1 e1 r1 => by
  cases (show v = .int m from r1)
  refine ⟨m, rfl, by omega, by omega, fun D hD => lc_range (lo := 0) (n := m.toNat) (fun i H' => ∃ F' acc, Ext F1 H1 F' H' ∧ F' D = none ∧ H' D = some (.lst acc) ∧ Reps c2 F' acc (gvn f g (List.range i)))
    ⟨F1, [], Ext.aside e1.i hD, e1.i.free hD, upd_same, trivial⟩ (fun i H' hi ⟨F', acc, e2, k1, k2, k3⟩ => ⟨hw _ _, ?_⟩) (fun H' ⟨F', acc, e2, k1, k2, k3⟩ => q D acc F' H' (e1.trans e2) (e1.h.free hD) k1 k2 k3)⟩
  have S2 : Sl F' H' ((wipe σ vs).set j (some (.int (0 + (i : Int))))) ((vs.foldr (fun v G => G.set v .any) Γ).set j (.val cInt (i : Int))) := (sl_wipe (S.grow (e1.trans e2)) vs).setV (by rw [Int.zero_add]; rfl)
  have hlen : (gvn f g (List.range i)).length ≤ i := by
    unfold gvn; rw [List.length_map]
    exact Nat.le_trans (List.length_filter_le _ _) (by rw [List.length_range]; exact Nat.le_refl _)
  have ei : List.range (i + 1) = List.range i ++ [i] := List.range_succ
  refine ht i (by omega) F' H' _ S2 _ fun F3 H3 e3 => ?_
  have k1' : F3 D = none := by
    cases q : F3 D with
    | none => rfl
    | some o =>
      rcases e3.n D o q with z | z
      · rw [k1] at z; cases z
      · rw [k2] at z; cases z
  cases hf : f i with
  | true =>
    refine iteT (he i (by omega) hf F3 H3 _ (S2.grow e3) _ fun y F4 H4 e4 r4 => ⟨acc, e4.h D _ (e3.h D _ k2), by rw [k3.len]; exact sz_lt (by omega), F4, acc ++ [y], ?_⟩)
    have k1'' : F4 D = none := by
      cases q : F4 D with
      | none => rfl
      | some o =>
        rcases e4.n D o q with z | z
        · rw [k1'] at z; cases z
        · rw [e3.h D _ k2] at z; cases z
    have x := (e2.trans e3).trans e4
    refine ⟨⟨x.f, fun b o q => ?_, x.i.mut k1'', x.n⟩, k1'', upd_same, ?_⟩
    · rw [upd_ne (ne_of_none q hD)]; exact x.h b o q
    · rw [ei]; unfold gvn; rw [List.filter_append, List.map_append, List.filter_cons, if_pos hf]
      exact (k3.mono (e3.trans e4).f).append (Reps.one r4)
  | false =>
    refine iteF ⟨F3, acc, e2.trans e3, k1', e3.h D _ k2, ?_⟩
    rw [ei]; unfold gvn; rw [List.filter_append, List.map_append, List.filter_cons, if_neg (by rw [hf]; decide)]
    show Reps c2 F3 acc (_ ++ [])
    rw [List.append_nil]; exact k3.mono e3.f
end
end Pw

/-! points, sizes of values -/
namespace Xp
open PySem L2 Pw Lw
structure PtOk (pt : Pt) : Prop where
  nd : (pt.map (·.1)).Nodup
  q : ∀ p ∈ pt, QB 8 p.2
theorem PtOk.look {pt : Pt} (h : PtOk pt) {k : T} {v : Rat} (e : lkD pt k = some v) : QB 8 v := by
  unfold lkD at e
  obtain ⟨p, hp, rfl⟩ := Option.map_eq_some_iff.mp e
  exact h.q p (List.mem_of_find?_eq_some hp)
theorem PtOk.put {pt : Pt} (h : PtOk pt) {k : T} {v : Rat} (hv : QB 8 v) : PtOk (putD pt k v) := by
  unfold putD
  by_cases hb : (pt.any fun p => decide (p.1 = k)) = true
  · rw [if_pos hb]
    refine ⟨?_, fun p hp => ?_⟩
    · have e : (pt.map fun p => if p.1 = k then (p.1, v) else p).map (·.1) = pt.map (·.1) := by
        rw [List.map_map]
        refine List.map_congr_left fun p _ => ?_
        show (if p.1 = k then (p.1, v) else p).1 = p.1
        split <;> rfl
      rw [e]; exact h.nd
    · obtain ⟨q, hq, rfl⟩ := List.mem_map.mp hp
      show QB 8 (if q.1 = k then (q.1, v) else q).2
      split
      · exact hv
      · exact h.q q hq
  · rw [if_neg hb]
    refine ⟨?_, fun p hp => ?_⟩
    · rw [List.map_append, List.nodup_append]
      refine ⟨h.nd, by simp, fun a ha b hb' e => ?_⟩
      have : b = k := by simpa using hb'
      obtain ⟨q, hq, rfl⟩ := List.mem_map.mp ha
      exact hb (List.any_eq_true.mpr ⟨q, hq, by rw [decide_eq_true_eq, e, this]⟩)
    · rcases List.mem_append.mp hp with hp | hp
      · exact h.q p hp
      · obtain rfl := List.mem_singleton.mp hp; exact hv
theorem PtOk.drop {pt : Pt} (h : PtOk pt) (k : T) : PtOk (dropD pt k) :=
  ⟨(List.filter_sublist.map _).nodup h.nd, fun p hp => h.q p (List.mem_filter.mp hp).1⟩
theorem lk_put (pt : Pt) (k w : T) (v : Rat) : (lkD (putD pt k v) w).isSome = ((lkD pt w).isSome || decide (w = k)) := by
  have key : ∀ d : Pt, (lkD d w).isSome = d.any fun p => decide (p.1 = w) := fun d => by
    unfold lkD; rw [Option.isSome_map]
    induction d with
    | nil => rfl
    | cons q d ih =>
      rw [List.find?_cons, List.any_cons]
      cases decide (q.1 = w) with
      | true => rfl
      | false => rw [Bool.false_or]; exact ih
  rw [key, key]
  unfold putD
  by_cases hb : (pt.any fun p => decide (p.1 = k)) = true
  · rw [if_pos hb, List.any_map]
    have e : (pt.any ((fun p => decide (p.1 = w)) ∘ fun p => if p.1 = k then (p.1, v) else p)) = pt.any fun p => decide (p.1 = w) := by
      congr 1; funext p; show decide ((if p.1 = k then (p.1, v) else p).1 = w) = _; split <;> rfl
    rw [e]
    by_cases z : w = k
    · subst z; rw [hb]; simp
    · simp [z]
  · rw [if_neg hb, List.any_append]
    congr 1
    by_cases z : w = k
    · subst z; simp
    · have : ¬ k = w := fun e => z e.symm
      simp [z, this]
def coordF (n : Int) : Rat := if n % 3 = 0 then Rat.divInt (n / 3 % 5 - 2) 1 else Rat.divInt (n / 3 % 101 - 50) (1 + n / 303 % 20)
def pointF (ns : List Int) (ws : List T) (i : Nat) : Pt := (List.range i).foldl (fun d k => putD d (ws.getD k []) (coordF (ns.getD k 0))) []
theorem point_succ (ns : List Int) (ws : List T) (i : Nat) : pointF ns ws (i + 1) = putD (pointF ns ws i) (ws.getD i []) (coordF (ns.getD i 0)) := by
  unfold pointF; rw [List.range_succ, List.foldl_append]; rfl
theorem coord_ok {n : Int} : QB 8 (coordF n) := by
  unfold coordF
  have bt : ∀ x : Int, -200 < x → x < 200 → Bt 8 x := fun x h1 h2 => by unfold Bt; omega
  split
  · exact QB.divInt (bt _ (by omega) (by omega)) (bt _ (by omega) (by omega)) (by decide)
  · exact QB.divInt (bt _ (by omega) (by omega)) (bt _ (by omega) (by omega)) (by omega)
theorem point_ok (ns : List Int) (ws : List T) : ∀ i, PtOk (pointF ns ws i)
  | 0 => ⟨List.nodup_nil, fun p hp => by simp [pointF] at hp⟩
  | i + 1 => by rw [point_succ]; exact (point_ok ns ws i).put coord_ok
theorem point_has (ns : List Int) (ws : List T) : ∀ i j, j < i → (lkD (pointF ns ws i) (ws.getD j [])).isSome = true
  | i + 1, j, h => by
    rw [point_succ, lk_put]
    by_cases e : j = i
    · subst e; simp
    · rw [point_has ns ws i j (by omega)]; rfl
theorem QB.pow {n k : Nat} {x : Rat} (hx : QB n x) (hk : 1 ≤ k) : ∀ i, n * i ≤ k → QB k (x ^ i)
  | 0, _ => by
    rw [Rat.pow_zero]
    exact ⟨Nat.one_lt_two_pow (by omega), Nat.one_lt_two_pow (by omega)⟩
  | i + 1, h => by
    by_cases hi : i = 0
    · subst hi; rw [Rat.pow_succ, Rat.pow_zero, Rat.one_mul]; exact hx.wk (by omega)
    · rw [Rat.pow_succ]
      by_cases hn : n = 0
      · subst hn
        have h1 : x.num.natAbs < 1 := hx.1
        have h2 : ((x.den : Int)).natAbs < 1 := hx.2
        have := x.den_pos; omega
      · have hp : 1 ≤ n * i := Nat.mul_pos (by omega) (by omega)
        exact ((QB.pow hx hp i (Nat.le_refl _)).mul hx).wk (by rw [Nat.mul_succ] at h; exact h)
/-- sizes by the weight of an expression -/
theorem vb_of {pt : Pt} (hp : ∀ k v, lkD pt k = some v → QB 8 v) : ∀ e : Ep, Wf e → (ms e).2.2 ≤ 150 → VB pt e ∧ ∀ q, valF pt e = some q → QB (8 * (ms e).2.2.toNat) q
  | .num n, w, h => by
    have h30 : n < 10 ^ 30 := by
      have : (TL.numL n).length ≤ 30 := w
      have h1 := valL_lt (w := TL.numL n) (fun c hc => fig_of hc)
      rw [valL_num] at h1
      exact Nat.lt_of_lt_of_le h1 (Nat.pow_le_pow_right (by omega) this)
    have hq : QB (8 * (ms (.num n)).2.2.toNat) (n : Rat) := by
      show QB (8 * (if n < 1000 then (3 : Int) else 30).toNat) (n : Rat)
      refine ⟨?_, Nat.one_lt_two_pow (by split <;> decide)⟩
      show ((n : Int)).natAbs < _
      rw [Int.natAbs_natCast]
      split
      · exact Nat.lt_of_lt_of_le (by assumption) (show 1000 ≤ 2 ^ (8 * (3 : Int).toNat) by decide)
      · exact Nat.lt_of_lt_of_le h30 (by decide +kernel)
    exact ⟨hq.wk (by omega), fun q e => by cases e; exact hq⟩
  | .name v, w, h => ⟨fun q e => (hp v q e).wk (by decide), fun q e => hp v q e⟩
  | .two s l r, w, h => by
    have pl := ms_pos l
    have pr := ms_pos r
    have hs : (ms l).2.2 + (ms r).2.2 ≤ (ms (.two s l r)).2.2 ∧ ((s = 43 ∨ s = 45) → (ms l).2.2 + (ms r).2.2 + 1 ≤ (ms (.two s l r)).2.2) := by
      by_cases z : s = 43 ∨ s = 45
      · rw [ms_add z]; exact ⟨by dsimp only; omega, fun _ => Int.le_refl _⟩
      · refine ⟨?_, fun y => absurd y z⟩
        by_cases z2 : s = 42
        · rw [ms_mul z2]; exact Int.le_refl _
        · rw [ms_div z z2]; exact Int.le_refl _
    obtain ⟨v1, q1⟩ := vb_of hp l w.2.1 (by omega)
    obtain ⟨v2, q2⟩ := vb_of hp r w.2.2 (by omega)
    have hq : ∀ q, valF pt (.two s l r) = some q → QB (8 * (ms (.two s l r)).2.2.toNat) q := fun q e => by
      have e' : (both (valF pt l) (valF pt r)).bind (fun p => putT s p.1 p.2) = some q := e
      cases hl : valF pt l with
      | none => rw [hl] at e'; cases e'
      | some x =>
        cases hr : valF pt r with
        | none => rw [hl, hr] at e'; cases e'
        | some y =>
          rw [hl, hr] at e'
          have e' : putT s x y = some q := e'
          have bx := q1 x hl
          have by' := q2 y hr
          unfold putT at e'
          split at e'
          · cases e'; have := hs.2 (by omega); exact (bx.add by').wk (by omega)
          · split at e'
            · cases e'; have := hs.2 (by omega); exact (bx.sub by').wk (by omega)
            · split at e'
              · cases e'; exact (bx.mul by').wk (by omega)
              · split at e'
                · cases e'
                · rename_i hy; cases e'; exact (bx.div by' hy).wk (by omega)
    exact ⟨⟨v1, v2, fun q e => (hq q e).wk (by omega)⟩, hq⟩
  | .pow b n, w, h => by
    have pb := ms_pos b
    have hm : (ms (.pow b n)).2.2 = (ms b).2.2 * max 1 (n : Int) := rfl
    have hb : (ms b).2.2 ≤ (ms (.pow b n)).2.2 := by
      rw [hm]
      have := Int.mul_le_mul_of_nonneg_left (show (1 : Int) ≤ max 1 (n : Int) by omega) (show 0 ≤ (ms b).2.2 by omega)
      omega
    obtain ⟨v1, q1⟩ := vb_of hp b w.1 (by omega)
    have hq : ∀ q, valF pt b = some q → ∀ i, i ≤ n → QB (8 * (ms (.pow b n)).2.2.toNat) (q ^ i) := fun q e i hi => by
      refine QB.pow (q1 q e) (by omega) i ?_
      rw [hm]
      have h1 : (ms b).2.2 * (i : Int) ≤ (ms b).2.2 * max 1 (n : Int) := Int.mul_le_mul_of_nonneg_left (by omega) (by omega)
      obtain ⟨a, ha⟩ : ∃ a : Nat, (ms b).2.2 = a := ⟨(ms b).2.2.toNat, by omega⟩
      rw [ha] at h1 ⊢
      rw [Int.toNat_natCast, Nat.mul_assoc]
      refine Nat.mul_le_mul_left 8 ?_
      have : ((a * i : Nat) : Int) ≤ ((a : Int) * max 1 (n : Int)) := by rw [Int.natCast_mul]; exact h1
      omega
    refine ⟨⟨v1, fun q e i hi => (hq q e i hi).wk (by omega)⟩, fun q e => ?_⟩
    have e' : (valF pt b).map (fun q => q ^ n) = some q := e
    obtain ⟨v, hv, rfl⟩ := Option.map_eq_some_iff.mp e'
    exact hq v hv n (Nat.le_refl _)
  | .less b, w, h => by
    obtain ⟨v1, q1⟩ := vb_of hp b w h
    refine ⟨v1, fun q e => ?_⟩
    have e' : (valF pt b).map (fun q => 0 - q) = some q := e
    obtain ⟨v, hv, rfl⟩ := Option.map_eq_some_iff.mp e'
    exact QB_neg (q1 v hv)
/-! x - 1 - 1 .. -/
def longE : Nat → Ep
  | 0 => .name [120]
  | k + 1 => .two 45 (longE k) (.num 1)
def longT (k : Nat) : T := 120 :: (List.replicate k [32, 45, 32, 49]).flatten
theorem long_succ (k : Nat) : longT (k + 1) = longT k ++ 32 :: 45 :: 32 :: [49] := by
  unfold longT
  rw [List.replicate_succ', List.flatten_append]; simp
theorem long_wf : ∀ k, Wf (longE k)
  | 0 => by refine ⟨by decide, by decide, ?_⟩; decide
  | k + 1 => ⟨by decide, long_wf k, by show (TL.numL 1).length ≤ 30; decide⟩
theorem long_G : ∀ k, G 30 0 (longT k) (longE k)
  | 0 => G_up 0 (a := 4) (by omega) (by omega) (.name (long_wf 0))
  | k + 1 => by
    rw [long_succ]
    exact .add (long_G k) (G_up 1 (a := 4) (t := [49]) (e := .num 1) (by omega) (by omega) (.num (n := 1) (by show (TL.numL 1).length ≤ 30; decide))) (by decide)
theorem long_len (k : Nat) : (longT k).length = 4 * k + 1 := by
  induction k with
  | zero => rfl
  | succ k ih => rw [long_succ, List.length_append, ih]; simp; omega
theorem long_size : ∀ k, size (longE k) = 2 * k + 1
  | 0 => rfl
  | k + 1 => by have := long_size k; show size (longE k) + 1 + 1 = _; omega
theorem long_dep : ∀ k, (dd (longE k)).1 ≤ 1 ∧ (dd (longE k)).2 ≤ 2
  | 0 => by decide
  | k + 1 => by have := long_dep k; show max (dd (longE k)).1 1 ≤ 1 ∧ max (dd (longE k)).1 1 + 1 ≤ 2; omega
theorem third_less (a : Int) : Rat.divInt a 3 - 1 = Rat.divInt (a - 3) 3 := by
  rw [Rat.divInt_eq_div, Rat.divInt_eq_div, Rat.div_def, Rat.div_def, Rat.intCast_sub, Rat.sub_eq_add_neg, Rat.sub_eq_add_neg, Rat.add_mul]
  congr 1
  have : ((3 : Int) : Rat) * ((3 : Int) : Rat)⁻¹ = 1 := Rat.mul_inv_cancel _ (by decide)
  rw [Rat.neg_mul, this]
theorem long_val {s : Int} (h : 0 ≤ s ∧ s < 1000000) : ∀ k : Nat, k ≤ 300 → valF [([120], Rat.divInt s 3)] (longE k) = some (Rat.divInt (s - 3 * k) 3) ∧ VB [([120], Rat.divInt s 3)] (longE k)
  | 0, _ => by
    have q : ∀ k : Nat, k ≤ 300 → QB 4000 (Rat.divInt (s - 3 * k) 3) := fun k hk => (QB.divInt (n := 30) (by unfold Bt; omega) (by unfold Bt; decide) (by decide)).wk (by decide)
    refine ⟨?_, fun v e => ?_⟩
    · show some (Rat.divInt s 3) = _
      congr 2; omega
    · have : v = Rat.divInt s 3 := by
        have e' : some (Rat.divInt s 3) = some v := e
        exact (Option.some.inj e').symm
      subst this
      have := q 0 (by omega); rwa [show s - 3 * ((0 : Nat) : Int) = s from by omega] at this
  | k + 1, hk => by
    obtain ⟨h1, h2⟩ := long_val h k (by omega)
    have hv : valF [([120], Rat.divInt s 3)] (longE (k + 1)) = some (Rat.divInt (s - 3 * (k + 1 : Nat)) 3) := by
      show (both (valF _ (longE k)) (valF _ (.num 1))).bind (fun p => putT 45 p.1 p.2) = _
      rw [h1]
      show some (Rat.divInt (s - 3 * k) 3 - ((1 : Nat) : Rat)) = _
      congr 1
      show Rat.divInt (s - 3 * k) 3 - 1 = _
      rw [third_less]
      congr 1; omega
    refine ⟨hv, h2, ⟨Nat.one_lt_two_pow (by decide), Nat.one_lt_two_pow (by decide)⟩, fun q e => ?_⟩
    have e' : some (Rat.divInt (s - 3 * (k + 1 : Nat)) 3) = some q := hv ▸ e
    cases e'
    exact (QB.divInt (n := 30) (by unfold Bt; omega) (by unfold Bt; decide) (by decide)).wk (by decide)
end Xp

/-! law k19: values of expressions -/
namespace Lw.X.P19
open PySem PySem.Spec PyProof.Rows L2 Pw Xp
def sp_law_share (K : PySem.W.Frag) : Sp := SpF (aCons cInt (aCons cInt aNil)) (fun a => 0 ≤ a.2.1) cInt (fun a => (Int.gcd a.1 a.2.1 : Int))
def t_law_share (K : PySem.W.Frag) : TS := tSeq (tAsg (tCB rAbs (tCons (tVar 0) tNil)) (gName 0)) (tSeq (tWhile (tTest (tOp rNe (tVar 1) (tC (.int 0)))) (tPar 0 1 (tCons (tVar 1) (tCons (tOp oModX (tVar 0) (tVar 1)) tNil)))) (tRet (tVar 0)))
theorem rd_law_share (K : PySem.W.Frag) (a b : Int) (h : 0 ≤ b) : SW (rVal cInt) [.val cInt a, .val cInt b] (t_law_share K) (PF (Int.gcd a b : Int)) := by
  unfold t_law_share
  refine q_asg' (ev_abs (ev_var rfl)) ?_
  refine q_while (fun x : Int × Int => [.val cInt x.1, .val cInt x.2]) (fun x => Int.gcd x.1 x.2 = Int.gcd a b ∧ 0 ≤ x.1 ∧ 0 ≤ x.2) (fun x => x.2.natAbs) (fun x => !decide (x.2 = 0)) ((a.natAbs : Int), b) (Wk.refl _) ⟨by show Int.gcd (a.natAbs : Int) b = _; unfold Int.gcd; rw [Int.natAbs_natCast], by dsimp only; omega, h⟩
    (fun x hx => (evT_test (ev_neI (ev_var rfl) ev_int))) (fun x hx hb => ?_) (fun x hx hb => ?_)
  · have h0 : x.2 ≠ 0 := by simpa using hb
    obtain ⟨g1, g2, g3⟩ := hx
    have hp : 0 < x.2 := by omega
    exact sw_par (ev_var rfl) (ev_modX (ev_var rfl) (ev_var rfl) h0) ⟨(x.2, x.1.fmod x.2), Wk.refl _, ⟨by simp only; rw [gcd_fmod]; exact g1, g3, by simp only; rw [Int.fmod_eq_emod_of_nonneg _ g3]; exact Int.emod_nonneg _ h0⟩, fmod_abs h0⟩
  · have h0 : x.2 = 0 := by simpa using hb
    obtain ⟨g1, g2, g3⟩ := hx
    refine sw_ret (ev_var rfl) ?_
    show x.1 = _
    rw [← g1, h0, Int.gcd_zero]; omega
def sp_law_lowest (K : PySem.W.Frag) : Sp := SpF (aCons cInt (aCons cInt aNil)) (fun a => a.2.1 ≠ 0 ∧ Bt 8900 a.2.1) (cQ K) (fun a => Rat.divInt a.1 a.2.1)
def t_law_lowest (K : PySem.W.Frag) : TS := tSeq (tAsg (tCall (sp_law_share K) [] E0 (tCons (tVar 0) (tCons (tCB rAbs (tCons (tVar 1) tNil)) tNil))) (gName 2)) (tSeq (tIfS (tTest (tOp oLt (tVar 1) (tC (.int 0)))) (tAsg (tOp oSub (tC (.int 0)) (tVar 2)) (gName 2)) tNext) (tRet (tTup (tCons (tOp oDivX (tVar 0) (tVar 2)) (tCons (tOp oDivX (tVar 1) (tVar 2)) tNil)))))
theorem rd_law_lowest (K : PySem.W.Frag) (a b : Int) (hc : b ≠ 0) (hb : Bt 8900 b) : SW (rVal (cQ K)) [.val cInt a, .val cInt b, .any] (t_law_lowest K) (PF (Rat.divInt a b)) := by
  unfold t_law_lowest
  refine q_asg' (ev_is (ev_call (f := fun a : Int × Int × Unit => (Int.gcd a.1 a.2.1 : Int)) (pre := fun a : Int × Int × Unit => 0 ≤ a.2.1) (ea_cons (ev_var rfl) (ea_cons (ev_abs (ev_var rfl)) ea_nil)) (by dsimp only; omega)) (d' := (Int.gcd a b : Int)) (by show ((Int.gcd a (b.natAbs : Int) : Nat) : Int) = _; unfold Int.gcd; rw [Int.natAbs_natCast])) ?_
  refine q_join [.val cInt a, .val cInt b, .val cInt (shr a b)] ?_ ?_
  · refine sw_when (evT_test (ev_lt (ev_var rfl) ev_int)) (fun hd => ?_) (fun hd => ?_)
    · exact sw_asg (ev_is (ev_sub ev_int (ev_var rfl)) (by unfold shr; rw [if_pos (of_decide_eq_true hd)])) (Wk.refl _)
    · rw [show shr a b = Int.gcd a b by unfold shr; rw [if_neg (of_decide_eq_false hd)]]; exact Wk.refl _
  exact sw_ret (ev_low hc hb rfl rfl rfl) rfl
theorem ev_lowest {K : PySem.W.Frag} {Γ : Gam} {ta tb : TE} {a b : Int} {E : XK} (h1 : Ev Γ ta cInt a) (h2 : Ev Γ tb cInt b) (hc : b ≠ 0) (hb : Bt 8900 b) : Ev Γ (tCall (sp_law_lowest K) [] E (tCons ta (tCons tb tNil))) (cQ K) (Rat.divInt a b) :=
  ev_is (ev_call (f := fun a : Int × Int × Unit => Rat.divInt a.1 a.2.1) (pre := fun a : Int × Int × Unit => a.2.1 ≠ 0 ∧ Bt 8900 a.2.1) (ea_cons h1 (ea_cons h2 ea_nil)) ⟨hc, hb⟩) rfl
theorem q_non {K : PySem.W.Frag} : ∀ F v (x : Rat), (cQ K).rep F v x → v ≠ .non := fun F v x h => by
  obtain ⟨a, vs, rfl, _⟩ := h; exact fun z => nomatch z
/-! ### the law's value -/
def sp_law_value (K : PySem.W.Frag) (n : Nat) : Sp := SpF (aCons (cTr K) (aCons (cDi (cQ K)) aNil)) (fun a => size a.1 ≤ n ∧ n ≤ 5000 ∧ Wf a.1 ∧ VB a.2.1 a.1) (cOpt (cQ K)) (fun a => valF a.2.1 a.1)
theorem ev_lval {K : PySem.W.Frag} {Γ : Gam} {ta tb : TE} {e : Ep} {pt : Pt} {E : XK} {n : Nat} (h : Ev Γ ta (cTr K) e) (hp : Ev Γ tb (cDi (cQ K)) pt) (h1 : size e ≤ n) (h2 : n ≤ 5000) (w : Wf e) (vb : VB pt e) : Ev Γ (tCall (sp_law_value K n) [] E (tCons ta (tCons tb tNil))) (cOpt (cQ K)) (valF pt e) :=
  ev_is (ev_call (f := fun a : Ep × Pt × Unit => valF a.2.1 a.1) (pre := fun a : Ep × Pt × Unit => size a.1 ≤ n ∧ n ≤ 5000 ∧ Wf a.1 ∧ VB a.2.1 a.1) (ea_cons h (ea_cons hp ea_nil)) ⟨h1, h2, w, vb⟩) rfl
def t_law_value (K : PySem.W.Frag) (n : Nat) : TS := tSeq (tIfS (tTest (tOp rEq (tOp (rIxT K) (tVar 0) (tC (.int 0))) (tC (.str "number")))) (tRet (tTup (tCons (tOp (rIxT K) (tVar 0) (tC (.int 1))) (tCons (tC (.int 1)) tNil)))) tNext) (tSeq (tIfS (tTest (tOp rEq (tOp (rIxT K) (tVar 0) (tC (.int 0))) (tC (.str "name")))) (tRet (tDGet1 (tVar 1) (tOp (rIxT K) (tVar 0) (tC (.int 1))))) tNext) (tSeq (tAsg (tCall (sp_law_value K n) [] E0 (tCons (tOp (rIxT K) (tVar 0) (tC (.int 1))) (tCons (tVar 1) tNil))) (gName 2)) (tSeq (tIfS (tTest (tOp (rIsN) (tVar 2) (tC .non))) (tRet (tC .non)) tNext) (tSeq (tIfS (tTest (tOp rEq (tOp (rIxT K) (tVar 0) (tC (.int 0))) (tC (.str "less")))) (tRet (tTup (tCons (tOp oSub (tC (.int 0)) (tOp (rIxT K) (tVar 2) (tC (.int 0)))) (tCons (tOp (rIxT K) (tVar 2) (tC (.int 1))) tNil)))) tNext) (tSeq (tIfS (tTest (tOp rEq (tOp (rIxT K) (tVar 0) (tC (.int 0))) (tC (.str "^")))) (tSeq (tAsg (tTup (tCons (tC (.int 1)) (tCons (tC (.int 1)) tNil))) (gName 3)) (tSeq (tFor (iRng1 (tCons (tOp (rIxT K) (tVar 0) (tC (.int 2))) tNil)) (gName 4) (tAsg (tTup (tCons (tOp oMul (tOp (rIxT K) (tVar 3) (tC (.int 0))) (tOp (rIxT K) (tVar 2) (tC (.int 0)))) (tCons (tOp oMul (tOp (rIxT K) (tVar 3) (tC (.int 1))) (tOp (rIxT K) (tVar 2) (tC (.int 1)))) tNil))) (gName 3))) (tRet (tVar 3)))) tNext) (tSeq (tAsg (tCall (sp_law_value K n) [] E0 (tCons (tOp (rIxT K) (tVar 0) (tC (.int 2))) (tCons (tVar 1) tNil))) (gName 5)) (tSeq (tIfS (tOr (tTest (tOp (rIsN) (tVar 5) (tC .non))) (tAnd (tTest (tOp rEq (tOp (rIxT K) (tVar 0) (tC (.int 0))) (tC (.str "/")))) (tTest (tOp rEq (tOp (rIxT K) (tVar 5) (tC (.int 0))) (tC (.int 0)))))) (tRet (tC .non)) tNext) (tSeq (tIfS (tTest (tOp rEq (tOp (rIxT K) (tVar 0) (tC (.int 0))) (tC (.str "*")))) (tRet (tCall (sp_law_lowest K) [] E0 (tCons (tOp oMul (tOp (rIxT K) (tVar 2) (tC (.int 0))) (tOp (rIxT K) (tVar 5) (tC (.int 0)))) (tCons (tOp oMul (tOp (rIxT K) (tVar 2) (tC (.int 1))) (tOp (rIxT K) (tVar 5) (tC (.int 1)))) tNil)))) tNext) (tSeq (tIfS (tTest (tOp rEq (tOp (rIxT K) (tVar 0) (tC (.int 0))) (tC (.str "/")))) (tRet (tCall (sp_law_lowest K) [] E0 (tCons (tOp oMul (tOp (rIxT K) (tVar 2) (tC (.int 0))) (tOp (rIxT K) (tVar 5) (tC (.int 1)))) (tCons (tOp oMul (tOp (rIxT K) (tVar 2) (tC (.int 1))) (tOp (rIxT K) (tVar 5) (tC (.int 0)))) tNil)))) tNext) (tSeq (tAsg (tOp oSub (tOp oMul (tCB rInt1 (tCons (tOp rEq (tOp (rIxT K) (tVar 0) (tC (.int 0))) (tC (.str "+"))) tNil)) (tC (.int 2))) (tC (.int 1))) (gName 6)) (tRet (tCall (sp_law_lowest K) [] E0 (tCons (tOp oAdd (tOp oMul (tOp (rIxT K) (tVar 2) (tC (.int 0))) (tOp (rIxT K) (tVar 5) (tC (.int 1)))) (tOp oMul (tOp oMul (tVar 6) (tOp (rIxT K) (tVar 5) (tC (.int 0)))) (tOp (rIxT K) (tVar 2) (tC (.int 1))))) (tCons (tOp oMul (tOp (rIxT K) (tVar 2) (tC (.int 1))) (tOp (rIxT K) (tVar 5) (tC (.int 1)))) tNil))))))))))))))
theorem rd_law_value (K : PySem.W.Frag) (n : Nat) (e : Ep) (pt : Pt) (h1 : size e ≤ n + 1) (h2 : n ≤ 5000) (w : Wf e) (vb : VB pt e) : SW (rVal (cOpt (cQ K))) [.val (cTr K) e, .val (cDi (cQ K)) pt, .any, .any, .any, .any, .any] (t_law_value K n) (PF (valF pt e)) := by
  unfold t_law_value
  refine q_when (evT_test (ev_eqT (ev_tr0 (ev_var rfl)) (ev_t tagNum (by decide +kernel)))) (fun hb => ?_) (fun hb => ?_)
  · cases e with
    | num m => exact sw_ret (ev_some (ev_q (q := ((m : Nat) : Rat)) (ev_is (ev_trNum (ev_var rfl)) rfl) (ev_is ev_int rfl))) rfl
    | name v => simp [tag, tagName, tagNum] at hb
    | two s l r => simp [tag, tagNum] at hb
    | pow b m => simp [tag, tagNum] at hb
    | less b => simp [tag, tagNum, tagLess] at hb
  refine q_when (evT_test (ev_eqT (ev_tr0 (ev_var rfl)) (ev_t tagName (by decide +kernel)))) (fun hc => ?_) (fun hc => ?_)
  · cases e with
    | name v => exact sw_ret (ev_dget1 (ev_var rfl) (ev_trName (ev_var rfl))) rfl
    | num m => simp [tag] at hb
    | two s l r => simp [tag, tagName] at hc
    | pow b m => simp [tag, tagName] at hc
    | less b => simp [tag, tagName, tagLess] at hc
  -- the first part
  have first : ∀ {Γ : Gam}, Γ[0]? = some (.val (cTr K) e) → Γ[1]? = some (.val (cDi (cQ K)) pt) → ∃ f, Ev Γ (tCall (sp_law_value K n) [] E0 (tCons (tOp (rIxT K) (tVar 0) (tC (.int 1))) (tCons (tVar 1) tNil))) (cOpt (cQ K)) f ∧ (f = none → valF pt e = none) ∧
      (∀ x, f = some x → QB 4000 x ∧ match e with | .two s l r => valF pt l = some x | .pow b m => valF pt b = some x | .less b => valF pt b = some x | _ => True) := fun h0 hp => by
    cases e with
    | num m => simp [tag] at hb
    | name v => simp [tag] at hc
    | two s l r =>
      refine ⟨_, ev_lval (e := l) (ev_trL (ev_var h0)) (ev_var hp) (by simp [size] at h1; omega) h2 w.2.1 vb.1, fun z => ?_, fun x hx => ⟨VB_val vb.1 hx, hx⟩⟩
      show (both (valF pt l) _).bind _ = none
      rw [z]; rfl
    | pow b m =>
      refine ⟨_, ev_lval (e := b) (ev_trB (ev_var h0)) (ev_var hp) (by simp [size] at h1; omega) h2 w.1 vb.1, fun z => ?_, fun x hx => ⟨VB_val vb.1 hx, hx⟩⟩
      show (valF pt b).map _ = none
      rw [z]; rfl
    | less b =>
      refine ⟨_, ev_lval (e := b) (ev_trI (ev_var h0)) (ev_var hp) (by simp [size] at h1; omega) h2 w vb, fun z => ?_, fun x hx => ⟨VB_val (e := b) vb hx, hx⟩⟩
      show (valF pt b).map _ = none
      rw [z]; rfl
  obtain ⟨f, ef, hf0, hf1⟩ := first (Γ := [.val (cTr K) e, .val (cDi (cQ K)) pt, .any, .any, .any, .any, .any]) rfl rfl
  refine q_asg' ef ?_
  refine q_when (evT_test (ev_isNo q_non (ev_var rfl))) (fun hd => ?_) (fun hd => ?_)
  · have : f = none := by cases f with | none => rfl | some x => cases hd
    exact sw_ret ev_none (hf0 this).symm
  obtain ⟨x, rfl⟩ : ∃ x, f = some x := by cases f with | none => cases hd | some x => exact ⟨x, rfl⟩
  obtain ⟨qx, hx⟩ := hf1 x rfl
  have vx : ∀ {Γ : Gam}, Γ[2]? = some (.val (cOpt (cQ K)) (some x)) → Ev Γ (tVar 2) (cQ K) x := fun h => ev_unsome (ev_var h)
  refine q_when (evT_test (ev_eqT (ev_tr0 (ev_var rfl)) (ev_t tagLess (by decide +kernel)))) (fun he => ?_) (fun he => ?_)
  · cases e with
    | less b =>
      refine sw_ret (ev_some (ev_q (q := -x) (ev_is (ev_sub ev_int (ev_num (vx rfl))) (by rw [Rat.neg_num]; omega)) (ev_is (ev_den (vx rfl)) (by rw [Rat.neg_den])))) ?_
      show some (-x) = (valF pt b).map _
      rw [hx]
      show some (-x) = some (0 - x)
      rw [Rat.sub_eq_add_neg, Rat.zero_add]
    | num m => simp [tag] at hb
    | name v => simp [tag] at hc
    | two s l r => simp [tag, tagLess] at he
    | pow b m => simp [tag, tagLess] at he
  refine q_when (evT_test (ev_eqT (ev_tr0 (ev_var rfl)) (ev_t [94] (by decide +kernel)))) (fun hg => ?_) (fun hg => ?_)
  · cases e with
    | pow b m =>
      have hm := w.2
      have hpw := vb.2 x hx
      refine q_asg' (ev_is (ev_qc (K := K) (i := 1) (q := 1) rfl) (d' := x ^ 0) (Rat.pow_zero x).symm) ?_
      refine q_forR1G (fun i => [.val (cTr K) (.pow b m), .val (cDi (cQ K)) pt, .val (cOpt (cQ K)) (some x), .val (cQ K) (x ^ i), .any, .any, .any]) (ev_trN (ev_var rfl)) (by omega) (by omega) (Wk.refl _) (fun i hi => ?_) ?_
      · have qi := hpw i (by omega)
        refine sw_asg (ev_q (q := x ^ (i + 1)) (ev_is (ev_mul 4000 4000 (ev_num (ev_var rfl)) (ev_num (vx rfl)) qi.1 qx.1) ?_) (ev_is (ev_mul 4000 4000 (ev_den (ev_var rfl)) (ev_den (vx rfl)) qi.2 qx.2) ?_)) (.same (.same (.same (.same (.any (.any (.any .nil)))))))
        · rw [Rat.num_pow, Rat.num_pow, Int.pow_succ]
        · rw [Rat.den_pow, Rat.den_pow, Nat.pow_succ, Int.natCast_mul]
      · rw [Int.toNat_natCast]
        refine sw_ret (ev_some (ev_var rfl)) ?_
        show some (x ^ m) = (valF pt b).map _
        rw [hx]; rfl
    | num m => simp [tag] at hb
    | name v => simp [tag] at hc
    | two s l r =>
      have : s = 94 := by simpa [tag] using hg
      have := w.1; omega
    | less b => simp [tag] at he
  cases e with
  | num m => simp [tag] at hb
  | name v => simp [tag] at hc
  | less b => simp [tag] at he
  | pow b m => simp [tag] at hg
  | two s l r =>
    have hval : valF pt (.two s l r) = (valF pt r).bind fun y => putT s x y := val_two pt s l r hx
    refine q_asg' (ev_lval (e := r) (ev_trR (ev_var rfl)) (ev_var rfl) (by simp [size] at h1; omega) h2 w.2.2 vb.2.1) ?_
    have qyy : ∀ y, valF pt r = some y → QB 4000 y := fun y hy => VB_val vb.2.1 hy
    generalize valF pt r = g at hval qyy
    cases g with
    | none =>
      refine q_when (b := true) (evT_is (evT_or (evT_test (ev_isNo q_non (ev_var rfl))) fun z => (show EvT _ _ false by cases z)) rfl) (fun _ => ?_) (fun z => by cases z)
      exact sw_ret ev_none hval.symm
    | some y =>
      have qy := qyy y rfl
      have vy : ∀ {Γ : Gam}, Γ[5]? = some (.val (cOpt (cQ K)) (some y)) → Ev Γ (tVar 5) (cQ K) y := fun h => ev_unsome (ev_var h)
      have hv' : valF pt (.two s l r) = putT s x y := hval
      refine q_when (evT_or (evT_test (ev_isNo q_non (ev_var rfl))) fun _ => evT_and (evT_test (ev_eqT (ev_tr0 (ev_var rfl)) (ev_t [47] (by decide +kernel)))) fun _ => evT_test (ev_eqI (ev_num (vy rfl)) ev_int)) (fun hh => ?_) (fun hh => ?_)
      · have hh : s = 47 ∧ y.num = 0 := by simpa [tag] using hh
        refine sw_ret ev_none ?_
        show none = valF pt (.two s l r)
        rw [hv', hh.1]; unfold putT
        rw [if_neg (by decide), if_neg (by decide), if_neg (by decide), if_pos (Rat.num_eq_zero.mp hh.2)]
      have hh : ¬ (s = 47 ∧ y.num = 0) := by simpa [tag] using hh
      refine q_when (evT_test (ev_eqT (ev_tr0 (ev_var rfl)) (ev_t [42] (by decide +kernel)))) (fun hi => ?_) (fun hi => ?_)
      · have hi : s = 42 := by simpa [tag] using hi
        refine sw_ret (ev_some (ev_is (ev_lowest (ev_mul 4000 4000 (ev_num (vx rfl)) (ev_num (vy rfl)) qx.1 qy.1) (ev_mul 4000 4000 (ev_den (vx rfl)) (ev_den (vy rfl)) qx.2 qy.2) (den_mul_ne x y) ((qx.2.mul qy.2).wk (by decide))) (q_mul x y).symm)) ?_
        show some _ = valF pt (.two s l r)
        rw [hv', hi]; unfold putT; rw [if_neg (by decide), if_neg (by decide), if_pos rfl]
      have hi : s ≠ 42 := by simpa [tag] using hi
      refine q_when (evT_test (ev_eqT (ev_tr0 (ev_var rfl)) (ev_t [47] (by decide +kernel)))) (fun hj => ?_) (fun hj => ?_)
      · have hj : s = 47 := by simpa [tag] using hj
        have hn : y.num ≠ 0 := fun z => hh ⟨hj, z⟩
        refine sw_ret (ev_some (ev_is (ev_lowest (ev_mul 4000 4000 (ev_num (vx rfl)) (ev_den (vy rfl)) qx.1 qy.2) (ev_mul 4000 4000 (ev_den (vx rfl)) (ev_num (vy rfl)) qx.2 qy.1) (Int.mul_ne_zero (den_ne x) hn) ((qx.2.mul qy.1).wk (by decide))) (q_div x y).symm)) ?_
        show some _ = valF pt (.two s l r)
        rw [hv', hj]; unfold putT; rw [if_neg (by decide), if_neg (by decide), if_neg (by decide), if_neg (fun z => hn (Rat.num_eq_zero.mpr z))]
      have hj : s ≠ 47 := by simpa [tag] using hj
      refine q_asg' (ev_is (ev_sub (ev_mulS (ev_int1B (ev_eqT (ev_tr0 (t := .two s l r) (ev_var rfl)) (ev_t [43] (by decide +kernel)))) ev_int (by split <;> decide) (by decide)) ev_int) (d' := if s = 43 then 1 else -1) ?_) ?_
      · by_cases z : s = 43
        · subst z; rfl
        · rw [if_neg z, decide_eq_false (by simpa [tag] using z)]; rfl
      have b1 : Bt 8 (if s = 43 then (1 : Int) else -1) := by unfold Bt; split <;> decide
      refine sw_ret (ev_some (ev_lowest (ev_add (ev_mul 4000 4000 (ev_num (vx rfl)) (ev_den (vy rfl)) qx.1 qy.2) (ev_mul 4008 4000 (ev_mul 8 4000 (ev_var rfl) (ev_num (vy rfl)) b1 qy.1) (ev_den (vx rfl)) ((b1.mul qy.1).wk (by decide)) qx.2)) (ev_mul 4000 4000 (ev_den (vx rfl)) (ev_den (vy rfl)) qx.2 qy.2) (den_mul_ne x y) ((qx.2.mul qy.2).wk (by decide)))) ?_
      show some _ = valF pt (.two s l r)
      rw [hv']; unfold putT
      by_cases z : s = 43
      · rw [if_pos z, if_pos z, q_add, Int.one_mul]
      · have z2 : s = 45 := by rcases w.1 with h | h | h | h <;> omega
        rw [if_neg z, if_pos z2, q_sub, if_neg z]
        congr 2
        rw [Int.neg_mul, Int.one_mul, Int.neg_mul, Int.sub_eq_add_neg]
/-! ### points -/
theorem getD_memI {xs : List Int} {i : Nat} (h : i < xs.length) : xs.getD i 0 ∈ xs := by
  rw [List.getD_eq_getElem?_getD, List.getElem?_eq_getElem h]; exact List.getElem_mem h
def sp_law_point (K : PySem.W.Frag) : Sp := SpOb (aCons (cInts K) (aCons (cList K cT) aNil)) (fun a => a.2.1.length ≤ a.1.length ∧ a.2.1.length ≤ 100 ∧ ∀ x ∈ a.1, 0 ≤ x ∧ x < 1000000) (cDo (cQ K)) (fun a => pointF a.1 a.2.1 a.2.1.length)
def t_law_point (K : PySem.W.Frag) : TS := tSeq (tAsg (tDNewK) (gName 2)) (tSeq (tFor (iRng1 (tCons (tCB (rLenQ K) (tCons (tVar 1) tNil)) tNil)) (gName 3) (tSeq (tAsg (tOp (rIxL K) (tVar 0) (tVar 3)) (gName 4)) (tSeq (tAsg (tOp oSub (tOp oMod (tOp oDiv (tVar 4) (tC (.int 3))) (tC (.int 101))) (tC (.int 50))) (gName 5)) (tSeq (tAsg (tOp oAdd (tC (.int 1)) (tOp oMod (tOp oDiv (tVar 4) (tC (.int 303))) (tC (.int 20)))) (gName 6)) (tSeq (tIfS (tTest (tOp rEq (tOp oMod (tVar 4) (tC (.int 3))) (tC (.int 0)))) (tSeq (tAsg (tOp oSub (tOp oMod (tOp oDiv (tVar 4) (tC (.int 3))) (tC (.int 5))) (tC (.int 2))) (gName 5)) (tAsg (tC (.int 1)) (gName 6))) tNext) (sDPut (tVar 2) (tOp (rIxL K) (tVar 1) (tVar 3)) (tCall (sp_law_lowest K) [] E0 (tCons (tVar 5) (tCons (tVar 6) tNil))))))))) (tRet (tVar 2)))
theorem point_len (ns : List Int) (ws : List T) : ∀ i, (pointF ns ws i).length ≤ i
  | 0 => by simp [pointF]
  | i + 1 => by
    rw [point_succ]
    have := point_len ns ws i
    unfold putD; split
    · rw [List.length_map]; omega
    · rw [List.length_append]; simp; omega
theorem rd_law_point (K : PySem.W.Frag) (ns : List Int) (ws : List T) (h1 : ws.length ≤ ns.length) (h2 : ws.length ≤ 100) (hx : ∀ x ∈ ns, 0 ≤ x ∧ x < 1000000) : SW (rObj (cDo (cQ K))) [.val (cInts K) ns, .val (cList K cT) ws, .any, .any, .any, .any, .any] (t_law_point K) (PF (pointF ns ws ws.length)) := by
  unfold t_law_point
  refine q_asgOb (c := cDo (cQ K)) evOb_dnew ?_
  refine q_forR1G (fun i => [.val (cInts K) ns, .val (cList K cT) ws, .ob (cDo (cQ K)) (pointF ns ws i), .any, .any, .any, .any]) (ev_len (ev_var rfl)) (by omega) (by omega) (Wk.refl _) (fun i hi => ?_) ?_
  · have hi' : i < ws.length := by omega
    have hn := hx _ (getD_memI (i := i) (by omega))
    have hl := point_len ns ws i
    refine q_asg' (ev_is (ev_ixG 0 (ev_var rfl) (ev_var rfl) ⟨by omega, by omega⟩) (d' := ns.getD i 0) (by rw [Int.toNat_natCast])) ?_
    rw [point_succ]
    generalize ns.getD i 0 = m at hn
    refine q_asg' (ev_sub (ev_mod (ev_div (ev_var rfl) ev_int (by decide)) ev_int (by decide)) ev_int) ?_
    refine q_asg' (ev_add ev_int (ev_mod (ev_div (ev_var rfl) ev_int (by decide)) ev_int (by decide))) ?_
    have hb : (if m % 3 = 0 then (1 : Int) else 1 + m / 303 % 20) ≠ 0 ∧ Bt 8900 (if m % 3 = 0 then (1 : Int) else 1 + m / 303 % 20) := by
      have h1 : 1 ≤ (if m % 3 = 0 then (1 : Int) else 1 + m / 303 % 20) ∧ (if m % 3 = 0 then (1 : Int) else 1 + m / 303 % 20) < 100 := by split <;> omega
      exact ⟨by omega, by unfold Bt; exact Nat.lt_of_lt_of_le (show _ < 2 ^ 8 by omega) (Nat.pow_le_pow_right (by decide) (by decide))⟩
    refine q_join [.val (cInts K) ns, .val (cList K cT) ws, .ob (cDo (cQ K)) (pointF ns ws i), .val cInt (i : Int), .val cInt m, .val cInt (if m % 3 = 0 then m / 3 % 5 - 2 else m / 3 % 101 - 50), .val cInt (if m % 3 = 0 then 1 else 1 + m / 303 % 20)] ?_ ?_
    · refine sw_when (evT_test (ev_eqI (ev_mod (ev_var rfl) ev_int (by decide)) ev_int)) (fun hz => ?_) (fun hz => ?_)
      · have hz := of_decide_eq_true hz
        refine q_asg' (ev_sub (ev_mod (ev_div (ev_var rfl) ev_int (by decide)) ev_int (by decide)) ev_int) ?_
        refine sw_asg ev_int ?_
        rw [if_pos hz, if_pos hz]; exact Wk.refl _
      · have hz := of_decide_eq_false hz
        rw [if_neg hz, if_neg hz]; exact Wk.refl _
    · refine sw_dput (k := ws.getD i []) (x := coordF m) rfl (ev_is (ev_lowest (ev_var rfl) (ev_var rfl) hb.1 hb.2) ?_) (ev_is (ev_ixG [] (ev_var rfl) (ev_var rfl) ⟨by omega, by omega⟩) (by rw [Int.toNat_natCast])) (by omega) (.same (.same (.same (.any (.any (.any (.any .nil)))))))
      unfold coordF; split <;> rfl
  · rw [Int.toNat_natCast]
    exact sw_retOb rfl rfl
/-! ### found as due -/
theorem ev_qL {K : PySem.W.Frag} {Γ : Gam} {te : TE} {q : Rat} (h : Ev Γ te (cQ K) q) : Ev Γ te (cTupL K cInt) [q.num, (q.den : Int)] := fun F H σ S Q qq =>
  h F H σ S _ fun v F1 H1 e1 r1 => qq v F1 H1 e1 (by
    obtain ⟨a, vs, rfl, hs, x, _, rfl, hx, y, _, rfl, hy, h⟩ := r1
    cases (show _ = [] from h)
    exact ⟨a, _, rfl, hs, hx, hy, trivial⟩)
def sp_law_is (K : PySem.W.Frag) : Sp := SpF (aCons (cQ K) (aCons (cQ K) aNil)) (fun a => a.1 = a.2.1) cBool (fun _ => true)
theorem ev_is1 {K : PySem.W.Frag} {Γ : Gam} {ta tb : TE} {q : Rat} {E : XK} (h1 : Ev Γ ta (cQ K) q) (h2 : Ev Γ tb (cQ K) q) : Ev Γ (tCall (sp_law_is K) [] E (tCons ta (tCons tb tNil))) cBool true :=
  ev_is (ev_call (f := fun _ : Rat × Rat × Unit => true) (pre := fun a : Rat × Rat × Unit => a.1 = a.2.1) (ea_cons h1 (ea_cons h2 ea_nil)) rfl) rfl
def t_law_is (K : PySem.W.Frag) : TS := tSeq (tIfS (tOr (tNot (tB (tCB (rIsi K) (tCons (tVar 0) (tCons (tC (.ty "tuple")) tNil))))) (tTest (tOp rNe (tCB (rLenQ K) (tCons (tVar 0) tNil)) (tC (.int 2))))) (tRet (tC (.bl false))) tNext) (tSeq (tIfS (tNot (tB (tCB (rAll K) (tCons (tLc (iTup K (tVar 0)) (gName 2) tYes (tAndV (tCB (rIsi K) (tCons (tVar 2) (tCons (tC (.ty "int")) tNil))) (tNotV (tCB (rIsi K) (tCons (tVar 2) (tCons (tC (.ty "bool")) tNil))))) [2]) tNil)))) (tRet (tC (.bl false))) tNext) (tRet (tOp (rEqD K) (tVar 0) (tVar 1))))
theorem rd_law_is (K : PySem.W.Frag) (q : Rat) : SW (rVal cBool) [.val (cQ K) q, .val (cQ K) q, .any] (t_law_is K) (PF true) := by
  unfold t_law_is
  refine q_when (b := false) (evT_is (evT_or (evT_not (evT_B (ev_isiM (b := true) (d := q) (ev_var rfl) (kit_ty (by decide +kernel))))) fun h => evT_test (ev_neI (ev_lenQ (ev_var rfl)) ev_int)) (by simp)) (fun z => by cases z) (fun _ => ?_)
  refine q_when (b := false) (evT_is (evT_not (evT_B (ev_all (EvN.ev (K := K) (evN_lcTm (c2 := cBool) (ev_qL (ev_var rfl)) (fun _ => true) (by simp) wipe1 fun d hd => ev_andV (ev_isiI (b := true) (ev_var rfl) (kit_ty (by decide +kernel))) fun h => (ev_notV (ev_isiI (b := false) (ev_var rfl) (kit_ty (by decide +kernel))))))))) (by simp)) (fun z => by cases z) (fun _ => ?_)
  exact sw_ret (ev_is (ev_eqD dQ (Nat.le_of_ble_eq_true rfl) (ev_var rfl) (ev_var rfl)) (by simp)) rfl
/-! ### the error's classes -/
def sp_law_kinds (K : PySem.W.Frag) (C : ExA) : Sp := SpN (aCons cExc aNil) (fun a => a.1 = C.NoValue) cInt (fun _ => [1, 7, 8])
def t_law_kinds (K : PySem.W.Frag) (C : ExA) : TS := tSeq (tAsg (tLst (tCons (tCB (rIsX K) (tCons (tVar 0) (tCons (tC (.ref C.NoNumber)) tNil))) (tCons (tCB (rIsX K) (tCons (tVar 0) (tCons (tC (.ref C.NoValue)) tNil))) (tCons (tCB (rIsX K) (tCons (tVar 0) (tCons (tC (.ref C.NoText)) tNil))) tNil)))) (gName 1)) (tSeq (tAsg (tOp rCat (tVar 1) (tLst (tCons (tCB (rIsX K) (tCons (tVar 0) (tCons (tC (.ref C.NoRoot)) tNil))) (tCons (tCB (rIsX K) (tCons (tVar 0) (tCons (tC (.ref C.NoRow)) tNil))) (tCons (tCB (rIsX K) (tCons (tVar 0) (tCons (tC (.ref C.TooFar)) tNil))) tNil))))) (gName 1)) (tSeq (tAsg (tOp rCat (tVar 1) (tLst (tCons (tCB (rIsX K) (tCons (tVar 0) (tCons (tC (.ref C.NoLine)) tNil))) (tCons (tCB (rIsX K) (tCons (tVar 0) (tCons (tC (.ref C.HouseError)) tNil))) (tCons (tCB (rIsX K) (tCons (tVar 0) (tCons (tC (.ty "ValueError")) tNil))) tNil))))) (gName 1)) (tRet (tLc (iRng1 (tCons (tC (.int 9)) tNil)) (gName 2) (tB (tOp (rIxL K) (tVar 1) (tVar 2))) (tVar 2) [2]))))
theorem rd_law_kinds (K : PySem.W.Frag) (C : ExA) (X : ExD K C C.NoValue 2) (hh : PySem.W.kitOne K (.ref C.NoValue) (.ref C.HouseError) = some true) : SW (rNew cInt) [.val cExc C.NoValue, .any, .any] (t_law_kinds K C) (PF [1, 7, 8]) := by
  unfold t_law_kinds
  refine q_asgN' (evN_lst (el_cons (ev_isXr (ev_var rfl) X.c X.k0) (el_cons (ev_isXr (ev_var rfl) X.c X.k2) (el_cons (ev_isXr (ev_var rfl) X.c X.k3) el_nil))) (by simp)) ?_
  refine q_asgN' (evN_catO rfl (evN_lst (el_cons (ev_isXr (ev_var rfl) X.c X.k4) (el_cons (ev_isXr (ev_var rfl) X.c X.k1) (el_cons (ev_isXr (ev_var rfl) X.c X.k5) el_nil))) (by simp)) (by simp)) ?_
  refine q_asgN' (evN_catO rfl (evN_lst (el_cons (ev_isXr (ev_var rfl) X.c X.k6) (el_cons (ev_isXr (ev_var rfl) X.c hh) (el_cons (ev_isXt (ev_var rfl) X.c X.v) el_nil))) (by simp)) (by simp)) ?_
  refine sw_freeze K 1 rfl ?_
  refine sw_retN (evN_is (evN_lcR1f (c2 := cInt) ev_int (fun n => [false, true, false, false, false, false, false, true, true].getD n false) (fun n => (n : Int)) (by decide) (by decide) wipe1 (fun n hn => evT_B (ev_is (ev_ixG false (ev_var rfl) (ev_var rfl) ⟨by omega, by simp; omega⟩) (by rw [Int.toNat_natCast]; rfl))) (fun n hn _ => ev_var rfl)) (d' := [1, 7, 8]) (by decide)) rfl
/-! ### asked -/
def sp_law_asked (K : PySem.W.Frag) (Y : ExC) (C : ExA) : Sp := SpF (aCons (cEx Y) (aCons (cDi (cQ K)) aNil)) (fun a => size a.1 ≤ 45 ∧ Wf a.1 ∧ VB a.2.1 a.1) (cPair K (cOpt (cQ K)) (cOpt cExc)) (fun a => (valF a.2.1 a.1, if (valF a.2.1 a.1).isSome then none else some C.NoValue))
def t_law_asked (K : PySem.W.Frag) (C : ExA) (Y : ExC) : TS := tSeq (tAsg (tC .non) (gName 2)) (tSeq (tAsg (tC .non) (gName 3)) (tSeq (tTryM K (.ref C.HouseError) 4 3 2 Y "value" (sp_value K Y C 45) (tVar 0) (tCons (tVar 1) tNil)) (tRet (tTup (tCons (tVar 2) (tCons (tVar 3) tNil))))))
theorem rd_law_asked (K : PySem.W.Frag) (C : ExA) (X : ExD K C C.NoValue 2) (Y : ExC) (e : Ep) (pt : Pt) (h1 : size e ≤ 45) (w : Wf e) (vb : VB pt e) : SW (rVal (cPair K (cOpt (cQ K)) (cOpt cExc))) [.val (cEx Y) e, .val (cDi (cQ K)) pt, .any, .any, .any] (t_law_asked K C Y) (PF (valF pt e, if (valF pt e).isSome then none else some C.NoValue)) := by
  unfold t_law_asked
  have hd := (dd_le e).2.2
  refine q_asg' (ev_none (c := cQ K)) ?_
  refine q_asg' (ev_none (c := cExc)) ?_
  refine q_tryM (f := fun z : Ep × Pt × Unit => valF z.2.1 z.1) (pre := fun z : Ep × Pt × Unit => dep z.1 ≤ 45 ∧ size z.1 ≤ 5000 ∧ Wf z.1 ∧ VB z.2.1 z.1) (e := e) (a := (pt, ())) (ev_var rfl) (ea_cons (ev_var rfl) ea_nil) ⟨by unfold dep; dsimp only; omega, by dsimp only; omega, w, vb⟩ nf_value X.h (by simp) (fun b hb => ?_) (fun hn => ?_)
  · have hb : valF pt e = some b := hb
    rw [hb]
    exact sw_ret (ev_pair (K := K) (ev_some (ev_var rfl)) (ev_var rfl)) rfl
  · have hn : valF pt e = none := hn
    rw [hn]
    exact sw_ret (ev_pair (K := K) (ev_var rfl) (ev_some (ev_var rfl))) rfl
def sp_law_right (K : PySem.W.Frag) (Y : ExC) (C : ExA) : Sp := SpF (aCons (cEx Y) (aCons (cTr K) (aCons (cDi (cQ K)) aNil))) (fun a => a.1 = a.2.1 ∧ size a.1 ≤ 40 ∧ Wf a.1 ∧ VB a.2.2.1 a.1 ∧ PtOk a.2.2.1) cBool (fun _ => true)
theorem ev_right {K : PySem.W.Frag} {Y : ExC} {C : ExA} {Γ : Gam} {ta tb tc : TE} {e : Ep} {pt : Pt} {E : XK} (h : Ev Γ ta (cEx Y) e) (h0 : Ev Γ tb (cTr K) e) (hp : Ev Γ tc (cDi (cQ K)) pt) (h1 : size e ≤ 40) (w : Wf e) (vb : VB pt e) (ok : PtOk pt) : Ev Γ (tCall (sp_law_right K Y C) [] E (tCons ta (tCons tb (tCons tc tNil)))) cBool true :=
  ev_is (ev_call (f := fun _ : Ep × Ep × Pt × Unit => true) (pre := fun a : Ep × Ep × Pt × Unit => a.1 = a.2.1 ∧ size a.1 ≤ 40 ∧ Wf a.1 ∧ VB a.2.2.1 a.1 ∧ PtOk a.2.2.1) (ea_cons h (ea_cons h0 (ea_cons hp ea_nil))) ⟨rfl, h1, w, vb, ok⟩) rfl
def t_law_right (K : PySem.W.Frag) (C : ExA) (Y : ExC) : TS := tSeq (tAsg (tCB rDictD (tCons (tVar 2) tNil)) (gName 3)) (tSeq (tAsg (tCall (sp_law_value K 40) [] E0 (tCons (tVar 1) (tCons (tVar 2) tNil))) (gName 4)) (tSeq (tAsg (tCall (sp_law_asked K Y C) [] E0 (tCons (tVar 0) (tCons (tVar 3) tNil))) (gTup K 2 (gCons (gName 5) (gCons (gName 6) (gNil))))) (tSeq (tIfS (tTest (tOp (rEqDi K true) (tVar 3) (tVar 2))) (tRet (tC (.bl false))) tNext) (tSeq (tIfS (tTest (tOp (rIsN) (tVar 4) (tC .non))) (tRet (tOp (rEqD K) (tCall (sp_law_kinds K C) [] E0 (tCons (tVar 6) tNil)) (tLst (tCons (tC (.int 1)) (tCons (tC (.int 7)) (tCons (tC (.int 8)) tNil)))))) tNext) (tRet (tAndV (tOp (rIsN) (tVar 6) (tC .non)) (tCall (sp_law_is K) [] E0 (tCons (tVar 5) (tCons (tVar 4) tNil)))))))))
theorem rd_law_right (K : PySem.W.Frag) (C : ExA) (Y : ExC) (e : Ep) (pt : Pt) (h : size e ≤ 40) (w : Wf e) (vb : VB pt e) (ok : PtOk pt) : SW (rVal cBool) [.val (cEx Y) e, .val (cTr K) e, .val (cDi (cQ K)) pt, .any, .any, .any, .any] (t_law_right K C Y) (PF true) := by
  unfold t_law_right
  refine q_asg' ((evOb_dcopy (c := cQ K) (ev_var rfl)).ev cDi_of) ?_
  refine q_asg' (ev_lval (n := 40) (ev_var rfl) (ev_var rfl) h (by decide) w vb) ?_
  refine q_un2 (ev_is (ev_call (f := fun a : Ep × Pt × Unit => (valF a.2.1 a.1, if (valF a.2.1 a.1).isSome then none else some C.NoValue)) (pre := fun a : Ep × Pt × Unit => size a.1 ≤ 45 ∧ Wf a.1 ∧ VB a.2.1 a.1) (ea_cons (ev_var rfl) (ea_cons (ev_var rfl) ea_nil)) ⟨by dsimp only; omega, w, vb⟩) (d' := (valF pt e, if (valF pt e).isSome then none else some C.NoValue)) rfl) (fun x y hx hy => ?_)
  dsimp only at hx hy
  refine q_when (b := false) (evT_is (evT_test (ev_eqDi (neg := true) dQ (Nat.le_of_ble_eq_true rfl) ok.nd (ev_var rfl) (ev_var rfl))) rfl) (fun z => by cases z) (fun _ => ?_)
  refine q_when (evT_test (ev_isNo q_non (ev_var rfl))) (fun hd => ?_) (fun hd => ?_)
  · have e0 : valF pt e = none := by cases hv : valF pt e with | none => rfl | some x => rw [hv] at hd; cases hd
    rw [e0] at hy
    have hy : y = some C.NoValue := hy
    subst hy
    refine sw_ret (ev_is (ev_eqD (dList dInt) (Nat.le_of_ble_eq_true rfl) (EvN.ev (K := K) (evN_is (evN_call (f := fun _ : Addr × Unit => ([1, 7, 8] : List Int)) (pre := fun a : Addr × Unit => a.1 = C.NoValue) (ea_cons (ev_unsome (ev_var rfl)) ea_nil) rfl) rfl)) (evN_lst (el_cons ev_int (el_cons ev_int (el_cons ev_int el_nil))) (by simp)).ev) ?_) rfl
    simp
  · obtain ⟨v, hv⟩ : ∃ v, valF pt e = some v := by cases hv : valF pt e with | none => rw [hv] at hd; cases hd | some x => exact ⟨x, rfl⟩
    rw [hv] at hy hx ⊢
    have hy : y = none := hy
    subst hy; subst hx
    exact sw_ret (ev_andV (ev_isN0 (ev_var rfl)) fun _ => ev_is1 (ev_unsome (ev_var rfl)) (ev_unsome (ev_var rfl))) rfl
/-! ### the law -/
def sp_law (K : PySem.W.Frag) : Sp := SpF (aCons (cInts K) aNil) (fun a => a.1.length ≤ 63) cBool (fun _ => true)
def t_law (K : PySem.W.Frag) (C : ExA) (Y : ExC) : TS := tSeq (tAsg (tCall (sp_law_numbers K) [] E0 (tCons (tVar 0) (tCons (tC (.int 0)) (tCons (tC (.int 3)) tNil)))) (gName 1)) (tSeq (tAsg (tCall (sp_law_names K) [] E0 (tCons (tCall (sp_law_numbers K) [] E0 (tCons (tVar 0) (tCons (tC (.int 1)) (tCons (tOp oMod (tOp (rIxL K) (tVar 1) (tC (.int 0))) (tC (.int 4))) tNil)))) tNil)) (gName 2)) (tSeq (tAsg (tOp (rIxL K) (tLst (tCons (tC (.int 12)) (tCons (tC (.int 5)) tNil))) (tCB rInt1 (tCons (tOp oGt (tCB (rLenQ K) (tCons (tVar 2) tNil)) (tC (.int 1))) tNil))) (gName 3)) (tSeq (tAsg (tCall (sp_law_grown K) [] E0 (tCons (tCall (sp_law_numbers K) [] E0 (tCons (tVar 0) (tCons (tC (.int 2)) (tCons (tOp oAdd (tC (.int 2)) (tOp oMod (tOp (rIxL K) (tVar 1) (tC (.int 1))) (tC (.int 13)))) tNil)))) (tCons (tVar 2) (tCons (tVar 3) tNil)))) (gName 4)) (tSeq (tAsg (tCall (sp_read K Y C) [] E0 (tCons (tCall (sp_law_text K 40) [] E0 (tCons (tVar 4) tNil)) tNil)) (gName 5)) (tSeq (tAsg (tLst tNil) (gName 6)) (tSeq (tFor (iRng2 (tCons (tC (.int 3)) (tCons (tC (.int 9)) tNil))) (gName 7) (tSeq (tAsg (tCall (sp_law_numbers K) [] E0 (tCons (tVar 0) (tCons (tVar 7) (tCons (tC (.int 5)) tNil)))) (gName 8)) (tSeq (tAsg (tCall (sp_law_point K) [] E0 (tCons (tVar 8) (tCons (tVar 2) tNil))) (gName 9)) (tSeq (tIfS (tAnd (tTest (tOp rEq (tOp oMod (tOp (rIxL K) (tVar 8) (tC (.int 3))) (tC (.int 4))) (tC (.int 0)))) (tTest (tOp (rNilQ K true) (tVar 2) (tLst tNil)))) (tDrop (tDPop1 (tVar 9) (tOp (rIxL K) (tVar 2) (tOp oModX (tOp (rIxL K) (tVar 8) (tC (.int 4))) (tCB (rLenQ K) (tCons (tVar 2) tNil)))))) tNext) (tSeq (tIfS (tTest (tOp rEq (tOp oMod (tOp (rIxL K) (tVar 8) (tC (.int 3))) (tC (.int 4))) (tC (.int 1)))) (sDPut (tVar 9) (tC (.str "zqzqz")) (tTup (tCons (tC (.int 7)) (tCons (tC (.int 3)) tNil)))) tNext) (tSeq (tDrop (tBM K "list" rAppend (tVar 6) (tCons (tVar 9) tNil))) (tIfS (tNot (tB (tCall (sp_law_right K Y C) [] E0 (tCons (tVar 5) (tCons (tVar 4) (tCons (tVar 9) tNil)))))) (tRet (tC (.bl false))) tNext))))))) (tSeq (tAsg (tTup (tCons (tOp (rCatS) (tC (.str "x")) (tOp (rMulS) (tC (.str " - 1")) (tOp oMod (tOp (rIxL K) (tVar 1) (tC (.int 2))) (tC (.int 241))))) (tCons (tDisp [(tC (.str "x"), tCall (sp_law_lowest K) [] E0 (tCons (tOp (rIxL K) (tVar 1) (tC (.int 2))) (tCons (tC (.int 3)) tNil)))]) tNil))) (gName 10)) (tSeq (tAsg (tCall (sp_law_lowest K) [] E0 (tCons (tOp oSub (tOp (rIxL K) (tVar 1) (tC (.int 2))) (tOp oMul (tC (.int 3)) (tOp oMod (tOp (rIxL K) (tVar 1) (tC (.int 2))) (tC (.int 241))))) (tCons (tC (.int 3)) tNil))) (gName 11)) (tRet (tAndV (tCall (sp_law_is K) [] E0 (tCons (tM5 Y "value" (sp_value K Y C 45) E0 (tCall (sp_read K Y C) [] E0 (tCons (tOp (rIxT K) (tVar 10) (tC (.int 0))) tNil)) (tCons (tOp (rIxT K) (tVar 10) (tC (.int 1))) tNil)) (tCons (tVar 11) tNil))) (tCall (sp_law_right K Y C) [] E0 (tCons (tVar 5) (tCons (tVar 4) (tCons (tOp (rIxL K) (tVar 6) (tC (.int 0))) tNil))))))))))))))
theorem rd_law (K : PySem.W.Frag) (C : ExA) (Y : ExC) (s : List Int) : SW (rVal cBool) [.val (cInts K) s, .any, .any, .any, .any, .any, .any, .any, .any, .any, .any, .any] (t_law K C Y) (PF true) := by
  unfold t_law
  obtain ⟨sh0, e0, l0, x0⟩ := numsF_ex s 0 3
  refine q_asg' (EvN.ev (K := K) (evN_is (evN_numbers (k := 0) (n := 3) (ev_var rfl) ev_int ev_int rfl rfl (by decide)) e0.symm)) ?_
  have a0 := x0 _ (getD_memI (i := 0) (by omega))
  have a1 := x0 _ (getD_memI (i := 1) (by omega))
  have a2 := x0 _ (getD_memI (i := 2) (by omega))
  obtain ⟨n1, e1, l1, x1⟩ := numsF_ex s 1 (sh0.getD 0 0 % 4).toNat
  refine q_asg' (EvN.ev (K := K) (evN_names (EvN.ev (K := K) (evN_is (evN_numbers (k := 1) (n := (sh0.getD 0 0 % 4).toNat) (ev_var rfl) ev_int (ev_mod (ev_ixG 0 (ev_var rfl) ev_int ⟨by decide, by omega⟩) ev_int (by decide)) rfl (by show sh0.getD 0 0 % 4 = _; omega) (by omega)) e1.symm)) (by omega) x1)) ?_
  have hw := namesF_ok (ns := n1) (by omega) fun x h => (x1 x h).1
  generalize namesF n1 = ws at hw
  obtain ⟨hw, hwl⟩ := hw
  refine q_asg' (ev_is (ev_ixG 0 (evN_lst (el_cons ev_int (el_cons ev_int el_nil)) (by simp)).ev (ev_int1B (ev_gt (ev_len (ev_var rfl)) ev_int)) ⟨by split <;> decide, by split <;> decide⟩) (d' := if 1 < ws.length then 5 else 12) ?_) ?_
  · by_cases h : 1 < ws.length
    · rw [if_pos h, decide_eq_true (by omega)]; rfl
    · rw [if_neg h, decide_eq_false (by omega)]; rfl
  have hm : ∃ m : Int, m = (if 1 < ws.length then 5 else 12) ∧ 1 ≤ m ∧ m ≤ 100 := ⟨_, rfl, by split <;> decide, by split <;> decide⟩
  obtain ⟨m, em, hm1, hm2⟩ := hm
  rw [← em]
  obtain ⟨n2, e2, l2, x2⟩ := numsF_ex s 2 (2 + sh0.getD 1 0 % 13).toNat
  refine q_asg' (ev_grown (EvN.ev (K := K) (evN_is (evN_numbers (k := 2) (n := (2 + sh0.getD 1 0 % 13).toNat) (ev_var rfl) ev_int (ev_add ev_int (ev_mod (ev_ixG 0 (ev_var rfl) ev_int ⟨by decide, by omega⟩) ev_int (by decide))) rfl (by show 2 + sh0.getD 1 0 % 13 = _; omega) (by omega)) e2.symm)) (ev_var rfl) (ev_var rfl) (by omega) (by omega) x2 hw (by omega) hm1 hm2) ?_
  have hg := grown_ok (ns := n2) (by omega) x2 hw hm1
  generalize grownF n2 ws m = e at hg
  obtain ⟨gd, hs, hwt⟩ := hg
  have hsl := sh_wgt e gd.w
  have gs := G_own gd.w (by omega)
  have vbe : ∀ pt : Pt, PtOk pt → VB pt e := fun pt h => (vb_of (fun k v hk => h.look hk) e gd.w gd.f.2.2).1
  refine q_asg' (ev_read (ev_ltext (e := e) (ev_var rfl) (by omega) (by decide) gd.w) gs (by omega)) ?_
  refine q_asgN' (c := cDi (cQ K)) (evN_lst el_nil (by simp)) ?_
  refine q_forR2 ev_int ev_int (by omega) (by omega) (fun i Γ' => ∃ pts : List Pt, pts.length = i ∧ (∀ p ∈ pts, PtOk p) ∧ Wk Γ' [.val (cInts K) s, .val (cInts K) sh0, .val (cList K cT) ws, .any, .val (cTr K) e, .val (cEx Y) e, .own (cDi (cQ K)) pts, .any, .any, .any, .any, .any]) ⟨[], rfl, fun p hp => by simp at hp, .same (.same (.same (.any (.same (.same (.same (.any (.any (.any (.any (.any .nil)))))))))))⟩ (fun i Γ' hi hI => ?_) (fun Γ' hI => ?_)
  · obtain ⟨pts, hl, hpt, wk⟩ := hI
    refine sw_wk (wk.set 7 _) ?_
    obtain ⟨n3, e3, l3, x3⟩ := numsF_ex s (3 + i) 5
    refine q_asg' (EvN.ev (K := K) (evN_is (evN_numbers (k := 3 + i) (n := 5) (ev_var rfl) (ev_var rfl) ev_int (by omega) rfl (by decide)) e3.symm)) ?_
    have b3 := x3 _ (getD_memI (i := 3) (by omega))
    have b4 := x3 _ (getD_memI (i := 4) (by omega))
    refine q_asgOb (evOb_is (evOb_call (f := fun a : List Int × List T × Unit => pointF a.1 a.2.1 a.2.1.length) (pre := fun a : List Int × List T × Unit => a.2.1.length ≤ a.1.length ∧ a.2.1.length ≤ 100 ∧ ∀ x ∈ a.1, 0 ≤ x ∧ x < 1000000) (ea_cons (ev_var rfl) (ea_cons (ev_var rfl) ea_nil)) ⟨by dsimp only; omega, by dsimp only; omega, x3⟩) (d' := pointF n3 ws ws.length) rfl) ?_
    refine q_joinI (fun Γ' => ∃ pt : Pt, PtOk pt ∧ pt.length ≤ 100 ∧ Wk Γ' [.val (cInts K) s, .val (cInts K) sh0, .val (cList K cT) ws, .any, .val (cTr K) e, .val (cEx Y) e, .own (cDi (cQ K)) pts, .any, .val (cInts K) n3, .ob (cDo (cQ K)) pt, .any, .any]) ?_ fun Γ1 hG => ?_
    · refine sw_when (b := decide (n3.getD 3 0 % 4 = 0 ∧ ws ≠ [])) (evT_is (evT_and (evT_test (ev_eqI (ev_mod (ev_ixG 0 (ev_var rfl) ev_int ⟨by decide, by omega⟩) ev_int (by decide)) ev_int)) fun _ => evT_test (ev_neNil (ev_var rfl))) ?_) (fun hb => ?_) (fun hb => ?_)
      · rw [Bool.decide_and]; congr 1; cases ws <;> simp
      · have hb := of_decide_eq_true hb
        have hwp := List.length_pos_iff.mpr hb.2
        have hmm : 0 ≤ (n3.getD 4 0).fmod ws.length ∧ (n3.getD 4 0).fmod ws.length < ws.length := by
          rw [Int.fmod_eq_emod_of_nonneg _ (by omega)]
          exact ⟨Int.emod_nonneg _ (by omega), Int.emod_lt_of_pos _ (by omega)⟩
        obtain ⟨v, hv⟩ := Option.isSome_iff_exists.mp (point_has n3 ws ws.length ((n3.getD 4 0).fmod ws.length).toNat (by omega))
        obtain ⟨kk, hkk⟩ : ∃ kk, kk = ws.getD ((n3.getD 4 0).fmod ws.length).toNat [] := ⟨_, rfl⟩
        rw [← hkk] at hv
        refine sw_dpop (k := kk) rfl (ev_is (ev_ixG [] (ev_var rfl) (ev_modX (ev_ixG 0 (ev_var rfl) ev_int ⟨by decide, by omega⟩) (ev_len (ev_var rfl)) (by omega)) hmm) hkk.symm) hv ⟨dropD (pointF n3 ws ws.length) kk, (point_ok n3 ws ws.length).drop kk, ?_, ?_⟩
        · have := point_len n3 ws ws.length
          exact Nat.le_trans (List.length_filter_le _ _) (by omega)
        · exact .same (.same (.same (.any (.same (.same (.same (.any (.same (.same (.any (.any .nil)))))))))))
      · exact ⟨_, point_ok n3 ws ws.length, by have := point_len n3 ws ws.length; omega, .same (.same (.same (.any (.same (.same (.same (.any (.same (.same (.any (.any .nil)))))))))))⟩
    obtain ⟨pt, okp, hpl, wk1⟩ := hG
    refine sw_wk wk1 ?_
    refine q_joinI (fun Γ' => ∃ pt : Pt, PtOk pt ∧ Wk Γ' [.val (cInts K) s, .val (cInts K) sh0, .val (cList K cT) ws, .any, .val (cTr K) e, .val (cEx Y) e, .own (cDi (cQ K)) pts, .any, .any, .ob (cDo (cQ K)) pt, .any, .any]) ?_ fun Γ2 hG2 => ?_
    · refine sw_when (evT_test (ev_eqI (ev_mod (ev_ixG 0 (ev_var rfl) ev_int ⟨by decide, by omega⟩) ev_int (by decide)) ev_int)) (fun hb => ?_) (fun hb => ?_)
      · refine sw_dput (k := [122, 113, 122, 113, 122]) (x := Rat.divInt 7 3) rfl (ev_q (ev_is ev_int (by decide +kernel)) (ev_is ev_int (by decide +kernel))) (ev_t [122, 113, 122, 113, 122] (by decide +kernel)) (by omega) ⟨_, okp.put (k := [122, 113, 122, 113, 122]) (QB.divInt (n := 8) (a := 7) (b := 3) (by unfold Bt; decide) (by unfold Bt; decide) (by decide)), ?_⟩
        exact .same (.same (.same (.any (.same (.same (.same (.any (.any (.same (.any (.any .nil)))))))))))
      · exact ⟨_, okp, .same (.same (.same (.any (.same (.same (.same (.any (.any (.same (.any (.any .nil)))))))))))⟩
    obtain ⟨pt2, ok2, wk2⟩ := hG2
    refine sw_wk wk2 ?_
    refine sw_freezeOb 9 rfl (cDi_of (c := cQ K)) ?_
    refine q_app (c := cDi (cQ K)) rfl (ev_var rfl) (by omega) ?_
    refine sw_when (b := false) (evT_is (evT_not (evT_B (ev_right (ev_var rfl) (ev_var rfl) (ev_var rfl) (by omega) gd.w (vbe _ ok2) ok2))) rfl) (fun z => by cases z) (fun _ => ?_)
    refine ⟨pts ++ [pt2], by rw [List.length_append, hl]; rfl, fun p hp => ?_, .same (.same (.same (.any (.same (.same (.same (.any (.any (.any (.any (.any .nil)))))))))))⟩
    rcases List.mem_append.mp hp with hp | hp
    · exact hpt p hp
    · obtain rfl := List.mem_singleton.mp hp; exact ok2
  · obtain ⟨pts, hl, hpt, wk⟩ := hI
    have hl : pts.length = 6 := hl
    refine sw_wk wk ?_
    refine sw_freeze K 6 rfl ?_
    obtain ⟨z, hz⟩ : ∃ z, z = sh0.getD 2 0 := ⟨_, rfl⟩
    rw [← hz] at a2
    obtain ⟨k, hk⟩ : ∃ k : Nat, (k : Int) = z % 241 := ⟨(z % 241).toNat, by omega⟩
    have hk2 : k ≤ 240 := by omega
    have ez : ∀ {Γ : Gam}, Γ[1]? = some (.val (cInts K) sh0) → Ev Γ (tOp (rIxL K) (tVar 1) (tC (.int 2))) cInt z := fun h => ev_is (ev_ixG 0 (ev_var h) ev_int ⟨by decide, by omega⟩) hz.symm
    have et : ∀ {Γ : Gam}, Γ[1]? = some (.val (cInts K) sh0) → Ev Γ (tOp oMod (tOp (rIxL K) (tVar 1) (tC (.int 2))) (tC (.int 241))) cInt (k : Int) := fun h => ev_is (ev_mod (ez h) ev_int (by decide)) hk.symm
    have hll : ((List.replicate k ([32, 45, 32, 49] : List Nat)).flatten).length = 4 * k := by
      have := long_len k; unfold longT at this; rw [List.length_cons] at this; omega
    refine q_asg' (ev_pair (K := K) (ev_is (ev_catS (ev_t [120] (by decide +kernel)) (ev_mulS' (ev_t [32, 45, 32, 49] (by decide +kernel)) (et rfl) ⟨by omega, by omega⟩ (by simp)) (by rw [Int.toNat_natCast, hll]; simp; omega)) (d' := longT k) (by rw [Int.toNat_natCast]; rfl))
      ((evOb_disp1 (k := [120]) (by decide +kernel) (ev_lowest (ez rfl) ev_int (by decide) (by unfold Bt; exact Nat.lt_of_lt_of_le (show (3 : Int).natAbs < 2 ^ 8 by decide) (Nat.pow_le_pow_right (by decide) (by decide))))).ev cDi_of)) ?_
    refine q_asg' (ev_lowest (b := 3) (ev_sub (ez rfl) (ev_mulS ev_int (et rfl) (by omega) (by omega))) ev_int (by decide) (by unfold Bt; exact Nat.lt_of_lt_of_le (show (3 : Int).natAbs < 2 ^ 8 by decide) (Nat.pow_le_pow_right (by decide) (by decide)))) ?_
    obtain ⟨hv, hvb⟩ := long_val a2 k (by omega)
    have hld := long_dep k
    have hls := long_size k
    have hlen := long_len k
    obtain ⟨p0, hp0⟩ : ∃ p0, pts[0]? = some p0 := ⟨_, List.getElem?_eq_getElem (by omega)⟩
    have ok0 := hpt p0 (List.mem_of_getElem? hp0)
    refine sw_ret (ev_andV (ev_is1 (q := Rat.divInt (z - 3 * k) 3) (EvX.ev (evX_value (e := longE k) (C := C) (n := 45) (ev_read (text := longT k) (ev_is (ev_p0 (ev_var rfl)) rfl) (long_G k) (by omega)) (ev_is (ev_p1 (ev_var rfl)) rfl) (by unfold dep; omega) (by omega) (long_wf k) hvb) hv) (ev_var rfl)) fun _ =>
      ev_right (e := e) (pt := p0) (ev_var rfl) (ev_var rfl) (ev_is (ev_ixG [] (ev_var rfl) ev_int ⟨by decide, by omega⟩) (by rw [List.getD_eq_getElem?_getD]; show (pts[0]?).getD [] = p0; rw [hp0]; rfl)) (by omega) gd.w (vbe _ ok0) ok0) rfl
end Lw.X.P19

namespace Lw.X.P19
open PySem L2 Pw PyProof.Rows Xp
theorem pe_gc {X : Cx} {x : Str} {v : V} {pos : Pos} (hg : Gl X x) (h : ∃ u, X.mg x = some u ∧ RelV v u) (hd : (x == ("__debug__" : Str)) = false := by decide) : PE X (.Name x pos) (tC v) :=
  let ⟨_, hm, r⟩ := h; pe_glob hg hm r hd
def topS (i : Nat) : Stmt := PySem.Challenge.pw_paperwright_k19_values_of_expressions.main.body.getD i (.Pass ⟨0, 0, 0, 0⟩)
abbrev s_law : Stmt := topS 77
abbrev N_law : List Str := ["_law_script", "_law_shape", "_law_names_here", "_law_most", "_law_tree", "_law_expression", "_law_points", "_law_k", "_law_numbers_here", "_law_point_here", "_law_long", "_law_due"]
theorem sc_law : FnScope N_law ["_law_script"] (defScope s_law) := ⟨rfl, rfl, rfl, by decide +kernel, rfl, by decide +kernel, by decide +kernel⟩
abbrev s_law_numbers : Stmt := topS 59
abbrev N_law_numbers : List Str := ["_law_script", "_law_k", "_law_many", "_law_cell", "_law_rest", "_law_mixed", "_law_found", "_law_j"]
theorem sc_law_numbers : FnScope N_law_numbers ["_law_script", "_law_k", "_law_many"] (defScope s_law_numbers) := ⟨rfl, rfl, rfl, by decide +kernel, rfl, by decide +kernel, by decide +kernel⟩
abbrev s_law_names : Stmt := topS 60
abbrev N_law_names : List Str := ["_law_numbers_here", "_law_letters", "_law_found", "_law_number", "_law_word", "_law_step_here", "_law_k"]
theorem sc_law_names : FnScope N_law_names ["_law_numbers_here"] (defScope s_law_names) := ⟨rfl, rfl, rfl, by decide +kernel, rfl, by decide +kernel, by decide +kernel⟩
abbrev s_law_grown : Stmt := topS 65
abbrev N_law_grown : List Str := ["_law_numbers_here", "_law_names_here", "_law_most", "_law_stack", "_law_number", "_law_found", "_law_k", "_law_made"]
theorem sc_law_grown : FnScope N_law_grown ["_law_numbers_here", "_law_names_here", "_law_most"] (defScope s_law_grown) := ⟨rfl, rfl, rfl, by decide +kernel, rfl, by decide +kernel, by decide +kernel⟩
abbrev s_law_step : Stmt := topS 64
abbrev N_law_step : List Str := ["_law_stack", "_law_number", "_law_names_here", "_law_most", "_law_way", "_law_rest", "_law_made", "_law_tree", "_law_top", "_law_bottom", "_law_size", "_law_exponent"]
theorem sc_law_step : FnScope N_law_step ["_law_stack", "_law_number", "_law_names_here", "_law_most"] (defScope s_law_step) := ⟨rfl, rfl, rfl, by decide +kernel, rfl, by decide +kernel, by decide +kernel⟩
abbrev s_law_joined : Stmt := topS 62
abbrev N_law_joined : List Str := ["_law_sign", "_law_one", "_law_other", "_law_top"]
theorem sc_law_joined : FnScope N_law_joined ["_law_sign", "_law_one", "_law_other"] (defScope s_law_joined) := ⟨rfl, rfl, rfl, by decide +kernel, rfl, by decide +kernel, by decide +kernel⟩
abbrev s_law_fits : Stmt := topS 63
abbrev N_law_fits : List Str := ["_law_part", "_law_most"]
theorem sc_law_fits : FnScope N_law_fits ["_law_part", "_law_most"] (defScope s_law_fits) := ⟨rfl, rfl, rfl, by decide +kernel, rfl, by decide +kernel, by decide +kernel⟩
abbrev s_law_leaf : Stmt := topS 61
abbrev N_law_leaf : List Str := ["_law_number", "_law_names_here", "_law_whole"]
theorem sc_law_leaf : FnScope N_law_leaf ["_law_number", "_law_names_here"] (defScope s_law_leaf) := ⟨rfl, rfl, rfl, by decide +kernel, rfl, by decide +kernel, by decide +kernel⟩
abbrev s_read : Stmt := topS 57
abbrev N_read : List Str := ["text", "found", "at"]
theorem sc_read : FnScope N_read ["text"] (defScope s_read) := ⟨rfl, rfl, rfl, by decide +kernel, rfl, by decide +kernel, by decide +kernel⟩
abbrev s_sum_at : Stmt := topS 56
abbrev N_sum_at : List Str := ["text", "at", "deep"]
theorem sc_sum_at : FnScope N_sum_at ["text", "at", "deep"] (defScope s_sum_at) := ⟨rfl, rfl, rfl, by decide +kernel, rfl, by decide +kernel, by decide +kernel⟩
abbrev s_row_at : Stmt := topS 54
abbrev N_row_at : List Str := ["text", "at", "deep", "signs", "reader", "found", "sign", "part"]
theorem sc_row_at : FnScope N_row_at ["text", "at", "deep", "signs", "reader"] (defScope s_row_at) := ⟨rfl, rfl, rfl, by decide +kernel, rfl, by decide +kernel, by decide +kernel⟩
abbrev s_Two_init : Stmt := inClass (topS 41) 0
abbrev N_Two_init : List Str := ["self", "sign", "left", "right"]
theorem sc_Two_init : FnScope N_Two_init ["self", "sign", "left", "right"] (defScope s_Two_init) := ⟨rfl, rfl, rfl, by decide +kernel, rfl, by decide +kernel, by decide +kernel⟩
abbrev s_term_at : Stmt := topS 55
abbrev N_term_at : List Str := ["text", "at", "deep"]
theorem sc_term_at : FnScope N_term_at ["text", "at", "deep"] (defScope s_term_at) := ⟨rfl, rfl, rfl, by decide +kernel, rfl, by decide +kernel, by decide +kernel⟩
abbrev s_factor_at : Stmt := topS 53
abbrev N_factor_at : List Str := ["text", "at", "deep", "many", "found", "step"]
theorem sc_factor_at : FnScope N_factor_at ["text", "at", "deep"] (defScope s_factor_at) := ⟨rfl, rfl, rfl, by decide +kernel, rfl, by decide +kernel, by decide +kernel⟩
abbrev s_power_at : Stmt := topS 52
abbrev N_power_at : List Str := ["text", "at", "deep", "atom", "figures"]
theorem sc_power_at : FnScope N_power_at ["text", "at", "deep"] (defScope s_power_at) := ⟨rfl, rfl, rfl, by decide +kernel, rfl, by decide +kernel, by decide +kernel⟩
abbrev s_atom_at : Stmt := topS 51
abbrev N_atom_at : List Str := ["text", "at", "deep", "sign", "inner", "figures", "word"]
theorem sc_atom_at : FnScope N_atom_at ["text", "at", "deep"] (defScope s_atom_at) := ⟨rfl, rfl, rfl, by decide +kernel, rfl, by decide +kernel, by decide +kernel⟩
abbrev s_whole_at : Stmt := topS 50
abbrev N_whole_at : List Str := ["text", "at", "most", "figures"]
theorem sc_whole_at : FnScope N_whole_at ["text", "at", "most"] (defScope s_whole_at) := ⟨rfl, rfl, rfl, by decide +kernel, rfl, by decide +kernel, by decide +kernel⟩
abbrev s_run_of : Stmt := topS 49
abbrev N_run_of : List Str := ["text", "at", "signs", "most", "end"]
theorem sc_run_of : FnScope N_run_of ["text", "at", "signs", "most"] (defScope s_run_of) := ⟨rfl, rfl, rfl, by decide +kernel, rfl, by decide +kernel, by decide +kernel⟩
abbrev s_Number_init : Stmt := inClass (topS 37) 0
abbrev N_Number_init : List Str := ["self", "whole"]
theorem sc_Number_init : FnScope N_Number_init ["self", "whole"] (defScope s_Number_init) := ⟨rfl, rfl, rfl, by decide +kernel, rfl, by decide +kernel, by decide +kernel⟩
abbrev s_Name_init : Stmt := inClass (topS 38) 0
abbrev N_Name_init : List Str := ["self", "word"]
theorem sc_Name_init : FnScope N_Name_init ["self", "word"] (defScope s_Name_init) := ⟨rfl, rfl, rfl, by decide +kernel, rfl, by decide +kernel, by decide +kernel⟩
abbrev s_Power_init : Stmt := inClass (topS 42) 0
abbrev N_Power_init : List Str := ["self", "base", "exponent"]
theorem sc_Power_init : FnScope N_Power_init ["self", "base", "exponent"] (defScope s_Power_init) := ⟨rfl, rfl, rfl, by decide +kernel, rfl, by decide +kernel, by decide +kernel⟩
abbrev s_Less_init : Stmt := inClass (topS 43) 0
abbrev N_Less_init : List Str := ["self", "inner"]
theorem sc_Less_init : FnScope N_Less_init ["self", "inner"] (defScope s_Less_init) := ⟨rfl, rfl, rfl, by decide +kernel, rfl, by decide +kernel, by decide +kernel⟩
abbrev s_law_text : Stmt := topS 68
abbrev N_law_text : List Str := ["_law_tree", "_law_least"]
theorem sc_law_text : FnScope N_law_text ["_law_tree"] (defScope s_law_text) := ⟨rfl, rfl, rfl, by decide +kernel, rfl, by decide +kernel, by decide +kernel⟩
abbrev s_law_inner : Stmt := topS 67
abbrev N_law_inner : List Str := ["_law_tree", "_law_least"]
theorem sc_law_inner : FnScope N_law_inner ["_law_tree", "_law_least"] (defScope s_law_inner) := ⟨rfl, rfl, rfl, by decide +kernel, rfl, by decide +kernel, by decide +kernel⟩
abbrev s_law_binds : Stmt := topS 66
abbrev N_law_binds : List Str := ["_law_tree"]
theorem sc_law_binds : FnScope N_law_binds ["_law_tree"] (defScope s_law_binds) := ⟨rfl, rfl, rfl, by decide +kernel, rfl, by decide +kernel, by decide +kernel⟩
abbrev s_law_point : Stmt := topS 72
abbrev N_law_point : List Str := ["_law_numbers_here", "_law_names_here", "_law_found", "_law_k", "_law_number", "_law_top", "_law_bottom"]
theorem sc_law_point : FnScope N_law_point ["_law_numbers_here", "_law_names_here"] (defScope s_law_point) := ⟨rfl, rfl, rfl, by decide +kernel, rfl, by decide +kernel, by decide +kernel⟩
abbrev s_law_lowest : Stmt := topS 70
abbrev N_law_lowest : List Str := ["_law_top", "_law_bottom", "_law_share_here"]
theorem sc_law_lowest : FnScope N_law_lowest ["_law_top", "_law_bottom"] (defScope s_law_lowest) := ⟨rfl, rfl, rfl, by decide +kernel, rfl, by decide +kernel, by decide +kernel⟩
abbrev s_law_share : Stmt := topS 69
abbrev N_law_share : List Str := ["_law_one", "_law_other"]
theorem sc_law_share : FnScope N_law_share ["_law_one", "_law_other"] (defScope s_law_share) := ⟨rfl, rfl, rfl, by decide +kernel, rfl, by decide +kernel, by decide +kernel⟩
abbrev s_law_right : Stmt := topS 76
abbrev N_law_right : List Str := ["_law_expression", "_law_tree", "_law_point_here", "_law_handed", "_law_due", "_law_found", "_law_caught"]
theorem sc_law_right : FnScope N_law_right ["_law_expression", "_law_tree", "_law_point_here"] (defScope s_law_right) := ⟨rfl, rfl, rfl, by decide +kernel, rfl, by decide +kernel, by decide +kernel⟩
abbrev s_law_value : Stmt := topS 71
abbrev N_law_value : List Str := ["_law_tree", "_law_point_here", "_law_one", "_law_found", "_law_step_here", "_law_other", "_law_sign"]
theorem sc_law_value : FnScope N_law_value ["_law_tree", "_law_point_here"] (defScope s_law_value) := ⟨rfl, rfl, rfl, by decide +kernel, rfl, by decide +kernel, by decide +kernel⟩
abbrev s_law_asked : Stmt := topS 75
abbrev N_law_asked : List Str := ["_law_expression", "_law_point_here", "_law_found", "_law_caught", "e"]
theorem sc_law_asked : FnScope N_law_asked ["_law_expression", "_law_point_here"] (defScope s_law_asked) := ⟨rfl, rfl, rfl, by decide +kernel, rfl, by decide +kernel, by decide +kernel⟩
abbrev s_Number_value : Stmt := inClass (topS 37) 3
abbrev N_Number_value : List Str := ["self", "point"]
theorem sc_Number_value : FnScope N_Number_value ["self", "point"] (defScope s_Number_value) := ⟨rfl, rfl, rfl, by decide +kernel, rfl, by decide +kernel, by decide +kernel⟩
abbrev s_Name_value : Stmt := inClass (topS 38) 3
abbrev N_Name_value : List Str := ["self", "point"]
theorem sc_Name_value : FnScope N_Name_value ["self", "point"] (defScope s_Name_value) := ⟨rfl, rfl, rfl, by decide +kernel, rfl, by decide +kernel, by decide +kernel⟩
abbrev s_Two_value : Stmt := inClass (topS 41) 4
abbrev N_Two_value : List Str := ["self", "point", "first", "rest", "found", "part"]
theorem sc_Two_value : FnScope N_Two_value ["self", "point"] (defScope s_Two_value) := ⟨rfl, rfl, rfl, by decide +kernel, rfl, by decide +kernel, by decide +kernel⟩
abbrev s_Two_spine : Stmt := inClass (topS 41) 2
abbrev N_Two_spine : List Str := ["self", "found", "part"]
theorem sc_Two_spine : FnScope N_Two_spine ["self"] (defScope s_Two_spine) := ⟨rfl, rfl, rfl, by decide +kernel, rfl, by decide +kernel, by decide +kernel⟩
abbrev s_put_together : Stmt := topS 39
abbrev N_put_together : List Str := ["sign", "one", "other"]
theorem sc_put_together : FnScope N_put_together ["sign", "one", "other"] (defScope s_put_together) := ⟨rfl, rfl, rfl, by decide +kernel, rfl, by decide +kernel, by decide +kernel⟩
abbrev s_plus : Stmt := topS 16
abbrev N_plus : List Str := ["one", "other"]
theorem sc_plus : FnScope N_plus ["one", "other"] (defScope s_plus) := ⟨rfl, rfl, rfl, by decide +kernel, rfl, by decide +kernel, by decide +kernel⟩
abbrev s_fraction : Stmt := topS 15
abbrev N_fraction : List Str := ["top", "bottom", "share"]
theorem sc_fraction : FnScope N_fraction ["top", "bottom"] (defScope s_fraction) := ⟨rfl, rfl, rfl, by decide +kernel, rfl, by decide +kernel, by decide +kernel⟩
abbrev s_divisor : Stmt := topS 11
abbrev N_divisor : List Str := ["one", "other"]
theorem sc_divisor : FnScope N_divisor ["one", "other"] (defScope s_divisor) := ⟨rfl, rfl, rfl, by decide +kernel, rfl, by decide +kernel, by decide +kernel⟩
abbrev s_minus : Stmt := topS 17
abbrev N_minus : List Str := ["one", "other"]
theorem sc_minus : FnScope N_minus ["one", "other"] (defScope s_minus) := ⟨rfl, rfl, rfl, by decide +kernel, rfl, by decide +kernel, by decide +kernel⟩
abbrev s_times : Stmt := topS 18
abbrev N_times : List Str := ["one", "other"]
theorem sc_times : FnScope N_times ["one", "other"] (defScope s_times) := ⟨rfl, rfl, rfl, by decide +kernel, rfl, by decide +kernel, by decide +kernel⟩
abbrev s_over : Stmt := topS 19
abbrev N_over : List Str := ["one", "other"]
theorem sc_over : FnScope N_over ["one", "other"] (defScope s_over) := ⟨rfl, rfl, rfl, by decide +kernel, rfl, by decide +kernel, by decide +kernel⟩
abbrev s_Power_value : Stmt := inClass (topS 42) 3
abbrev N_Power_value : List Str := ["self", "point"]
theorem sc_Power_value : FnScope N_Power_value ["self", "point"] (defScope s_Power_value) := ⟨rfl, rfl, rfl, by decide +kernel, rfl, by decide +kernel, by decide +kernel⟩
abbrev s_to_power : Stmt := topS 28
abbrev N_to_power : List Str := ["number", "exponent", "found", "step"]
theorem sc_to_power : FnScope N_to_power ["number", "exponent"] (defScope s_to_power) := ⟨rfl, rfl, rfl, by decide +kernel, rfl, by decide +kernel, by decide +kernel⟩
abbrev s_Less_value : Stmt := inClass (topS 43) 4
abbrev N_Less_value : List Str := ["self", "point", "part", "many", "found"]
theorem sc_Less_value : FnScope N_Less_value ["self", "point"] (defScope s_Less_value) := ⟨rfl, rfl, rfl, by decide +kernel, rfl, by decide +kernel, by decide +kernel⟩
abbrev s_Less_core : Stmt := inClass (topS 43) 2
abbrev N_Less_core : List Str := ["self", "many", "part"]
theorem sc_Less_core : FnScope N_Less_core ["self"] (defScope s_Less_core) := ⟨rfl, rfl, rfl, by decide +kernel, rfl, by decide +kernel, by decide +kernel⟩
abbrev s_law_kinds : Stmt := topS 74
abbrev N_law_kinds : List Str := ["_law_caught", "_law_some", "_law_k"]
theorem sc_law_kinds : FnScope N_law_kinds ["_law_caught"] (defScope s_law_kinds) := ⟨rfl, rfl, rfl, by decide +kernel, rfl, by decide +kernel, by decide +kernel⟩
abbrev s_law_is : Stmt := topS 73
abbrev N_law_is : List Str := ["_law_found", "_law_due", "_law_part"]
theorem sc_law_is : FnScope N_law_is ["_law_found", "_law_due"] (defScope s_law_is) := ⟨rfl, rfl, rfl, by decide +kernel, rfl, by decide +kernel, by decide +kernel⟩
structure Txt (K : PySem.W.Frag) (mg : Str → Option Value) where
  a_law : Addr
  d_law : FuncData
  F_law : Fun K "law" "law" s_law a_law d_law
  g_law : mg "law" = some (.ref a_law)
  b_law : Binds K d_law ["_law_script"] []
  a_law_numbers : Addr
  d_law_numbers : FuncData
  F_law_numbers : Fun K "_law_numbers" "_law_numbers" s_law_numbers a_law_numbers d_law_numbers
  g_law_numbers : mg "_law_numbers" = some (.ref a_law_numbers)
  b_law_numbers : Binds K d_law_numbers ["_law_script", "_law_k", "_law_many"] []
  a_law_names : Addr
  d_law_names : FuncData
  F_law_names : Fun K "_law_names" "_law_names" s_law_names a_law_names d_law_names
  g_law_names : mg "_law_names" = some (.ref a_law_names)
  b_law_names : Binds K d_law_names ["_law_numbers_here"] []
  a_law_grown : Addr
  d_law_grown : FuncData
  F_law_grown : Fun K "_law_grown" "_law_grown" s_law_grown a_law_grown d_law_grown
  g_law_grown : mg "_law_grown" = some (.ref a_law_grown)
  b_law_grown : Binds K d_law_grown ["_law_numbers_here", "_law_names_here", "_law_most"] []
  a_law_step : Addr
  d_law_step : FuncData
  F_law_step : Fun K "_law_step" "_law_step" s_law_step a_law_step d_law_step
  g_law_step : mg "_law_step" = some (.ref a_law_step)
  b_law_step : Binds K d_law_step ["_law_stack", "_law_number", "_law_names_here", "_law_most"] []
  a_law_joined : Addr
  d_law_joined : FuncData
  F_law_joined : Fun K "_law_joined" "_law_joined" s_law_joined a_law_joined d_law_joined
  g_law_joined : mg "_law_joined" = some (.ref a_law_joined)
  b_law_joined : Binds K d_law_joined ["_law_sign", "_law_one", "_law_other"] []
  a_law_fits : Addr
  d_law_fits : FuncData
  F_law_fits : Fun K "_law_fits" "_law_fits" s_law_fits a_law_fits d_law_fits
  g_law_fits : mg "_law_fits" = some (.ref a_law_fits)
  b_law_fits : Binds K d_law_fits ["_law_part", "_law_most"] []
  a_law_leaf : Addr
  d_law_leaf : FuncData
  F_law_leaf : Fun K "_law_leaf" "_law_leaf" s_law_leaf a_law_leaf d_law_leaf
  g_law_leaf : mg "_law_leaf" = some (.ref a_law_leaf)
  b_law_leaf : Binds K d_law_leaf ["_law_number", "_law_names_here"] []
  a_read : Addr
  d_read : FuncData
  F_read : Fun K "read" "read" s_read a_read d_read
  g_read : mg "read" = some (.ref a_read)
  b_read : Binds K d_read ["text"] []
  a_sum_at : Addr
  d_sum_at : FuncData
  F_sum_at : Fun K "sum_at" "sum_at" s_sum_at a_sum_at d_sum_at
  g_sum_at : mg "sum_at" = some (.ref a_sum_at)
  b_sum_at : Binds K d_sum_at ["text", "at", "deep"] []
  a_row_at : Addr
  d_row_at : FuncData
  F_row_at : Fun K "row_at" "row_at" s_row_at a_row_at d_row_at
  g_row_at : mg "row_at" = some (.ref a_row_at)
  b_row_at : Binds K d_row_at ["text", "at", "deep", "signs", "reader"] []
  a_Two_init : Addr
  d_Two_init : FuncData
  F_Two_init : Fun K "__init__" "Two.__init__" s_Two_init a_Two_init d_Two_init
  b_Two_init : Binds K d_Two_init ["self", "sign", "left", "right"] []
  a_term_at : Addr
  d_term_at : FuncData
  F_term_at : Fun K "term_at" "term_at" s_term_at a_term_at d_term_at
  g_term_at : mg "term_at" = some (.ref a_term_at)
  b_term_at : Binds K d_term_at ["text", "at", "deep"] []
  a_factor_at : Addr
  d_factor_at : FuncData
  F_factor_at : Fun K "factor_at" "factor_at" s_factor_at a_factor_at d_factor_at
  g_factor_at : mg "factor_at" = some (.ref a_factor_at)
  b_factor_at : Binds K d_factor_at ["text", "at", "deep"] []
  a_power_at : Addr
  d_power_at : FuncData
  F_power_at : Fun K "power_at" "power_at" s_power_at a_power_at d_power_at
  g_power_at : mg "power_at" = some (.ref a_power_at)
  b_power_at : Binds K d_power_at ["text", "at", "deep"] []
  a_atom_at : Addr
  d_atom_at : FuncData
  F_atom_at : Fun K "atom_at" "atom_at" s_atom_at a_atom_at d_atom_at
  g_atom_at : mg "atom_at" = some (.ref a_atom_at)
  b_atom_at : Binds K d_atom_at ["text", "at", "deep"] []
  a_whole_at : Addr
  d_whole_at : FuncData
  F_whole_at : Fun K "whole_at" "whole_at" s_whole_at a_whole_at d_whole_at
  g_whole_at : mg "whole_at" = some (.ref a_whole_at)
  b_whole_at : Binds K d_whole_at ["text", "at", "most"] []
  a_run_of : Addr
  d_run_of : FuncData
  F_run_of : Fun K "run_of" "run_of" s_run_of a_run_of d_run_of
  g_run_of : mg "run_of" = some (.ref a_run_of)
  b_run_of : Binds K d_run_of ["text", "at", "signs", "most"] []
  a_Number_init : Addr
  d_Number_init : FuncData
  F_Number_init : Fun K "__init__" "Number.__init__" s_Number_init a_Number_init d_Number_init
  b_Number_init : Binds K d_Number_init ["self", "whole"] []
  a_Name_init : Addr
  d_Name_init : FuncData
  F_Name_init : Fun K "__init__" "Name.__init__" s_Name_init a_Name_init d_Name_init
  b_Name_init : Binds K d_Name_init ["self", "word"] []
  a_Power_init : Addr
  d_Power_init : FuncData
  F_Power_init : Fun K "__init__" "Power.__init__" s_Power_init a_Power_init d_Power_init
  b_Power_init : Binds K d_Power_init ["self", "base", "exponent"] []
  a_Less_init : Addr
  d_Less_init : FuncData
  F_Less_init : Fun K "__init__" "Less.__init__" s_Less_init a_Less_init d_Less_init
  b_Less_init : Binds K d_Less_init ["self", "inner"] []
  a_law_text : Addr
  d_law_text : FuncData
  F_law_text : Fun K "_law_text" "_law_text" s_law_text a_law_text d_law_text
  g_law_text : mg "_law_text" = some (.ref a_law_text)
  b_law_text : Binds K d_law_text ["_law_tree"] []
  a_law_inner : Addr
  d_law_inner : FuncData
  F_law_inner : Fun K "_law_inner" "_law_inner" s_law_inner a_law_inner d_law_inner
  g_law_inner : mg "_law_inner" = some (.ref a_law_inner)
  b_law_inner : Binds K d_law_inner ["_law_tree", "_law_least"] []
  a_law_binds : Addr
  d_law_binds : FuncData
  F_law_binds : Fun K "_law_binds" "_law_binds" s_law_binds a_law_binds d_law_binds
  g_law_binds : mg "_law_binds" = some (.ref a_law_binds)
  b_law_binds : Binds K d_law_binds ["_law_tree"] []
  a_law_point : Addr
  d_law_point : FuncData
  F_law_point : Fun K "_law_point" "_law_point" s_law_point a_law_point d_law_point
  g_law_point : mg "_law_point" = some (.ref a_law_point)
  b_law_point : Binds K d_law_point ["_law_numbers_here", "_law_names_here"] []
  a_law_lowest : Addr
  d_law_lowest : FuncData
  F_law_lowest : Fun K "_law_lowest" "_law_lowest" s_law_lowest a_law_lowest d_law_lowest
  g_law_lowest : mg "_law_lowest" = some (.ref a_law_lowest)
  b_law_lowest : Binds K d_law_lowest ["_law_top", "_law_bottom"] []
  a_law_share : Addr
  d_law_share : FuncData
  F_law_share : Fun K "_law_share" "_law_share" s_law_share a_law_share d_law_share
  g_law_share : mg "_law_share" = some (.ref a_law_share)
  b_law_share : Binds K d_law_share ["_law_one", "_law_other"] []
  a_law_right : Addr
  d_law_right : FuncData
  F_law_right : Fun K "_law_right" "_law_right" s_law_right a_law_right d_law_right
  g_law_right : mg "_law_right" = some (.ref a_law_right)
  b_law_right : Binds K d_law_right ["_law_expression", "_law_tree", "_law_point_here"] []
  a_law_value : Addr
  d_law_value : FuncData
  F_law_value : Fun K "_law_value" "_law_value" s_law_value a_law_value d_law_value
  g_law_value : mg "_law_value" = some (.ref a_law_value)
  b_law_value : Binds K d_law_value ["_law_tree", "_law_point_here"] []
  a_law_asked : Addr
  d_law_asked : FuncData
  F_law_asked : Fun K "_law_asked" "_law_asked" s_law_asked a_law_asked d_law_asked
  g_law_asked : mg "_law_asked" = some (.ref a_law_asked)
  b_law_asked : Binds K d_law_asked ["_law_expression", "_law_point_here"] []
  a_Number_value : Addr
  d_Number_value : FuncData
  F_Number_value : Fun K "value" "Number.value" s_Number_value a_Number_value d_Number_value
  b_Number_value : Binds K d_Number_value ["self", "point"] []
  a_Name_value : Addr
  d_Name_value : FuncData
  F_Name_value : Fun K "value" "Name.value" s_Name_value a_Name_value d_Name_value
  b_Name_value : Binds K d_Name_value ["self", "point"] []
  a_Two_value : Addr
  d_Two_value : FuncData
  F_Two_value : Fun K "value" "Two.value" s_Two_value a_Two_value d_Two_value
  b_Two_value : Binds K d_Two_value ["self", "point"] []
  a_Two_spine : Addr
  d_Two_spine : FuncData
  F_Two_spine : Fun K "spine" "Two.spine" s_Two_spine a_Two_spine d_Two_spine
  b_Two_spine : Binds K d_Two_spine ["self"] []
  a_put_together : Addr
  d_put_together : FuncData
  F_put_together : Fun K "put_together" "put_together" s_put_together a_put_together d_put_together
  g_put_together : mg "put_together" = some (.ref a_put_together)
  b_put_together : Binds K d_put_together ["sign", "one", "other"] []
  a_plus : Addr
  d_plus : FuncData
  F_plus : Fun K "plus" "plus" s_plus a_plus d_plus
  g_plus : mg "plus" = some (.ref a_plus)
  b_plus : Binds K d_plus ["one", "other"] []
  a_fraction : Addr
  d_fraction : FuncData
  F_fraction : Fun K "fraction" "fraction" s_fraction a_fraction d_fraction
  g_fraction : mg "fraction" = some (.ref a_fraction)
  b_fraction : Binds K d_fraction ["top", "bottom"] []
  a_divisor : Addr
  d_divisor : FuncData
  F_divisor : Fun K "divisor" "divisor" s_divisor a_divisor d_divisor
  g_divisor : mg "divisor" = some (.ref a_divisor)
  b_divisor : Binds K d_divisor ["one", "other"] []
  a_minus : Addr
  d_minus : FuncData
  F_minus : Fun K "minus" "minus" s_minus a_minus d_minus
  g_minus : mg "minus" = some (.ref a_minus)
  b_minus : Binds K d_minus ["one", "other"] []
  a_times : Addr
  d_times : FuncData
  F_times : Fun K "times" "times" s_times a_times d_times
  g_times : mg "times" = some (.ref a_times)
  b_times : Binds K d_times ["one", "other"] []
  a_over : Addr
  d_over : FuncData
  F_over : Fun K "over" "over" s_over a_over d_over
  g_over : mg "over" = some (.ref a_over)
  b_over : Binds K d_over ["one", "other"] []
  a_Power_value : Addr
  d_Power_value : FuncData
  F_Power_value : Fun K "value" "Power.value" s_Power_value a_Power_value d_Power_value
  b_Power_value : Binds K d_Power_value ["self", "point"] []
  a_to_power : Addr
  d_to_power : FuncData
  F_to_power : Fun K "to_power" "to_power" s_to_power a_to_power d_to_power
  g_to_power : mg "to_power" = some (.ref a_to_power)
  b_to_power : Binds K d_to_power ["number", "exponent"] []
  a_Less_value : Addr
  d_Less_value : FuncData
  F_Less_value : Fun K "value" "Less.value" s_Less_value a_Less_value d_Less_value
  b_Less_value : Binds K d_Less_value ["self", "point"] []
  a_Less_core : Addr
  d_Less_core : FuncData
  F_Less_core : Fun K "core" "Less.core" s_Less_core a_Less_core d_Less_core
  b_Less_core : Binds K d_Less_core ["self"] []
  a_law_kinds : Addr
  d_law_kinds : FuncData
  F_law_kinds : Fun K "_law_kinds" "_law_kinds" s_law_kinds a_law_kinds d_law_kinds
  g_law_kinds : mg "_law_kinds" = some (.ref a_law_kinds)
  b_law_kinds : Binds K d_law_kinds ["_law_caught"] []
  a_law_is : Addr
  d_law_is : FuncData
  F_law_is : Fun K "_law_is" "_law_is" s_law_is a_law_is d_law_is
  g_law_is : mg "_law_is" = some (.ref a_law_is)
  b_law_is : Binds K d_law_is ["_law_found", "_law_due"] []
  C : ExA
  Y : ExC
  x : ExK K Y
  g_Number : mg "Number" = some (.ref Y.Number)
  mk_Number : Mk K Y.Number a_Number_init
  g_Name : mg "Name" = some (.ref Y.Name)
  mk_Name : Mk K Y.Name a_Name_init
  g_Two : mg "Two" = some (.ref Y.Two)
  mk_Two : Mk K Y.Two a_Two_init
  g_Power : mg "Power" = some (.ref Y.Power)
  mk_Power : Mk K Y.Power a_Power_init
  g_Less : mg "Less" = some (.ref Y.Less)
  mk_Less : Mk K Y.Less a_Less_init
  m_Number_value : Meth K Y.Number "value" a_Number_value
  m_Name_value : Meth K Y.Name "value" a_Name_value
  m_Two_value : Meth K Y.Two "value" a_Two_value
  m_Two_spine : Meth K Y.Two "spine" a_Two_spine
  m_Power_value : Meth K Y.Power "value" a_Power_value
  m_Less_value : Meth K Y.Less "value" a_Less_value
  m_Less_core : Meth K Y.Less "core" a_Less_core
  g_HouseError : mg "HouseError" = some (.ref C.HouseError)
  g_NoNumber : mg "NoNumber" = some (.ref C.NoNumber)
  g_NoRow : mg "NoRow" = some (.ref C.NoRow)
  g_NoValue : mg "NoValue" = some (.ref C.NoValue)
  g_NoText : mg "NoText" = some (.ref C.NoText)
  g_NoRoot : mg "NoRoot" = some (.ref C.NoRoot)
  g_TooFar : mg "TooFar" = some (.ref C.TooFar)
  g_NoLine : mg "NoLine" = some (.ref C.NoLine)
  x_NoNumber : PySem.W.excIn K C.NoNumber [.type "ValueError", .type "Exception", .type "BaseException", .type "object"] "ValueError.__new__" = true
  k_NoNumber : PySem.W.keepIn K (.ref C.NoNumber) = true
  s_NoNumber : PySem.W.subIn K (.ref C.NoNumber) (.type "BaseException") = some true
  t_NoNumber : PySem.W.typeIn K (.ref C.NoNumber) = some (.type "type")
  e_NoNumber : ExD K C C.NoNumber 0
  x_NoText : PySem.W.excIn K C.NoText [.type "ValueError", .type "Exception", .type "BaseException", .type "object"] "ValueError.__new__" = true
  k_NoText : PySem.W.keepIn K (.ref C.NoText) = true
  s_NoText : PySem.W.subIn K (.ref C.NoText) (.type "BaseException") = some true
  t_NoText : PySem.W.typeIn K (.ref C.NoText) = some (.type "type")
  e_NoText : ExD K C C.NoText 3
  x_NoValue : PySem.W.excIn K C.NoValue [.type "ValueError", .type "Exception", .type "BaseException", .type "object"] "ValueError.__new__" = true
  k_NoValue : PySem.W.keepIn K (.ref C.NoValue) = true
  s_NoValue : PySem.W.subIn K (.ref C.NoValue) (.type "BaseException") = some true
  t_NoValue : PySem.W.typeIn K (.ref C.NoValue) = some (.type "type")
  e_NoValue : ExD K C C.NoValue 2
  kh_NoValue : PySem.W.kitOne K (.ref C.NoValue) (.ref C.HouseError) = some true
  c_DEEP : ∃ u, mg "DEEP" = some u ∧ RelV (.int 30) u
  c_FIGURES : ∃ u, mg "FIGURES" = some u ∧ RelV (.str "0123456789") u
  c_LETTERS : ∃ u, mg "LETTERS" = some u ∧ RelV (.str "abcdefghijklmnopqrstuvwxyz") u
  c_SIGNS : ∃ u, mg "SIGNS" = some u ∧ RelV (.int 1000) u
  O1 : Addr
  g_ONE : mg "ONE" = some (.ref O1)
  h_ONE : ∀ H : Hp, SqT K H O1 [.int 1, .int 1]
  n_ValueError : mg "ValueError" = none
  n_abs : mg "abs" = none
  n_all : mg "all" = none
  n_bool : mg "bool" = none
  n_dict : mg "dict" = none
  n_int : mg "int" = none
  n_isinstance : mg "isinstance" = none
  n_len : mg "len" = none
  n_max : mg "max" = none
  n_range : mg "range" = none
  n_str : mg "str" = none
  n_tuple : mg "tuple" = none
section
variable {P : Program} {w : World} {K : PySem.W.Frag} {mg : Str → Option Value} {base : Heap}
theorem ok_law_numbers (T : Txt K mg) : FnOk P w K mg base CX0 1 T.a_law_numbers T.d_law_numbers ["_law_script", "_law_k", "_law_many"] (sp_law_numbers K) := by
  refine T.F_law_numbers.ok sc_law_numbers (fun vs H Q E h => len_N (E := E) (fun _ => rfl) h) (fun cdv A outer s H vs Q E hr h => ⟨t_law_numbers K, ?_, body_N (E := E) 5 (fun a ha => by obtain ⟨s, x, y, _⟩ := a; obtain ⟨k, n, hk, hn, hl⟩ := ha; dsimp only at hk hn hl; subst hk; subst hn; exact rd_law_numbers K s k n hl) (fun _ => rfl) h⟩)
  exact pss_cons (ps_set (i := 3) sc_law_numbers.nd rfl (Or.inl rfl) pe_int) (pss_cons (ps_if (pt_cmpR op_lt (pv 1) (pe_callB call_len_seq (by rfl) T.n_len (by decide +kernel) (pa_cons (pv 0) pa_nil)) (nomark _)) (pss_one (ps_set (i := 3) sc_law_numbers.nd rfl (Or.inl rfl) (pe_ix ix_list (pv 0) (pv 1) (fun _ _ => rfl)))) pss_nil) (pss_cons (ps_set (i := 4) sc_law_numbers.nd rfl (Or.inl rfl) pe_int) (pss_cons (ps_if (PW.pt (pw_or (pt_cmpR op_lt (pv 3) pe_int (nomark _)) (pw_or1 (pt_cmpR op_ge (pv 3) (pe_op op_pow pe_int pe_int) (nomark _))))) (pss_one (ps_set (i := 4) sc_law_numbers.nd rfl (Or.inl rfl) (pe_callB call_abs (by rfl) T.n_abs (by decide +kernel) (pa_cons (pv 3) pa_nil)))) pss_nil) (pss_cons (ps_set (i := 5) sc_law_numbers.nd rfl (Or.inl rfl) (pe_op op_mod (pv 3) pe_int)) (pss_cons (ps_set (i := 6) sc_law_numbers.nd rfl (Or.inl rfl) (pe_lst pa_nil)) (pss_cons (ps_for (by first | exact PassesOwn.never | exact PassesOwn.leaving) rfl (pi_range1 rfl T.n_range (pa_cons (pv 2) pa_nil)) (pg_name (i := 7) sc_law_numbers.nd rfl (Or.inl rfl)) (pss_cons (ps_set (i := 5) sc_law_numbers.nd rfl (Or.inl rfl) (pe_op op_mod (pe_op op_add (pe_op op_add (pe_op op_mulX (pv 5) pe_int) (pe_op op_mulX (pe_op op_mulX pe_int (pv 7)) (pv 7))) pe_int) pe_int)) (pss_one (ps_if (pt_cmpR op_gt (pv 4) pe_int (nomark _)) (pss_cons (ps_expr (pe_bm PySem.F.plainAttrs_list PySem.F.slot_list_append PySem.F.type_list_append mt_append (pv 6) (pa_cons (pe_op op_mod (pv 4) (pe_op op_pow pe_int pe_int)) pa_nil))) (pss_one (ps_set (i := 4) sc_law_numbers.nd rfl (Or.inl rfl) (pe_op op_fdivX (pv 4) (pe_op op_pow pe_int pe_int))))) (pss_one (ps_expr (pe_bm PySem.F.plainAttrs_list PySem.F.slot_list_append PySem.F.type_list_append mt_append (pv 6) (pa_cons (pe_op op_mod (pe_op op_mod (pe_op op_mulX (pv 5) pe_int) pe_int) (pe_op op_pow pe_int pe_int)) pa_nil)))))))) (pss_one (ps_ret (pv 6)))))))))
theorem ok_law_names (T : Txt K mg) : FnOk P w K mg base CX0 1 T.a_law_names T.d_law_names ["_law_numbers_here"] (sp_law_names K) := by
  refine T.F_law_names.ok sc_law_names (fun vs H Q E h => len_N (E := E) (fun _ => rfl) h) (fun cdv A outer s H vs Q E hr h => ⟨t_law_names K, ?_, body_N (E := E) 6 (fun a ha => rd_law_names K a.1 ha.1 ha.2) (fun _ => rfl) h⟩)
  exact pss_cons (ps_set (i := 1) sc_law_names.nd rfl (Or.inl rfl) (pe_str)) (pss_cons (ps_set (i := 2) sc_law_names.nd rfl (Or.inl rfl) (pe_lst pa_nil)) (pss_cons (ps_for (by first | exact PassesOwn.never | exact PassesOwn.leaving) rfl (pi_list (pv 0)) (pg_name (i := 3) sc_law_names.nd rfl (Or.inl rfl)) (pss_cons (ps_set (i := 4) sc_law_names.nd rfl (Or.inl rfl) (pe_str)) (pss_cons (ps_for (by first | exact PassesOwn.never | exact PassesOwn.leaving) rfl (pi_list (pe_lst (pa_cons pe_int (pa_cons pe_int (pa_cons pe_int pa_nil))))) (pg_name (i := 5) sc_law_names.nd rfl (Or.inl rfl)) (pss_one (ps_set (i := 4) sc_law_names.nd rfl (Or.inl rfl) (pe_op op_add_str (pv 4) (pe_ix ix_str (pv 1) (pe_op op_mod (pe_op op_fdivX (pv 3) (pv 5)) pe_int) (fun _ _ => rfl)))))) (pss_cons (ps_set (i := 4) sc_law_names.nd rfl (Or.inl rfl) (pe_slice sl_str (pe_op op_mulS (pv 4) pe_int) po_none (po_some (pe_op op_add pe_int (pe_op op_mod (pv 3) pe_int))))) (pss_cons (ps_set (i := 6) sc_law_names.nd rfl (Or.inl rfl) pe_int) (pss_cons (ps_while (by first | exact PassesOwn.never | exact PassesOwn.leaving) (pt_cmpR op_in_seq (pv 4) (pv 2) (by rfl)) (pss_cons (ps_set (i := 4) sc_law_names.nd rfl (Or.inl rfl) (pe_ix ix_str (pv 1) (pv 6) (fun _ _ => rfl))) (pss_one (ps_set (i := 6) sc_law_names.nd rfl (Or.inl rfl) (pe_op op_add (pv 6) pe_int))))) (pss_one (ps_expr (pe_bm PySem.F.plainAttrs_list PySem.F.slot_list_append PySem.F.type_list_append mt_append (pv 2) (pa_cons (pv 4) pa_nil)))))))))) (pss_one (ps_ret (pv 2)))))
theorem ok_law_joined (T : Txt K mg) : FnOk P w K mg base CX0 1 T.a_law_joined T.d_law_joined ["_law_sign", "_law_one", "_law_other"] (sp_law_joined K) := by
  refine T.F_law_joined.ok sc_law_joined (fun vs H Q E h => len_F (E := E) (fun _ => rfl) h) (fun cdv A outer s H vs Q E hr h => ⟨t_law_joined K, ?_, body_F (E := E) 1 (fun a ha => by obtain ⟨t, x, y, _⟩ := a; obtain ⟨s, hs, h⟩ := ha; dsimp only at hs; subst hs; exact rd_law_joined K s x y h) (fun _ => rfl) h⟩)
  exact pss_cons (ps_if (PW.pt (pw_or (pt_cmpR op_eq (pv 0) (pe_str) (nomark _)) (pw_or1 (pt_cmpR op_eq (pv 0) (pe_str) (nomark _))))) (pss_cons (ps_set (i := 3) sc_law_joined.nd rfl (Or.inl rfl) (pe_callB (call_max2 rfl) (by rfl) T.n_max (by decide +kernel) (pa_cons (pe_op op_add (pe_ix ix_tup (pv 1) pe_int (fun _ _ => rfl)) (pe_ix ix_tup (pv 2) pe_int (fun _ _ => rfl))) (pa_cons (pe_op op_add (pe_ix ix_tup (pv 2) pe_int (fun _ _ => rfl)) (pe_ix ix_tup (pv 1) pe_int (fun _ _ => rfl))) pa_nil)))) (pss_one (ps_ret (pe_tup (pa_cons (pe_tup (pa_cons (pv 0) (pa_cons (pe_ix ix_tup (pv 1) pe_int (fun _ _ => rfl)) (pa_cons (pe_ix ix_tup (pv 2) pe_int (fun _ _ => rfl)) pa_nil)))) (pa_cons (pv 3) (pa_cons (pe_op op_add (pe_ix ix_tup (pv 1) pe_int (fun _ _ => rfl)) (pe_ix ix_tup (pv 2) pe_int (fun _ _ => rfl))) (pa_cons (pe_op op_add (pe_op op_add (pe_ix ix_tup (pv 1) pe_int (fun _ _ => rfl)) (pe_ix ix_tup (pv 2) pe_int (fun _ _ => rfl))) pe_int) pa_nil)))))))) pss_nil) (pss_cons (ps_if (pt_cmpR op_eq (pv 0) (pe_str) (nomark _)) (pss_one (ps_ret (pe_tup (pa_cons (pe_tup (pa_cons (pv 0) (pa_cons (pe_ix ix_tup (pv 1) pe_int (fun _ _ => rfl)) (pa_cons (pe_ix ix_tup (pv 2) pe_int (fun _ _ => rfl)) pa_nil)))) (pa_cons (pe_op op_add (pe_ix ix_tup (pv 1) pe_int (fun _ _ => rfl)) (pe_ix ix_tup (pv 2) pe_int (fun _ _ => rfl))) (pa_cons (pe_op op_add (pe_ix ix_tup (pv 1) pe_int (fun _ _ => rfl)) (pe_ix ix_tup (pv 2) pe_int (fun _ _ => rfl))) (pa_cons (pe_op op_add (pe_ix ix_tup (pv 1) pe_int (fun _ _ => rfl)) (pe_ix ix_tup (pv 2) pe_int (fun _ _ => rfl))) pa_nil))))))) pss_nil) (pss_one (ps_ret (pe_tup (pa_cons (pe_tup (pa_cons (pv 0) (pa_cons (pe_ix ix_tup (pv 1) pe_int (fun _ _ => rfl)) (pa_cons (pe_ix ix_tup (pv 2) pe_int (fun _ _ => rfl)) pa_nil)))) (pa_cons (pe_op op_add (pe_ix ix_tup (pv 1) pe_int (fun _ _ => rfl)) (pe_ix ix_tup (pv 2) pe_int (fun _ _ => rfl))) (pa_cons (pe_op op_add (pe_ix ix_tup (pv 1) pe_int (fun _ _ => rfl)) (pe_ix ix_tup (pv 2) pe_int (fun _ _ => rfl))) (pa_cons (pe_op op_add (pe_ix ix_tup (pv 1) pe_int (fun _ _ => rfl)) (pe_ix ix_tup (pv 2) pe_int (fun _ _ => rfl))) pa_nil))))))))
theorem ok_law_fits (T : Txt K mg) : FnOk P w K mg base CX0 1 T.a_law_fits T.d_law_fits ["_law_part", "_law_most"] (sp_law_fits K) := by
  refine T.F_law_fits.ok sc_law_fits (fun vs H Q E h => len_F (E := E) (fun _ => rfl) h) (fun cdv A outer s H vs Q E hr h => ⟨t_law_fits K, ?_, body_F (E := E) 0 (fun a ha => rd_law_fits K a.1 a.2.1) (fun _ => rfl) h⟩)
  exact pss_one (ps_ret (pe_and (pe_cmpR op_le (pe_callB (call_max2 rfl) (by rfl) T.n_max (by decide +kernel) (pa_cons (pe_ix ix_tup (pv 0) pe_int (fun _ _ => rfl)) (pa_cons (pe_ix ix_tup (pv 0) pe_int (fun _ _ => rfl)) pa_nil))) (pv 1) (nomark _)) (pe_one (pe_cmpR op_le (pe_ix ix_tup (pv 0) pe_int (fun _ _ => rfl)) pe_int (nomark _)))))
theorem ok_law_leaf (T : Txt K mg) : FnOk P w K mg base CX0 1 T.a_law_leaf T.d_law_leaf ["_law_number", "_law_names_here"] (sp_law_leaf K) := by
  refine T.F_law_leaf.ok sc_law_leaf (fun vs H Q E h => len_F (E := E) (fun _ => rfl) h) (fun cdv A outer s H vs Q E hr h => ⟨t_law_leaf K, ?_, body_F (E := E) 1 (fun a ha => rd_law_leaf K a.1 a.2.1 ha.1 ha.2) (fun _ => rfl) h⟩)
  exact pss_cons (ps_if (PW.pt (pw_and (pt_cmpR op_lt (pe_op op_mod (pv 0) pe_int) pe_int (nomark _)) (pw_and1 (pt_cmpR (op_neNil hr.units) (pv 1) (pe_lst pa_nil) (nomark _))))) (pss_one (ps_ret (pe_tup (pa_cons (pe_tup (pa_cons (pe_str) (pa_cons (pe_ix ix_list (pv 1) (pe_op op_modN (pe_op op_fdiv (pv 0) pe_int) (pe_callB call_len_seq (by rfl) T.n_len (by decide +kernel) (pa_cons (pv 1) pa_nil))) (fun _ _ => rfl)) pa_nil))) (pa_cons pe_int (pa_cons pe_int (pa_cons pe_int pa_nil))))))) pss_nil) (pss_cons (ps_if (PW.pt (pw_and (pt_cmpR op_eq (pe_op op_mod (pv 0) pe_int) pe_int (nomark _)) (pw_and1 (pt_cmpR op_eq (pe_op op_mod (pe_op op_fdiv (pv 0) pe_int) pe_int) pe_int (nomark _))))) (pss_cons (ps_set (i := 2) sc_law_leaf.nd rfl (Or.inl rfl) (pe_op op_add (pe_op op_mulX (pe_op op_add (pv 0) pe_int) (pe_op op_pow pe_int pe_int)) (pe_op op_mulX (pv 0) pe_int))) (pss_one (ps_ret (pe_tup (pa_cons (pe_tup (pa_cons (pe_str) (pa_cons (pv 2) pa_nil))) (pa_cons pe_int (pa_cons pe_int (pa_cons pe_int pa_nil)))))))) pss_nil) (pss_one (ps_ret (pe_tup (pa_cons (pe_tup (pa_cons (pe_str) (pa_cons (pe_op op_modN (pe_op op_fdiv (pv 0) pe_int) (pe_ix ix_list (pe_lst (pa_cons pe_int (pa_cons pe_int (pa_cons pe_int pa_nil)))) (pe_op op_mod (pe_op op_fdiv (pv 0) pe_int) pe_int) (fun _ _ => rfl))) pa_nil))) (pa_cons pe_int (pa_cons pe_int (pa_cons pe_int pa_nil))))))))
theorem ok_law_step (T : Txt K mg) : FnOk P w K mg base CX0 2 T.a_law_step T.d_law_step ["_law_stack", "_law_number", "_law_names_here", "_law_most"] (sp_law_step K) := by
  refine T.F_law_step.ok sc_law_step (fun vs H Q E h => len_N (E := E) (fun _ => rfl) h) (fun cdv A outer s H vs Q E hr h => ⟨t_law_step K, ?_, body_N (E := E) 8 (fun a ha => rd_law_step K a.1 a.2.1 a.2.2.1 a.2.2.2.1 ha.1 ha.2.1 ha.2.2.1 ha.2.2.2) (fun _ => rfl) h⟩)
  exact pss_cons (ps_set (i := 4) sc_law_step.nd rfl (Or.inl rfl) (pe_op op_mod (pv 1) pe_int)) (pss_cons (ps_set (i := 5) sc_law_step.nd rfl (Or.inl rfl) (pe_op op_fdiv (pv 1) pe_int)) (pss_cons (ps_if (PW.pt (pw_and (pt_cmpR op_gt (pv 4) pe_int (nomark _)) (pw_and (pt_cmpR op_lt (pv 4) pe_int (nomark _)) (pw_and1 (pt_cmpR op_gt (pe_callB call_len_seq (by rfl) T.n_len (by decide +kernel) (pa_cons (pv 0) pa_nil)) pe_int (nomark _)))))) (pss_cons (ps_set (i := 6) sc_law_step.nd rfl (Or.inl rfl) (pe_call (ok_law_joined T) (hr.mono (by decide)) (by rfl) T.g_law_joined T.F_law_joined.kp T.b_law_joined .nil pass0 (pa_cons (pe_ix ix_str (pe_str) (pe_op op_mod (pv 5) pe_int) (fun _ _ => rfl)) (pa_cons (pe_ix ix_list (pv 0) (pe_un un_neg pe_int) (fun _ _ => rfl)) (pa_cons (pe_ix ix_list (pv 0) (pe_un un_neg pe_int) (fun _ _ => rfl)) pa_nil))))) (pss_one (ps_if (pt_val (pe_call (ok_law_fits T) (hr.mono (by decide)) (by rfl) T.g_law_fits T.F_law_fits.kp T.b_law_fits .nil pass0 (pa_cons (pv 6) (pa_cons (pv 3) pa_nil)))) (pss_one (ps_ret (pe_op op_catL (pe_slice sl_list (pv 0) po_none (po_some (pe_un un_neg pe_int))) (pe_lst (pa_cons (pv 6) pa_nil))))) pss_nil))) pss_nil) (pss_cons (ps_if (PW.pt (pw_and (pt_cmpR op_eq (pv 4) pe_int (nomark _)) (pw_and1 (pt_cmpR (op_neNil hr.units) (pv 0) (pe_lst pa_nil) (nomark _))))) (pss_cons (ps_asg (pe_ix ix_list (pv 0) (pe_un un_neg pe_int) (fun _ _ => rfl)) (pg_tup rfl (pgs_cons (pg_name (i := 7) sc_law_step.nd rfl (Or.inl rfl)) (pgs_cons (pg_name (i := 8) sc_law_step.nd rfl (Or.inl rfl)) (pgs_cons (pg_name (i := 9) sc_law_step.nd rfl (Or.inl rfl)) (pgs_cons (pg_name (i := 10) sc_law_step.nd rfl (Or.inl rfl)) (pgs_nil))))))) (pss_cons (ps_set (i := 11) sc_law_step.nd rfl (Or.inl rfl) (pe_ix ix_list (pe_lst (pa_cons pe_int (pa_cons pe_int (pa_cons pe_int (pa_cons pe_int (pa_cons (pe_op op_mod (pe_op op_fdiv (pv 5) pe_int) pe_int) pa_nil)))))) (pe_op op_mod (pv 5) pe_int) (fun _ _ => rfl))) (pss_cons (ps_set (i := 6) sc_law_step.nd rfl (Or.inl rfl) (pe_tup (pa_cons (pe_tup (pa_cons (pe_str) (pa_cons (pv 7) (pa_cons (pv 11) pa_nil)))) (pa_cons (pe_op op_mulX (pv 8) (pv 11)) (pa_cons (pe_op op_mulX (pv 9) (pv 11)) (pa_cons (pe_op op_mulX (pv 10) (pe_callB (call_max2 rfl) (by rfl) T.n_max (by decide +kernel) (pa_cons pe_int (pa_cons (pv 11) pa_nil)))) pa_nil)))))) (pss_one (ps_if (pt_val (pe_call (ok_law_fits T) (hr.mono (by decide)) (by rfl) T.g_law_fits T.F_law_fits.kp T.b_law_fits .nil pass0 (pa_cons (pv 6) (pa_cons (pv 3) pa_nil)))) (pss_one (ps_ret (pe_op op_catL (pe_slice sl_list (pv 0) po_none (po_some (pe_un un_neg pe_int))) (pe_lst (pa_cons (pv 6) pa_nil))))) pss_nil))))) pss_nil) (pss_cons (ps_if (PW.pt (pw_and (pt_cmpR op_eq (pv 4) pe_int (nomark _)) (pw_and1 (pt_cmpR (op_neNil hr.units) (pv 0) (pe_lst pa_nil) (nomark _))))) (pss_one (ps_ret (pe_op op_catL (pe_slice sl_list (pv 0) po_none (po_some (pe_un un_neg pe_int))) (pe_lst (pa_cons (pe_op op_catT (pe_tup (pa_cons (pe_tup (pa_cons (pe_str) (pa_cons (pe_ix ix_tup (pe_ix ix_list (pv 0) (pe_un un_neg pe_int) (fun _ _ => rfl)) pe_int (fun _ _ => rfl)) pa_nil))) pa_nil)) (pe_slice sl_tup (pe_ix ix_list (pv 0) (pe_un un_neg pe_int) (fun _ _ => rfl)) (po_some pe_int) po_none)) pa_nil))))) pss_nil) (pss_one (ps_ret (pe_op op_catL (pv 0) (pe_lst (pa_cons (pe_call (ok_law_leaf T) (hr.mono (by decide)) (by rfl) T.g_law_leaf T.F_law_leaf.kp T.b_law_leaf .nil pass0 (pa_cons (pv 5) (pa_cons (pv 2) pa_nil))) pa_nil)))))))))
theorem ok_law_grown (T : Txt K mg) : FnOk P w K mg base CX0 3 T.a_law_grown T.d_law_grown ["_law_numbers_here", "_law_names_here", "_law_most"] (sp_law_grown K) := by
  refine T.F_law_grown.ok sc_law_grown (fun vs H Q E h => len_F (E := E) (fun _ => rfl) h) (fun cdv A outer s H vs Q E hr h => ⟨t_law_grown K, ?_, body_F (E := E) 5 (fun a ha => rd_law_grown K a.1 a.2.1 a.2.2.1 ha.1.1 ha.1.2.1 ha.1.2.2 ha.2.1 ha.2.2.1 ha.2.2.2.1 ha.2.2.2.2) (fun _ => rfl) h⟩)
  exact pss_cons (ps_set (i := 3) sc_law_grown.nd rfl (Or.inl rfl) (pe_lst pa_nil)) (pss_cons (ps_for (by first | exact PassesOwn.never | exact PassesOwn.leaving) rfl (pi_list (pv 0)) (pg_name (i := 4) sc_law_grown.nd rfl (Or.inl rfl)) (pss_one (ps_set (i := 3) sc_law_grown.nd rfl (Or.inl rfl) (pe_call (ok_law_step T) (hr.mono (by decide)) (by rfl) T.g_law_step T.F_law_step.kp T.b_law_step .nil pass0 (pa_cons (pv 3) (pa_cons (pv 4) (pa_cons (pv 1) (pa_cons (pv 2) pa_nil)))))))) (pss_cons (ps_set (i := 5) sc_law_grown.nd rfl (Or.inl rfl) (pe_ix ix_list (pv 3) pe_int (fun _ _ => rfl))) (pss_cons (ps_for (by first | exact PassesOwn.never | exact PassesOwn.leaving) rfl (pi_range2 rfl T.n_range (pa_cons pe_int (pa_cons (pe_callB call_len_seq (by rfl) T.n_len (by decide +kernel) (pa_cons (pv 3) pa_nil)) pa_nil))) (pg_name (i := 6) sc_law_grown.nd rfl (Or.inl rfl)) (pss_cons (ps_set (i := 7) sc_law_grown.nd rfl (Or.inl rfl) (pe_call (ok_law_joined T) (hr.mono (by decide)) (by rfl) T.g_law_joined T.F_law_joined.kp T.b_law_joined .nil pass0 (pa_cons (pe_ix ix_str (pe_str) (pe_op op_mod (pe_op op_add (pe_callB call_len_seq (by rfl) T.n_len (by decide +kernel) (pa_cons (pv 0) pa_nil)) (pv 6)) pe_int) (fun _ _ => rfl)) (pa_cons (pv 5) (pa_cons (pe_ix ix_list (pv 3) (pv 6) (fun _ _ => rfl)) pa_nil))))) (pss_one (ps_if (pt_val (pe_call (ok_law_fits T) (hr.mono (by decide)) (by rfl) T.g_law_fits T.F_law_fits.kp T.b_law_fits .nil pass0 (pa_cons (pv 7) (pa_cons (pv 2) pa_nil)))) (pss_one (ps_set (i := 5) sc_law_grown.nd rfl (Or.inl rfl) (pv 7))) pss_nil)))) (pss_one (ps_ret (pe_ix ix_tup (pv 5) pe_int (fun _ _ => rfl)))))))
theorem ok_Two_init (T : Txt K mg) : FnOk P w K mg base CX0 1 T.a_Two_init T.d_Two_init ["self", "sign", "left", "right"] (spIni T.Y.Two 3 mkTwo) := by
  refine T.F_Two_init.ok sc_Two_init (fun vs H Q E h => len_Ini h) (fun cdv A outer s H vs Q E hr h => ⟨_, ?_, ini3 T.x.cTwo.cl T.x.f_sign T.x.f_left T.x.f_right (fun _ _ _ => rfl) (by decide +kernel) (by decide +kernel) (by decide +kernel) rfl h⟩)
  exact pss_cons (ps_fld (pv 0) (pv 1) rfl) (pss_cons (ps_fld (pv 0) (pv 2) rfl) (pss_one (ps_fld (pv 0) (pv 3) rfl)))
theorem ok_Less_init (T : Txt K mg) : FnOk P w K mg base CX0 1 T.a_Less_init T.d_Less_init ["self", "inner"] (spIni T.Y.Less 1 mkLess) := by
  refine T.F_Less_init.ok sc_Less_init (fun vs H Q E h => len_Ini h) (fun cdv A outer s H vs Q E hr h => ⟨_, ?_, ini1 T.x.cLess.cl T.x.f_inner (fun _ => rfl) rfl h⟩)
  exact pss_one (ps_fld (pv 0) (pv 1) rfl)
theorem ok_run_of (T : Txt K mg) : FnOk P w K mg base (L2.CX P w) 1 T.a_run_of T.d_run_of ["text", "at", "signs", "most"] (sp_run_of K T.C) := by
  refine T.F_run_of.okX sc_run_of (fun vs H Q E h => len_X (E := E) (fun _ => rfl) h) (fun cdv A outer s H vs Q E hr h => ⟨t_run_of K T.C E, ?_, body_X (E := E) 1 (by exact fun a ha => by obtain ⟨t, z, sg, y, _⟩ := a; obtain ⟨n, m, hn, hm, h1, h2⟩ := ha; dsimp only at hn hm h1 h2; subst hn; subst hm; exact rd_run_of K T.C E t sg n m h1 h2) (fun _ => rfl) h⟩)
  exact pss_cons (ps_set (i := 4) sc_run_of.nd rfl (Or.inl rfl) (pv 1)) (pss_cons (ps_while (by first | exact PassesOwn.never | exact PassesOwn.leaving) (PW.pt (pw_and (pt_cmpR op_lt (pv 4) (pe_callB call_len_str (by rfl) T.n_len (by decide +kernel) (pa_cons (pv 0) pa_nil)) (nomark _)) (pw_and1 (pt_cmpR op_in_sign (pe_ix ix_str (pv 0) (pv 4) (fun _ _ => rfl)) (pv 2) (by rfl))))) (pss_one (ps_set (i := 4) sc_run_of.nd rfl (Or.inl rfl) (pe_op op_add (pv 4) pe_int)))) (pss_cons (ps_if (PW.pt (pw_or (pt_cmpR op_eq (pv 4) (pv 1) (nomark _)) (pw_or1 (pt_cmpR op_gt (pe_op op_sub (pv 4) (pv 1)) (pv 3) (nomark _))))) (pss_one (ps_raise rfl (takes_of rfl rfl rfl rfl) (pmk_own PySem.F.excBase_ValueError T.x_NoText T.g_NoText T.k_NoText (raises_own T.s_NoText T.t_NoText) (by rfl)))) pss_nil) (pss_one (ps_ret (pe_slice sl_str (pv 0) (po_some (pv 1)) (po_some (pv 4)))))))
theorem ok_whole_at (T : Txt K mg) : FnOk P w K mg base (L2.CX P w) 2 T.a_whole_at T.d_whole_at ["text", "at", "most"] (sp_whole_at K T.C) := by
  refine T.F_whole_at.okX sc_whole_at (fun vs H Q E h => len_X (E := E) (fun _ => rfl) h) (fun cdv A outer s H vs Q E hr h => ⟨t_whole_at K T.C E, ?_, body_X (E := E) 1 (by exact fun a ha => by obtain ⟨t, z, y, _⟩ := a; obtain ⟨n, m, hn, hm, h1, h2⟩ := ha; dsimp only at hn hm h1 h2; subst hn; subst hm; exact rd_whole_at K T.C E t n m h1 h2) (fun _ => rfl) h⟩)
  exact pss_cons (ps_set (i := 3) sc_whole_at.nd rfl (Or.inl rfl) (pe_call (ok_run_of T) (hr.mono (by decide)) (by rfl) T.g_run_of T.F_run_of.kp T.b_run_of .nil (passX rfl rfl rfl rfl) (pa_cons (pv 0) (pa_cons (pv 1) (pa_cons (pe_gc (by rfl) T.c_FIGURES) (pa_cons (pv 2) pa_nil)))))) (pss_cons (ps_if (PW.pt (pw_and (pt_cmpR op_gt (pe_callB call_len_str (by rfl) T.n_len (by decide +kernel) (pa_cons (pv 3) pa_nil)) pe_int (nomark _)) (pw_and1 (pt_cmpR op_eq (pe_ix ix_str (pv 3) pe_int (fun _ _ => rfl)) (pe_str) (nomark _))))) (pss_one (ps_raise rfl (takes_of rfl rfl rfl rfl) (pmk_own PySem.F.excBase_ValueError T.x_NoText T.g_NoText T.k_NoText (raises_own T.s_NoText T.t_NoText) (by rfl)))) pss_nil) (pss_one (ps_ret (pv 3))))
theorem ok_Power_init (T : Txt K mg) : FnOk P w K mg base CX0 1 T.a_Power_init T.d_Power_init ["self", "base", "exponent"] (spIni T.Y.Power 2 mkPow) := by
  refine T.F_Power_init.ok sc_Power_init (fun vs H Q E h => len_Ini h) (fun cdv A outer s H vs Q E hr h => ⟨_, ?_, ini2 T.x.cPower.cl T.x.f_base T.x.f_exponent (fun _ _ => rfl) (by decide +kernel) rfl h⟩)
  exact pss_cons (ps_fld (pv 0) (pv 1) rfl) (pss_one (ps_fld (pv 0) (pv 2) rfl))
theorem ok_Number_init (T : Txt K mg) : FnOk P w K mg base CX0 1 T.a_Number_init T.d_Number_init ["self", "whole"] (spIni T.Y.Number 1 mkNum) := by
  refine T.F_Number_init.ok sc_Number_init (fun vs H Q E h => len_Ini h) (fun cdv A outer s H vs Q E hr h => ⟨_, ?_, ini1 T.x.cNumber.cl T.x.f_whole (fun _ => rfl) rfl h⟩)
  exact pss_one (ps_fld (pv 0) (pv 1) rfl)
theorem ok_Name_init (T : Txt K mg) : FnOk P w K mg base CX0 1 T.a_Name_init T.d_Name_init ["self", "word"] (spIni T.Y.Name 1 mkName) := by
  refine T.F_Name_init.ok sc_Name_init (fun vs H Q E h => len_Ini h) (fun cdv A outer s H vs Q E hr h => ⟨_, ?_, ini1 T.x.cName.cl T.x.f_word (fun _ => rfl) rfl h⟩)
  exact pss_one (ps_fld (pv 0) (pv 1) rfl)
theorem ok_parse (T : Txt K mg) (r : Nat) : FnOk P w K mg base (L2.CX P w) (7 * r + 9) T.a_sum_at T.d_sum_at ["text", "at", "deep"] (sp_rd K T.Y T.C (pS r) r) := by
  have atom0 : FnOk P w K mg base (L2.CX P w) (7 * 0 + 3) T.a_atom_at T.d_atom_at ["text", "at", "deep"] (sp_rd K T.Y T.C (atomL (subL 0)) 0) := by
    refine T.F_atom_at.okX sc_atom_at (fun vs H Q E h => len_X (E := E) (fun _ => rfl) h) (fun cdv A outer s H vs Q E hr h => ⟨t_atom_at0 K T.C T.Y E, ?_, body_X (E := E) 4 (by exact fun a ha => by obtain ⟨text, z, d, _⟩ := a; obtain ⟨n, hn, hd, h1, h2⟩ := ha; dsimp only at hn hd h1 h2; subst hn; subst hd; exact rd_atom_at0 K T.C T.Y E text n h1 h2) (fun _ => rfl) h⟩)
    exact pss_cons (ps_set (i := 3) sc_atom_at.nd rfl (Or.inl rfl) (pe_slice sl_str (pv 0) (po_some (pv 1)) (po_some (pe_op op_add (pv 1) pe_int)))) (pss_cons (ps_if (pt_cmpR op_eq (pv 3) (pe_str) (nomark _)) (pss_cons (ps_if (pt_cmpR op_eq (pv 2) (pe_gc (by rfl) T.c_DEEP) (nomark _)) (pss_one (ps_raise rfl (takes_of rfl rfl rfl rfl) (pmk_own PySem.F.excBase_ValueError T.x_NoText T.g_NoText T.k_NoText (raises_own T.s_NoText T.t_NoText) (by rfl)))) pss_nil) (pss_cons (ps_never) (pss_cons (ps_if (pt_cmpR op_ne (pe_slice sl_str (pv 0) (po_some (pv 1)) (po_some (pe_op op_add (pv 1) pe_int))) (pe_str) (nomark _)) (pss_one (ps_raise rfl (takes_of rfl rfl rfl rfl) (pmk_own PySem.F.excBase_ValueError T.x_NoText T.g_NoText T.k_NoText (raises_own T.s_NoText T.t_NoText) (by rfl)))) pss_nil) (pss_one (ps_ret (pe_tup (pa_cons (pv 4) (pa_cons (pe_op op_add (pv 1) pe_int) pa_nil)))))))) pss_nil) (pss_cons (ps_if (PW.pt (pw_and (pt_cmpR op_ne (pv 3) (pe_str) (nomark _)) (pw_and1 (pt_cmpR op_in_sign (pv 3) (pe_gc (by rfl) T.c_FIGURES) (by rfl))))) (pss_cons (ps_set (i := 5) sc_atom_at.nd rfl (Or.inl rfl) (pe_call (ok_whole_at T) (hr.mono (by omega)) (by rfl) T.g_whole_at T.F_whole_at.kp T.b_whole_at .nil (passX rfl rfl rfl rfl) (pa_cons (pv 0) (pa_cons (pv 1) (pa_cons pe_int pa_nil))))) (pss_one (ps_ret (pe_tup (pa_cons (pe_make T.mk_Number (ok_Number_init T) (hr.mono (by omega)) (by rfl) T.g_Number T.b_Number_init .nil pass0 (pa_cons (pe_callTy call_int_str (by rfl) T.n_int (by decide +kernel) (pa_cons (pv 5) pa_nil)) pa_nil)) (pa_cons (pe_op op_add (pv 1) (pe_callB call_len_str (by rfl) T.n_len (by decide +kernel) (pa_cons (pv 5) pa_nil))) pa_nil)))))) pss_nil) (pss_cons (ps_set (i := 6) sc_atom_at.nd rfl (Or.inl rfl) (pe_call (ok_run_of T) (hr.mono (by omega)) (by rfl) T.g_run_of T.F_run_of.kp T.b_run_of .nil (passX rfl rfl rfl rfl) (pa_cons (pv 0) (pa_cons (pv 1) (pa_cons (pe_gc (by rfl) T.c_LETTERS) (pa_cons pe_int pa_nil)))))) (pss_one (ps_ret (pe_tup (pa_cons (pe_make T.mk_Name (ok_Name_init T) (hr.mono (by omega)) (by rfl) T.g_Name T.b_Name_init .nil pass0 (pa_cons (pv 6) pa_nil)) (pa_cons (pe_op op_add (pv 1) (pe_callB call_len_str (by rfl) T.n_len (by decide +kernel) (pa_cons (pv 6) pa_nil))) pa_nil))))))))
  have atomS : ∀ r, FnOk P w K mg base (L2.CX P w) (7 * r + 9) T.a_sum_at T.d_sum_at ["text", "at", "deep"] (sp_rd K T.Y T.C (pS r) r) → FnOk P w K mg base (L2.CX P w) (7 * (r + 1) + 3) T.a_atom_at T.d_atom_at ["text", "at", "deep"] (sp_rd K T.Y T.C (atomL (subL (r + 1))) (r + 1)) := by
    intro r hs
    refine T.F_atom_at.okX sc_atom_at (fun vs H Q E h => len_X (E := E) (fun _ => rfl) h) (fun cdv A outer s H vs Q E hr h => ⟨t_atom_at K T.C T.Y r E, ?_, body_X (E := E) 4 (by exact fun a ha => by obtain ⟨text, z, d, _⟩ := a; obtain ⟨n, hn, hd, h1, h2⟩ := ha; dsimp only at hn hd h1 h2; subst hn; subst hd; exact rd_atom_at K T.C T.Y r E text n h1 h2) (fun _ => rfl) h⟩)
    exact pss_cons (ps_set (i := 3) sc_atom_at.nd rfl (Or.inl rfl) (pe_slice sl_str (pv 0) (po_some (pv 1)) (po_some (pe_op op_add (pv 1) pe_int)))) (pss_cons (ps_if (pt_cmpR op_eq (pv 3) (pe_str) (nomark _)) (pss_cons (ps_if (pt_cmpR op_eq (pv 2) (pe_gc (by rfl) T.c_DEEP) (nomark _)) (pss_one (ps_raise rfl (takes_of rfl rfl rfl rfl) (pmk_own PySem.F.excBase_ValueError T.x_NoText T.g_NoText T.k_NoText (raises_own T.s_NoText T.t_NoText) (by rfl)))) pss_nil) (pss_cons (ps_asg (pe_call hs (hr.mono (by omega)) (by rfl) T.g_sum_at T.F_sum_at.kp T.b_sum_at .nil (passX rfl rfl rfl rfl) (pa_cons (pv 0) (pa_cons (pe_op op_add (pv 1) pe_int) (pa_cons (pe_op op_add (pv 2) pe_int) pa_nil)))) (pg_tup rfl (pgs_cons (pg_name (i := 4) sc_atom_at.nd rfl (Or.inl rfl)) (pgs_cons (pg_name (i := 1) sc_atom_at.nd rfl (Or.inl rfl)) (pgs_nil))))) (pss_cons (ps_if (pt_cmpR op_ne (pe_slice sl_str (pv 0) (po_some (pv 1)) (po_some (pe_op op_add (pv 1) pe_int))) (pe_str) (nomark _)) (pss_one (ps_raise rfl (takes_of rfl rfl rfl rfl) (pmk_own PySem.F.excBase_ValueError T.x_NoText T.g_NoText T.k_NoText (raises_own T.s_NoText T.t_NoText) (by rfl)))) pss_nil) (pss_one (ps_ret (pe_tup (pa_cons (pv 4) (pa_cons (pe_op op_add (pv 1) pe_int) pa_nil)))))))) pss_nil) (pss_cons (ps_if (PW.pt (pw_and (pt_cmpR op_ne (pv 3) (pe_str) (nomark _)) (pw_and1 (pt_cmpR op_in_sign (pv 3) (pe_gc (by rfl) T.c_FIGURES) (by rfl))))) (pss_cons (ps_set (i := 5) sc_atom_at.nd rfl (Or.inl rfl) (pe_call (ok_whole_at T) (hr.mono (by omega)) (by rfl) T.g_whole_at T.F_whole_at.kp T.b_whole_at .nil (passX rfl rfl rfl rfl) (pa_cons (pv 0) (pa_cons (pv 1) (pa_cons pe_int pa_nil))))) (pss_one (ps_ret (pe_tup (pa_cons (pe_make T.mk_Number (ok_Number_init T) (hr.mono (by omega)) (by rfl) T.g_Number T.b_Number_init .nil pass0 (pa_cons (pe_callTy call_int_str (by rfl) T.n_int (by decide +kernel) (pa_cons (pv 5) pa_nil)) pa_nil)) (pa_cons (pe_op op_add (pv 1) (pe_callB call_len_str (by rfl) T.n_len (by decide +kernel) (pa_cons (pv 5) pa_nil))) pa_nil)))))) pss_nil) (pss_cons (ps_set (i := 6) sc_atom_at.nd rfl (Or.inl rfl) (pe_call (ok_run_of T) (hr.mono (by omega)) (by rfl) T.g_run_of T.F_run_of.kp T.b_run_of .nil (passX rfl rfl rfl rfl) (pa_cons (pv 0) (pa_cons (pv 1) (pa_cons (pe_gc (by rfl) T.c_LETTERS) (pa_cons pe_int pa_nil)))))) (pss_one (ps_ret (pe_tup (pa_cons (pe_make T.mk_Name (ok_Name_init T) (hr.mono (by omega)) (by rfl) T.g_Name T.b_Name_init .nil pass0 (pa_cons (pv 6) pa_nil)) (pa_cons (pe_op op_add (pv 1) (pe_callB call_len_str (by rfl) T.n_len (by decide +kernel) (pa_cons (pv 6) pa_nil))) pa_nil))))))))
  have rowS : ∀ (r : Nat) (f0 : Addr) (fd0 : FuncData) (p : Xp.Rd) (ss : List Nat) (k : Nat), Xp.Bd p → FnOk P w K mg base (L2.CX P w) k f0 fd0 ["text", "at", "deep"] (sp_rd K T.Y T.C p r) → PySem.W.keepIn K (.ref f0) = true → Binds K fd0 ["text", "at", "deep"] [] → 2 ≤ k → FnOk P w K mg base (L2.CX P w) (k + 1) T.a_row_at T.d_row_at ["text", "at", "deep", "signs", "reader"] (sp_row K T.Y T.C f0 ss p r) := by
    intro r f0 fd0 p ss k hp F0 k0 b0 hk
    refine T.F_row_at.okX sc_row_at (fun vs H Q E h => len_X (E := E) (fun _ => rfl) h) (fun cdv A outer s H vs Q E hr h => ⟨t_row_at K T.Y f0 (sp_rd K T.Y T.C p r) E, ?_, body_X (E := E) 3 (by exact fun a ha => by obtain ⟨text, z, d, sg, u, _⟩ := a; obtain ⟨n, hn, hd, hs, h1, h2⟩ := ha; dsimp only at hn hd hs h1 h2; subst hn; subst hd; subst hs; exact rd_row_at K T.C T.Y f0 ss p hp r E text n h1 h2) (fun _ => rfl) h⟩)
    exact pss_cons (ps_asg (pe_callL F0 (hr.mono (by omega)) rfl (.inl rfl) k0 b0 .nil (passX rfl rfl rfl rfl) (pa_cons (pv 0) (pa_cons (pv 1) (pa_cons (pv 2) pa_nil)))) (pg_tup rfl (pgs_cons (pg_name (i := 5) sc_row_at.nd rfl (Or.inl rfl)) (pgs_cons (pg_name (i := 1) sc_row_at.nd rfl (Or.inl rfl)) (pgs_nil))))) (pss_cons (ps_while (by first | exact PassesOwn.never | exact PassesOwn.leaving) (PW.pt (pw_and (pt_cmpR op_eq (pe_slice sl_str (pv 0) (po_some (pv 1)) (po_some (pe_op op_add (pv 1) pe_int))) (pe_str) (nomark _)) (pw_and (pt_cmpR op_in_seq (pe_slice sl_str (pv 0) (po_some (pe_op op_add (pv 1) pe_int)) (po_some (pe_op op_add (pv 1) pe_int))) (pv 3) (by rfl)) (pw_and1 (pt_cmpR op_eq (pe_slice sl_str (pv 0) (po_some (pe_op op_add (pv 1) pe_int)) (po_some (pe_op op_add (pv 1) pe_int))) (pe_str) (nomark _)))))) (pss_cons (ps_set (i := 6) sc_row_at.nd rfl (Or.inl rfl) (pe_ix ix_str (pv 0) (pe_op op_add (pv 1) pe_int) (fun _ _ => rfl))) (pss_cons (ps_asg (pe_callL F0 (hr.mono (by omega)) rfl (.inl rfl) k0 b0 .nil (passX rfl rfl rfl rfl) (pa_cons (pv 0) (pa_cons (pe_op op_add (pv 1) pe_int) (pa_cons (pv 2) pa_nil)))) (pg_tup rfl (pgs_cons (pg_name (i := 7) sc_row_at.nd rfl (Or.inl rfl)) (pgs_cons (pg_name (i := 1) sc_row_at.nd rfl (Or.inl rfl)) (pgs_nil))))) (pss_one (ps_set (i := 5) sc_row_at.nd rfl (Or.inl rfl) (pe_make T.mk_Two (ok_Two_init T) (hr.mono (by omega)) (by rfl) T.g_Two T.b_Two_init .nil pass0 (pa_cons (pv 6) (pa_cons (pv 5) (pa_cons (pv 7) pa_nil))))))))) (pss_one (ps_ret (pe_tup (pa_cons (pv 5) (pa_cons (pv 1) pa_nil))))))
  have rest : ∀ r, FnOk P w K mg base (L2.CX P w) (7 * r + 3) T.a_atom_at T.d_atom_at ["text", "at", "deep"] (sp_rd K T.Y T.C (atomL (subL r)) r) → FnOk P w K mg base (L2.CX P w) (7 * r + 9) T.a_sum_at T.d_sum_at ["text", "at", "deep"] (sp_rd K T.Y T.C (pS r) r) := by
    intro r ha
    have hp : FnOk P w K mg base (L2.CX P w) (7 * r + 4) T.a_power_at T.d_power_at ["text", "at", "deep"] (sp_rd K T.Y T.C (powerL (subL r)) r) := by
      refine T.F_power_at.okX sc_power_at (fun vs H Q E h => len_X (E := E) (fun _ => rfl) h) (fun cdv A outer s H vs Q E hr h => ⟨t_power_at K T.C T.Y r E, ?_, body_X (E := E) 2 (by exact fun a ha => by obtain ⟨text, z, d, _⟩ := a; obtain ⟨n, hn, hd, h1, h2⟩ := ha; dsimp only at hn hd h1 h2; subst hn; subst hd; exact rd_power_at K T.C T.Y r E text n h1 h2) (fun _ => rfl) h⟩)
      exact pss_cons (ps_asg (pe_call ha (hr.mono (by omega)) (by rfl) T.g_atom_at T.F_atom_at.kp T.b_atom_at .nil (passX rfl rfl rfl rfl) (pa_cons (pv 0) (pa_cons (pv 1) (pa_cons (pv 2) pa_nil)))) (pg_tup rfl (pgs_cons (pg_name (i := 3) sc_power_at.nd rfl (Or.inl rfl)) (pgs_cons (pg_name (i := 1) sc_power_at.nd rfl (Or.inl rfl)) (pgs_nil))))) (pss_cons (ps_if (pt_cmpR op_ne (pe_slice sl_str (pv 0) (po_some (pv 1)) (po_some (pe_op op_add (pv 1) pe_int))) (pe_str) (nomark _)) (pss_one (ps_ret (pe_tup (pa_cons (pv 3) (pa_cons (pv 1) pa_nil))))) pss_nil) (pss_cons (ps_set (i := 4) sc_power_at.nd rfl (Or.inl rfl) (pe_call (ok_whole_at T) (hr.mono (by omega)) (by rfl) T.g_whole_at T.F_whole_at.kp T.b_whole_at .nil (passX rfl rfl rfl rfl) (pa_cons (pv 0) (pa_cons (pe_op op_add (pv 1) pe_int) (pa_cons pe_int pa_nil))))) (pss_cons (ps_if (pt_cmpR op_gt (pe_callTy call_int_str (by rfl) T.n_int (by decide +kernel) (pa_cons (pv 4) pa_nil)) pe_int (nomark _)) (pss_one (ps_raise rfl (takes_of rfl rfl rfl rfl) (pmk_own PySem.F.excBase_ValueError T.x_NoText T.g_NoText T.k_NoText (raises_own T.s_NoText T.t_NoText) (by rfl)))) pss_nil) (pss_one (ps_ret (pe_tup (pa_cons (pe_make T.mk_Power (ok_Power_init T) (hr.mono (by omega)) (by rfl) T.g_Power T.b_Power_init .nil pass0 (pa_cons (pv 3) (pa_cons (pe_callTy call_int_str (by rfl) T.n_int (by decide +kernel) (pa_cons (pv 4) pa_nil)) pa_nil))) (pa_cons (pe_op op_add (pe_op op_add (pv 1) pe_int) (pe_callB call_len_str (by rfl) T.n_len (by decide +kernel) (pa_cons (pv 4) pa_nil))) pa_nil))))))))
    have hf : FnOk P w K mg base (L2.CX P w) (7 * r + 5) T.a_factor_at T.d_factor_at ["text", "at", "deep"] (sp_rd K T.Y T.C (factorL (subL r)) r) := by
      refine T.F_factor_at.okX sc_factor_at (fun vs H Q E h => len_X (E := E) (fun _ => rfl) h) (fun cdv A outer s H vs Q E hr h => ⟨t_factor_at K T.C T.Y r E, ?_, body_X (E := E) 3 (by exact fun a ha => by obtain ⟨text, z, d, _⟩ := a; obtain ⟨n, hn, hd, h1, h2⟩ := ha; dsimp only at hn hd h1 h2; subst hn; subst hd; exact rd_factor_at K T.C T.Y r E text n h1 h2) (fun _ => rfl) h⟩)
      exact pss_cons (ps_set (i := 3) sc_factor_at.nd rfl (Or.inl rfl) pe_int) (pss_cons (ps_while (by first | exact PassesOwn.never | exact PassesOwn.leaving) (pt_cmpR op_eq (pe_slice sl_str (pv 0) (po_some (pv 1)) (po_some (pe_op op_add (pv 1) pe_int))) (pe_str) (nomark _)) (pss_cons (ps_set (i := 3) sc_factor_at.nd rfl (Or.inl rfl) (pe_op op_add (pv 3) pe_int)) (pss_one (ps_set (i := 1) sc_factor_at.nd rfl (Or.inl rfl) (pe_op op_add (pv 1) pe_int))))) (pss_cons (ps_if (pt_cmpR op_gt (pv 3) (pe_gc (by rfl) T.c_DEEP) (nomark _)) (pss_one (ps_raise rfl (takes_of rfl rfl rfl rfl) (pmk_own PySem.F.excBase_ValueError T.x_NoText T.g_NoText T.k_NoText (raises_own T.s_NoText T.t_NoText) (by rfl)))) pss_nil) (pss_cons (ps_asg (pe_call hp (hr.mono (by omega)) (by rfl) T.g_power_at T.F_power_at.kp T.b_power_at .nil (passX rfl rfl rfl rfl) (pa_cons (pv 0) (pa_cons (pv 1) (pa_cons (pv 2) pa_nil)))) (pg_tup rfl (pgs_cons (pg_name (i := 4) sc_factor_at.nd rfl (Or.inl rfl)) (pgs_cons (pg_name (i := 1) sc_factor_at.nd rfl (Or.inl rfl)) (pgs_nil))))) (pss_cons (ps_for (by first | exact PassesOwn.never | exact PassesOwn.leaving) rfl (pi_range1 rfl T.n_range (pa_cons (pv 3) pa_nil)) (pg_name (i := 5) sc_factor_at.nd rfl (Or.inl rfl)) (pss_one (ps_set (i := 4) sc_factor_at.nd rfl (Or.inl rfl) (pe_make T.mk_Less (ok_Less_init T) (hr.mono (by omega)) (by rfl) T.g_Less T.b_Less_init .nil pass0 (pa_cons (pv 4) pa_nil))))) (pss_one (ps_ret (pe_tup (pa_cons (pv 4) (pa_cons (pv 1) pa_nil)))))))))
    have hrf := rowS r _ _ _ [42, 47] _ (pS_bd r).2.2.2.1 hf T.F_factor_at.kp T.b_factor_at (by omega)
    have ht : FnOk P w K mg base (L2.CX P w) (7 * r + 7) T.a_term_at T.d_term_at ["text", "at", "deep"] (sp_rd K T.Y T.C (termL (subL r)) r) := by
      refine T.F_term_at.okX sc_term_at (fun vs H Q E h => len_X (E := E) (fun _ => rfl) h) (fun cdv A outer s H vs Q E hr h => ⟨t_term_at K T.C T.Y T.a_factor_at r E, ?_, body_X (E := E) 0 (by exact fun a ha => by obtain ⟨text, z, d, _⟩ := a; obtain ⟨n, hn, hd, h1, h2⟩ := ha; dsimp only at hn hd h1 h2; subst hn; subst hd; exact rd_term_at K T.C T.Y T.a_factor_at r E text n h1 h2) (fun _ => rfl) h⟩)
      exact pss_one (ps_ret (pe_call hrf (hr.mono (by omega)) (by rfl) T.g_row_at T.F_row_at.kp T.b_row_at .nil (passX rfl rfl rfl rfl) (pa_cons (pv 0) (pa_cons (pv 1) (pa_cons (pv 2) (pa_cons (pe_tup (pa_cons (pe_str) (pa_cons (pe_str) pa_nil))) (pa_cons (pe_glob (v := .ref T.a_factor_at) (by rfl) T.g_factor_at rfl) pa_nil)))))))
    have hrt := rowS r _ _ _ [43, 45] _ (pS_bd r).2.2.2.2 ht T.F_term_at.kp T.b_term_at (by omega)
    refine T.F_sum_at.okX sc_sum_at (fun vs H Q E h => len_X (E := E) (fun _ => rfl) h) (fun cdv A outer s H vs Q E hr h => ⟨t_sum_at K T.C T.Y T.a_term_at r E, ?_, body_X (E := E) 0 (by exact fun a ha => by obtain ⟨text, z, d, _⟩ := a; obtain ⟨n, hn, hd, h1, h2⟩ := ha; dsimp only at hn hd h1 h2; subst hn; subst hd; exact rd_sum_at K T.C T.Y T.a_term_at r E text n h1 h2) (fun _ => rfl) h⟩)
    exact pss_one (ps_ret (pe_call hrt (hr.mono (by omega)) (by rfl) T.g_row_at T.F_row_at.kp T.b_row_at .nil (passX rfl rfl rfl rfl) (pa_cons (pv 0) (pa_cons (pv 1) (pa_cons (pv 2) (pa_cons (pe_tup (pa_cons (pe_str) (pa_cons (pe_str) pa_nil))) (pa_cons (pe_glob (v := .ref T.a_term_at) (by rfl) T.g_term_at rfl) pa_nil)))))))
  induction r with
  | zero => exact rest 0 atom0
  | succ r ih => exact rest (r + 1) (atomS r ih)
theorem ok_read (T : Txt K mg) : FnOk P w K mg base (L2.CX P w) 220 T.a_read T.d_read ["text"] (sp_read K T.Y T.C) := by
  refine T.F_read.okX sc_read (fun vs H Q E h => len_X (E := E) (fun _ => rfl) h) (fun cdv A outer s H vs Q E hr h => ⟨t_read K T.C T.Y E, ?_, body_X (E := E) 2 (by exact fun a ha => rd_read K T.C T.Y E a.1 ha) (fun _ => rfl) h⟩)
  exact pss_cons (ps_if (pt_cmpR op_gt (pe_callB call_len_str (by rfl) T.n_len (by decide +kernel) (pa_cons (pv 0) pa_nil)) (pe_gc (by rfl) T.c_SIGNS) (nomark _)) (pss_one (ps_raise rfl (takes_of rfl rfl rfl rfl) (pmk_own PySem.F.excBase_ValueError T.x_NoText T.g_NoText T.k_NoText (raises_own T.s_NoText T.t_NoText) (by rfl)))) pss_nil) (pss_cons (ps_asg (pe_call (ok_parse T 30) (hr.mono (by decide)) (by rfl) T.g_sum_at T.F_sum_at.kp T.b_sum_at .nil (passX rfl rfl rfl rfl) (pa_cons (pv 0) (pa_cons pe_int (pa_cons pe_int pa_nil)))) (pg_tup rfl (pgs_cons (pg_name (i := 1) sc_read.nd rfl (Or.inl rfl)) (pgs_cons (pg_name (i := 2) sc_read.nd rfl (Or.inl rfl)) (pgs_nil))))) (pss_cons (ps_if (pt_cmpR op_ne (pv 2) (pe_callB call_len_str (by rfl) T.n_len (by decide +kernel) (pa_cons (pv 0) pa_nil)) (nomark _)) (pss_one (ps_raise rfl (takes_of rfl rfl rfl rfl) (pmk_own PySem.F.excBase_ValueError T.x_NoText T.g_NoText T.k_NoText (raises_own T.s_NoText T.t_NoText) (by rfl)))) pss_nil) (pss_one (ps_ret (pv 1)))))
theorem ok_law_binds (T : Txt K mg) : FnOk P w K mg base CX0 1 T.a_law_binds T.d_law_binds ["_law_tree"] (sp_law_binds K) := by
  refine T.F_law_binds.ok sc_law_binds (fun vs H Q E h => len_F (E := E) (fun _ => rfl) h) (fun cdv A outer s H vs Q E hr h => ⟨t_law_binds K, ?_, body_F (E := E) 0 (fun a ha => rd_law_binds K a.1 ha) (fun _ => rfl) h⟩)
  exact pss_cons (ps_if (PW.pt (pw_or (pt_cmpR op_eq (pe_ix ix_tup (pv 0) pe_int (fun _ _ => rfl)) (pe_str) (nomark _)) (pw_or1 (pt_cmpR op_eq (pe_ix ix_tup (pv 0) pe_int (fun _ _ => rfl)) (pe_str) (nomark _))))) (pss_one (ps_ret pe_int)) pss_nil) (pss_cons (ps_if (PW.pt (pw_or (pt_cmpR op_eq (pe_ix ix_tup (pv 0) pe_int (fun _ _ => rfl)) (pe_str) (nomark _)) (pw_or1 (pt_cmpR op_eq (pe_ix ix_tup (pv 0) pe_int (fun _ _ => rfl)) (pe_str) (nomark _))))) (pss_one (ps_ret pe_int)) pss_nil) (pss_one (ps_ret (pe_dget (hu_of hr) (pe_disp (pps_cons (pe_str) pe_int (pps_cons (pe_str) pe_int (pps_cons (pe_str) pe_int (pps_cons (pe_str) pe_int (pps_nil))))) (by rfl) (by rfl) (fun z => by cases z) (by decide)) (pe_ix ix_tup (pv 0) pe_int (fun _ _ => rfl)) (fun _ _ => rfl)))))
theorem okg_ltext (T : Txt K mg) (n : Nat) : FnOk P w K mg base CX0 (2 * n + 2) T.a_law_text T.d_law_text ["_law_tree"] (sp_law_text K n) := by
  induction n with
  | zero =>
    refine T.F_law_text.ok sc_law_text (fun vs H Q E h => len_F (E := E) (fun _ => rfl) h) (fun cdv A outer s H vs Q E hr h => ⟨_, pss_never, ?_⟩)
    obtain ⟨F, a, _, _, hp, _⟩ := h
    have := size_pos a.1; have := hp.1; omega
  | succ n ih =>
    have h2 : FnOk P w K mg base CX0 (2 * n + 3) T.a_law_inner T.d_law_inner ["_law_tree", "_law_least"] (sp_law_inner K n) := by
      refine T.F_law_inner.ok sc_law_inner (fun vs H Q E h => len_F (E := E) (fun _ => rfl) h) (fun cdv A outer s H vs Q E hr h => ⟨t_law_inner K n, ?_, body_F (E := E) 0 (fun a ha => by obtain ⟨e, z, _⟩ := a; obtain ⟨h1, h2, h3, l, hl⟩ := ha; dsimp only at h1 h2 h3 hl; subst hl; exact rd_law_inner K n e l h1 h2 h3) (fun _ => rfl) h⟩)
      exact pss_cons (ps_if (pt_cmpR op_lt (pe_call (ok_law_binds T) (hr.mono (by omega)) (by rfl) T.g_law_binds T.F_law_binds.kp T.b_law_binds .nil pass0 (pa_cons (pv 0) pa_nil)) (pv 1) (nomark _)) (pss_one (ps_ret (pe_op op_add_str (pe_op op_add_str (pe_str) (pe_call ih (hr.mono (by omega)) (by rfl) T.g_law_text T.F_law_text.kp T.b_law_text .nil pass0 (pa_cons (pv 0) pa_nil))) (pe_str)))) pss_nil) (pss_one (ps_ret (pe_call ih (hr.mono (by omega)) (by rfl) T.g_law_text T.F_law_text.kp T.b_law_text .nil pass0 (pa_cons (pv 0) pa_nil))))
    refine T.F_law_text.ok sc_law_text (fun vs H Q E h => len_F (E := E) (fun _ => rfl) h) (fun cdv A outer s H vs Q E hr h => ⟨t_law_text K n, ?_, body_F (E := E) 1 (fun a ha => by obtain ⟨e, _⟩ := a; obtain ⟨h1, h2, h3⟩ := ha; exact rd_law_text K n e h1 (by first | (dsimp only at h2; omega) | omega) h3) (fun _ => rfl) h⟩)
    exact pss_cons (ps_if (PW.pt (pw_or (pt_cmpR op_eq (pe_ix ix_tup (pv 0) pe_int (fun _ _ => rfl)) (pe_str) (nomark _)) (pw_or1 (pt_cmpR op_eq (pe_ix ix_tup (pv 0) pe_int (fun _ _ => rfl)) (pe_str) (nomark _))))) (pss_one (ps_ret (pe_callTy call_strB (by rfl) T.n_str (by decide +kernel) (pa_cons (pe_ix ix_tup (pv 0) pe_int (fun _ _ => rfl)) pa_nil)))) pss_nil) (pss_cons (ps_if (pt_cmpR op_eq (pe_ix ix_tup (pv 0) pe_int (fun _ _ => rfl)) (pe_str) (nomark _)) (pss_one (ps_ret (pe_op op_add_str (pe_str) (pe_call h2 (hr.mono (by omega)) (by rfl) T.g_law_inner T.F_law_inner.kp T.b_law_inner .nil pass0 (pa_cons (pe_ix ix_tup (pv 0) pe_int (fun _ _ => rfl)) (pa_cons pe_int pa_nil)))))) pss_nil) (pss_cons (ps_if (pt_cmpR op_eq (pe_ix ix_tup (pv 0) pe_int (fun _ _ => rfl)) (pe_str) (nomark _)) (pss_one (ps_ret (pe_op op_add_str (pe_op op_add_str (pe_call h2 (hr.mono (by omega)) (by rfl) T.g_law_inner T.F_law_inner.kp T.b_law_inner .nil pass0 (pa_cons (pe_ix ix_tup (pv 0) pe_int (fun _ _ => rfl)) (pa_cons pe_int pa_nil))) (pe_str)) (pe_callTy call_str_int (by rfl) T.n_str (by decide +kernel) (pa_cons (pe_ix ix_tup (pv 0) pe_int (fun _ _ => rfl)) pa_nil))))) pss_nil) (pss_cons (ps_set (i := 1) sc_law_text.nd rfl (Or.inl rfl) (pe_call (ok_law_binds T) (hr.mono (by omega)) (by rfl) T.g_law_binds T.F_law_binds.kp T.b_law_binds .nil pass0 (pa_cons (pv 0) pa_nil))) (pss_one (ps_ret (pe_op op_add_str (pe_op op_add_str (pe_op op_add_str (pe_op op_add_str (pe_call h2 (hr.mono (by omega)) (by rfl) T.g_law_inner T.F_law_inner.kp T.b_law_inner .nil pass0 (pa_cons (pe_ix ix_tup (pv 0) pe_int (fun _ _ => rfl)) (pa_cons (pv 1) pa_nil))) (pe_str)) (pe_ix ix_tup (pv 0) pe_int (fun _ _ => rfl))) (pe_str)) (pe_call h2 (hr.mono (by omega)) (by rfl) T.g_law_inner T.F_law_inner.kp T.b_law_inner .nil pass0 (pa_cons (pe_ix ix_tup (pv 0) pe_int (fun _ _ => rfl)) (pa_cons (pe_op op_add (pv 1) pe_int) pa_nil)))))))))
theorem ok_law_share (T : Txt K mg) : FnOk P w K mg base CX0 1 T.a_law_share T.d_law_share ["_law_one", "_law_other"] (sp_law_share K) := by
  refine T.F_law_share.ok sc_law_share (fun vs H Q E h => len_F (E := E) (fun _ => rfl) h) (fun cdv A outer s H vs Q E hr h => ⟨t_law_share K, ?_, body_F (E := E) 0 (fun a ha => rd_law_share K a.1 a.2.1 ha) (fun _ => rfl) h⟩)
  exact pss_cons (ps_set (i := 0) sc_law_share.nd rfl (Or.inl rfl) (pe_callB call_abs (by rfl) T.n_abs (by decide +kernel) (pa_cons (pv 0) pa_nil))) (pss_cons (ps_while (by first | exact PassesOwn.never | exact PassesOwn.leaving) (pt_cmpR op_ne (pv 1) pe_int (nomark _)) (pss_one (ps_par (by rfl) sc_law_share.nd rfl rfl (by decide) rfl rfl (pa_cons (pv 1) (pa_cons (pe_op op_modN (pv 0) (pv 1)) pa_nil)) (by rfl)))) (pss_one (ps_ret (pv 0))))
theorem ok_law_lowest (T : Txt K mg) : FnOk P w K mg base CX0 2 T.a_law_lowest T.d_law_lowest ["_law_top", "_law_bottom"] (sp_law_lowest K) := by
  refine T.F_law_lowest.ok sc_law_lowest (fun vs H Q E h => len_F (E := E) (fun _ => rfl) h) (fun cdv A outer s H vs Q E hr h => ⟨t_law_lowest K, ?_, body_F (E := E) 1 (fun a ha => rd_law_lowest K a.1 a.2.1 ha.1 ha.2) (fun _ => rfl) h⟩)
  exact pss_cons (ps_set (i := 2) sc_law_lowest.nd rfl (Or.inl rfl) (pe_call (ok_law_share T) (hr.mono (by decide)) (by rfl) T.g_law_share T.F_law_share.kp T.b_law_share .nil pass0 (pa_cons (pv 0) (pa_cons (pe_callB call_abs (by rfl) T.n_abs (by decide +kernel) (pa_cons (pv 1) pa_nil)) pa_nil)))) (pss_cons (ps_if (pt_cmpR op_lt (pv 1) pe_int (nomark _)) (pss_one (ps_set (i := 2) sc_law_lowest.nd rfl (Or.inl rfl) (pe_op op_sub pe_int (pv 2)))) pss_nil) (pss_one (ps_ret (pe_tup (pa_cons (pe_op op_fdivX (pv 0) (pv 2)) (pa_cons (pe_op op_fdivX (pv 1) (pv 2)) pa_nil))))))
theorem ok_law_point (T : Txt K mg) : FnOk P w K mg base CX0 3 T.a_law_point T.d_law_point ["_law_numbers_here", "_law_names_here"] (sp_law_point K) := by
  refine T.F_law_point.ok sc_law_point (fun vs H Q E h => len_Ob (E := E) (fun _ => rfl) h) (fun cdv A outer s H vs Q E hr h => ⟨t_law_point K, ?_, body_Ob (E := E) 5 (fun a ha => rd_law_point K a.1 a.2.1 ha.1 ha.2.1 ha.2.2) (fun _ => rfl) h⟩)
  exact pss_cons (ps_set (i := 2) sc_law_point.nd rfl (Or.inl rfl) (pe_dnewK)) (pss_cons (ps_for (by first | exact PassesOwn.never | exact PassesOwn.leaving) rfl (pi_range1 rfl T.n_range (pa_cons (pe_callB call_len_seq (by rfl) T.n_len (by decide +kernel) (pa_cons (pv 1) pa_nil)) pa_nil)) (pg_name (i := 3) sc_law_point.nd rfl (Or.inl rfl)) (pss_cons (ps_set (i := 4) sc_law_point.nd rfl (Or.inl rfl) (pe_ix ix_list (pv 0) (pv 3) (fun _ _ => rfl))) (pss_cons (ps_set (i := 5) sc_law_point.nd rfl (Or.inl rfl) (pe_op op_sub (pe_op op_mod (pe_op op_fdiv (pv 4) pe_int) pe_int) pe_int)) (pss_cons (ps_set (i := 6) sc_law_point.nd rfl (Or.inl rfl) (pe_op op_add pe_int (pe_op op_mod (pe_op op_fdiv (pv 4) pe_int) pe_int))) (pss_cons (ps_if (pt_cmpR op_eq (pe_op op_mod (pv 4) pe_int) pe_int (nomark _)) (pss_cons (ps_set (i := 5) sc_law_point.nd rfl (Or.inl rfl) (pe_op op_sub (pe_op op_mod (pe_op op_fdiv (pv 4) pe_int) pe_int) pe_int)) (pss_one (ps_set (i := 6) sc_law_point.nd rfl (Or.inl rfl) pe_int))) pss_nil) (pss_one (ps_dput (hu_of hr) (pv 2) (pe_ix ix_list (pv 1) (pv 3) (fun _ _ => rfl)) (pe_call (ok_law_lowest T) (hr.mono (by decide)) (by rfl) T.g_law_lowest T.F_law_lowest.kp T.b_law_lowest .nil pass0 (pa_cons (pv 5) (pa_cons (pv 6) pa_nil))) rfl))))))) (pss_one (ps_ret (pv 2))))
theorem okglaw_value (T : Txt K mg) (n : Nat) : FnOk P w K mg base CX0 (n + 3) T.a_law_value T.d_law_value ["_law_tree", "_law_point_here"] (sp_law_value K n) := by
  induction n with
  | zero =>
    refine T.F_law_value.ok sc_law_value (fun vs H Q E h => len_F (E := E) (fun _ => rfl) h) (fun cdv A outer s H vs Q E hr h => ⟨_, pss_never, ?_⟩)
    obtain ⟨F, a, _, _, hp, _⟩ := h
    have := size_pos a.1; have := hp.1; omega
  | succ n ih =>
    refine T.F_law_value.ok sc_law_value (fun vs H Q E h => len_F (E := E) (fun _ => rfl) h) (fun cdv A outer s H vs Q E hr h => ⟨t_law_value K n, ?_, body_F (E := E) 5 (fun a ha => rd_law_value K n a.1 a.2.1 ha.1 (by have := ha.2.1; omega) ha.2.2.1 ha.2.2.2) (fun _ => rfl) h⟩)
    exact pss_cons (ps_if (pt_cmpR op_eq (pe_ix ix_tup (pv 0) pe_int (fun _ _ => rfl)) (pe_str) (nomark _)) (pss_one (ps_ret (pe_tup (pa_cons (pe_ix ix_tup (pv 0) pe_int (fun _ _ => rfl)) (pa_cons pe_int pa_nil))))) pss_nil) (pss_cons (ps_if (pt_cmpR op_eq (pe_ix ix_tup (pv 0) pe_int (fun _ _ => rfl)) (pe_str) (nomark _)) (pss_one (ps_ret (pe_dget1 (hu_of hr) (pv 1) (pe_ix ix_tup (pv 0) pe_int (fun _ _ => rfl)) ⟨rfl, rfl, rfl, rfl⟩))) pss_nil) (pss_cons (ps_set (i := 2) sc_law_value.nd rfl (Or.inl rfl) (pe_call ih (hr.mono (by omega)) (by rfl) T.g_law_value T.F_law_value.kp T.b_law_value .nil pass0 (pa_cons (pe_ix ix_tup (pv 0) pe_int (fun _ _ => rfl)) (pa_cons (pv 1) pa_nil)))) (pss_cons (ps_if (pt_cmpR op_isN (pv 2) pe_non (nomark _)) (pss_one (ps_ret pe_non)) pss_nil) (pss_cons (ps_if (pt_cmpR op_eq (pe_ix ix_tup (pv 0) pe_int (fun _ _ => rfl)) (pe_str) (nomark _)) (pss_one (ps_ret (pe_tup (pa_cons (pe_op op_sub pe_int (pe_ix ix_tup (pv 2) pe_int (fun _ _ => rfl))) (pa_cons (pe_ix ix_tup (pv 2) pe_int (fun _ _ => rfl)) pa_nil))))) pss_nil) (pss_cons (ps_if (pt_cmpR op_eq (pe_ix ix_tup (pv 0) pe_int (fun _ _ => rfl)) (pe_str) (nomark _)) (pss_cons (ps_set (i := 3) sc_law_value.nd rfl (Or.inl rfl) (pe_tup (pa_cons pe_int (pa_cons pe_int pa_nil)))) (pss_cons (ps_for (by first | exact PassesOwn.never | exact PassesOwn.leaving) rfl (pi_range1 rfl T.n_range (pa_cons (pe_ix ix_tup (pv 0) pe_int (fun _ _ => rfl)) pa_nil)) (pg_name (i := 4) sc_law_value.nd rfl (Or.inl rfl)) (pss_one (ps_set (i := 3) sc_law_value.nd rfl (Or.inl rfl) (pe_tup (pa_cons (pe_op op_mulX (pe_ix ix_tup (pv 3) pe_int (fun _ _ => rfl)) (pe_ix ix_tup (pv 2) pe_int (fun _ _ => rfl))) (pa_cons (pe_op op_mulX (pe_ix ix_tup (pv 3) pe_int (fun _ _ => rfl)) (pe_ix ix_tup (pv 2) pe_int (fun _ _ => rfl))) pa_nil)))))) (pss_one (ps_ret (pv 3))))) pss_nil) (pss_cons (ps_set (i := 5) sc_law_value.nd rfl (Or.inl rfl) (pe_call ih (hr.mono (by omega)) (by rfl) T.g_law_value T.F_law_value.kp T.b_law_value .nil pass0 (pa_cons (pe_ix ix_tup (pv 0) pe_int (fun _ _ => rfl)) (pa_cons (pv 1) pa_nil)))) (pss_cons (ps_if (PW.pt (pw_or (pt_cmpR op_isN (pv 5) pe_non (nomark _)) (pw_or1 (PW.pt (pw_and (pt_cmpR op_eq (pe_ix ix_tup (pv 0) pe_int (fun _ _ => rfl)) (pe_str) (nomark _)) (pw_and1 (pt_cmpR op_eq (pe_ix ix_tup (pv 5) pe_int (fun _ _ => rfl)) pe_int (nomark _)))))))) (pss_one (ps_ret pe_non)) pss_nil) (pss_cons (ps_if (pt_cmpR op_eq (pe_ix ix_tup (pv 0) pe_int (fun _ _ => rfl)) (pe_str) (nomark _)) (pss_one (ps_ret (pe_call (ok_law_lowest T) (hr.mono (by omega)) (by rfl) T.g_law_lowest T.F_law_lowest.kp T.b_law_lowest .nil pass0 (pa_cons (pe_op op_mulX (pe_ix ix_tup (pv 2) pe_int (fun _ _ => rfl)) (pe_ix ix_tup (pv 5) pe_int (fun _ _ => rfl))) (pa_cons (pe_op op_mulX (pe_ix ix_tup (pv 2) pe_int (fun _ _ => rfl)) (pe_ix ix_tup (pv 5) pe_int (fun _ _ => rfl))) pa_nil))))) pss_nil) (pss_cons (ps_if (pt_cmpR op_eq (pe_ix ix_tup (pv 0) pe_int (fun _ _ => rfl)) (pe_str) (nomark _)) (pss_one (ps_ret (pe_call (ok_law_lowest T) (hr.mono (by omega)) (by rfl) T.g_law_lowest T.F_law_lowest.kp T.b_law_lowest .nil pass0 (pa_cons (pe_op op_mulX (pe_ix ix_tup (pv 2) pe_int (fun _ _ => rfl)) (pe_ix ix_tup (pv 5) pe_int (fun _ _ => rfl))) (pa_cons (pe_op op_mulX (pe_ix ix_tup (pv 2) pe_int (fun _ _ => rfl)) (pe_ix ix_tup (pv 5) pe_int (fun _ _ => rfl))) pa_nil))))) pss_nil) (pss_cons (ps_set (i := 6) sc_law_value.nd rfl (Or.inl rfl) (pe_op op_sub (pe_op op_mulX (pe_callTy call_int1 (by rfl) T.n_int (by decide +kernel) (pa_cons (pe_cmpR op_eq (pe_ix ix_tup (pv 0) pe_int (fun _ _ => rfl)) (pe_str) (nomark _)) pa_nil)) pe_int) pe_int)) (pss_one (ps_ret (pe_call (ok_law_lowest T) (hr.mono (by omega)) (by rfl) T.g_law_lowest T.F_law_lowest.kp T.b_law_lowest .nil pass0 (pa_cons (pe_op op_add (pe_op op_mulX (pe_ix ix_tup (pv 2) pe_int (fun _ _ => rfl)) (pe_ix ix_tup (pv 5) pe_int (fun _ _ => rfl))) (pe_op op_mulX (pe_op op_mulX (pv 6) (pe_ix ix_tup (pv 5) pe_int (fun _ _ => rfl))) (pe_ix ix_tup (pv 2) pe_int (fun _ _ => rfl)))) (pa_cons (pe_op op_mulX (pe_ix ix_tup (pv 2) pe_int (fun _ _ => rfl)) (pe_ix ix_tup (pv 5) pe_int (fun _ _ => rfl))) pa_nil)))))))))))))))
theorem ok_Two_spine (T : Txt K mg) : FnOk P w K mg base CX0 1 T.a_Two_spine T.d_Two_spine ["self"] (sp_Two_spine K T.Y) := by
  refine T.F_Two_spine.ok sc_Two_spine (fun vs H Q E h => len_F (E := E) (fun _ => rfl) h) (fun cdv A outer s H vs Q E hr h => ⟨t_Two_spine K T.Y, ?_, body_F (E := E) 2 (fun a ha => rd_Two_spine K T.Y T.x a.1 ha.1 ha.2) (fun _ => rfl) h⟩)
  exact pss_cons (ps_set (i := 1) sc_Two_spine.nd rfl (Or.inl rfl) (pe_lst pa_nil)) (pss_cons (ps_set (i := 2) sc_Two_spine.nd rfl (Or.inl rfl) (pv 0)) (pss_cons (ps_while (by first | exact PassesOwn.never | exact PassesOwn.leaving) (pt_val (pe_callB call_isi (by rfl) T.n_isinstance (by decide +kernel) (pa_cons (pv 2) (pa_cons (pe_glob (v := .ref T.Y.Two) (by rfl) T.g_Two rfl) pa_nil)))) (pss_cons (ps_expr (pe_bm PySem.F.plainAttrs_list PySem.F.slot_list_append PySem.F.type_list_append mt_append (pv 1) (pa_cons (pv 2) pa_nil))) (pss_one (ps_set (i := 2) sc_Two_spine.nd rfl (Or.inl rfl) (pe_fld (pv 2) rfl))))) (pss_one (ps_ret (pe_tup (pa_cons (pv 2) (pa_cons (pe_revL (pv 1)) pa_nil)))))))
theorem ok_divisor (T : Txt K mg) : FnOk P w K mg base CX0 1 T.a_divisor T.d_divisor ["one", "other"] (sp_divisor K) := by
  refine T.F_divisor.ok sc_divisor (fun vs H Q E h => len_F (E := E) (fun _ => rfl) h) (fun cdv A outer s H vs Q E hr h => ⟨t_divisor K, ?_, body_F (E := E) 0 (fun a ha => rd_divisor K a.1 a.2.1) (fun _ => rfl) h⟩)
  exact pss_cons (ps_while (by first | exact PassesOwn.never | exact PassesOwn.leaving) (pt_cmpR op_ne (pv 1) pe_int (nomark _)) (pss_one (ps_par (by rfl) sc_divisor.nd rfl rfl (by decide) rfl rfl (pa_cons (pv 1) (pa_cons (pe_op op_modN (pv 0) (pv 1)) pa_nil)) (by rfl)))) (pss_one (ps_ret (pe_callB call_abs (by rfl) T.n_abs (by decide +kernel) (pa_cons (pv 0) pa_nil))))
theorem ok_fraction (T : Txt K mg) : FnOk P w K mg base (L2.CX P w) 2 T.a_fraction T.d_fraction ["top", "bottom"] (sp_fraction K T.C) := by
  refine T.F_fraction.okX sc_fraction (fun vs H Q E h => len_X (E := E) (fun _ => rfl) h) (fun cdv A outer s H vs Q E hr h => ⟨t_fraction K T.C E, ?_, body_X (E := E) 1 (by exact fun a ha => rd_fraction K T.C E a.1 a.2.1 ha) (fun _ => rfl) h⟩)
  exact pss_cons (ps_if (pt_cmpR op_eq (pv 1) pe_int (nomark _)) (pss_one (ps_raise rfl (takes_of rfl rfl rfl rfl) (pmk_own PySem.F.excBase_ValueError T.x_NoNumber T.g_NoNumber T.k_NoNumber (raises_own T.s_NoNumber T.t_NoNumber) (by rfl)))) pss_nil) (PSs.nox (pss_cons (ps_set (i := 2) sc_fraction.nd rfl (Or.inl rfl) (pe_call (ok_divisor T) (hr.mono (by decide)) (by rfl) T.g_divisor T.F_divisor.kp T.b_divisor .nil pass0 (pa_cons (pv 0) (pa_cons (pv 1) pa_nil)))) (pss_cons (ps_if (pt_cmpR op_lt (pv 1) pe_int (nomark _)) (pss_one (ps_set (i := 2) sc_fraction.nd rfl (Or.inl rfl) (pe_op op_sub pe_int (pv 2)))) pss_nil) (pss_one (ps_ret (pe_tup (pa_cons (pe_op op_fdivX (pv 0) (pv 2)) (pa_cons (pe_op op_fdivX (pv 1) (pv 2)) pa_nil))))))))
theorem ok_plus (T : Txt K mg) : FnOk P w K mg base CX0 3 T.a_plus T.d_plus ["one", "other"] (sp_plus K) := by
  refine T.F_plus.ok sc_plus (fun vs H Q E h => len_F (E := E) (fun _ => rfl) h) (fun cdv A outer s H vs Q E hr h => ⟨t_plus K T.C, ?_, body_F (E := E) 0 (fun a ha => rd_plus K T.C a.1 a.2.1 ha.1 ha.2) (fun _ => rfl) h⟩)
  exact pss_one (ps_ret (pe_call (ok_fraction T) (hr.mono (by decide)) (by rfl) T.g_fraction T.F_fraction.kp T.b_fraction .nil passL (pa_cons (pe_op op_add (pe_op op_mulX (pe_ix ix_tup (pv 0) pe_int (fun _ _ => rfl)) (pe_ix ix_tup (pv 1) pe_int (fun _ _ => rfl))) (pe_op op_mulX (pe_ix ix_tup (pv 1) pe_int (fun _ _ => rfl)) (pe_ix ix_tup (pv 0) pe_int (fun _ _ => rfl)))) (pa_cons (pe_op op_mulX (pe_ix ix_tup (pv 0) pe_int (fun _ _ => rfl)) (pe_ix ix_tup (pv 1) pe_int (fun _ _ => rfl))) pa_nil))))
theorem ok_minus (T : Txt K mg) : FnOk P w K mg base CX0 3 T.a_minus T.d_minus ["one", "other"] (sp_minus K) := by
  refine T.F_minus.ok sc_minus (fun vs H Q E h => len_F (E := E) (fun _ => rfl) h) (fun cdv A outer s H vs Q E hr h => ⟨t_minus K T.C, ?_, body_F (E := E) 0 (fun a ha => rd_minus K T.C a.1 a.2.1 ha.1 ha.2) (fun _ => rfl) h⟩)
  exact pss_one (ps_ret (pe_call (ok_fraction T) (hr.mono (by decide)) (by rfl) T.g_fraction T.F_fraction.kp T.b_fraction .nil passL (pa_cons (pe_op op_sub (pe_op op_mulX (pe_ix ix_tup (pv 0) pe_int (fun _ _ => rfl)) (pe_ix ix_tup (pv 1) pe_int (fun _ _ => rfl))) (pe_op op_mulX (pe_ix ix_tup (pv 1) pe_int (fun _ _ => rfl)) (pe_ix ix_tup (pv 0) pe_int (fun _ _ => rfl)))) (pa_cons (pe_op op_mulX (pe_ix ix_tup (pv 0) pe_int (fun _ _ => rfl)) (pe_ix ix_tup (pv 1) pe_int (fun _ _ => rfl))) pa_nil))))
theorem ok_times (T : Txt K mg) : FnOk P w K mg base CX0 3 T.a_times T.d_times ["one", "other"] (sp_times K) := by
  refine T.F_times.ok sc_times (fun vs H Q E h => len_F (E := E) (fun _ => rfl) h) (fun cdv A outer s H vs Q E hr h => ⟨t_times K T.C, ?_, body_F (E := E) 0 (fun a ha => rd_times K T.C a.1 a.2.1 ha.1 ha.2) (fun _ => rfl) h⟩)
  exact pss_one (ps_ret (pe_call (ok_fraction T) (hr.mono (by decide)) (by rfl) T.g_fraction T.F_fraction.kp T.b_fraction .nil passL (pa_cons (pe_op op_mulX (pe_ix ix_tup (pv 0) pe_int (fun _ _ => rfl)) (pe_ix ix_tup (pv 1) pe_int (fun _ _ => rfl))) (pa_cons (pe_op op_mulX (pe_ix ix_tup (pv 0) pe_int (fun _ _ => rfl)) (pe_ix ix_tup (pv 1) pe_int (fun _ _ => rfl))) pa_nil))))
theorem ok_over (T : Txt K mg) : FnOk P w K mg base (L2.CX P w) 3 T.a_over T.d_over ["one", "other"] (sp_over K T.C) := by
  refine T.F_over.okX sc_over (fun vs H Q E h => len_X (E := E) (fun _ => rfl) h) (fun cdv A outer s H vs Q E hr h => ⟨t_over K T.C E, ?_, body_X (E := E) 0 (by exact fun a ha => rd_over K T.C E a.1 a.2.1 ha.1 ha.2) (fun _ => rfl) h⟩)
  exact pss_cons (ps_if (pt_cmpR op_eq (pe_ix ix_tup (pv 1) pe_int (fun _ _ => rfl)) pe_int (nomark _)) (pss_one (ps_raise rfl (takes_of rfl rfl rfl rfl) (pmk_own PySem.F.excBase_ValueError T.x_NoNumber T.g_NoNumber T.k_NoNumber (raises_own T.s_NoNumber T.t_NoNumber) (by rfl)))) pss_nil) (PSs.nox (pss_one (ps_ret (pe_call (ok_fraction T) (hr.mono (by decide)) (by rfl) T.g_fraction T.F_fraction.kp T.b_fraction .nil passL (pa_cons (pe_op op_mulX (pe_ix ix_tup (pv 0) pe_int (fun _ _ => rfl)) (pe_ix ix_tup (pv 1) pe_int (fun _ _ => rfl))) (pa_cons (pe_op op_mulX (pe_ix ix_tup (pv 0) pe_int (fun _ _ => rfl)) (pe_ix ix_tup (pv 1) pe_int (fun _ _ => rfl))) pa_nil))))))
theorem ok_put_together (T : Txt K mg) : FnOk P w K mg base (L2.CX P w) 4 T.a_put_together T.d_put_together ["sign", "one", "other"] (sp_put_together K T.C) := by
  refine T.F_put_together.okX sc_put_together (fun vs H Q E h => len_X (E := E) (fun _ => rfl) h) (fun cdv A outer s H vs Q E hr h => ⟨t_put_together K T.C E, ?_, body_X (E := E) 0 (by exact fun a ha => by obtain ⟨t, x, y, _⟩ := a; obtain ⟨s, hs, h1, h2⟩ := ha; dsimp only at hs h1 h2; subst hs; exact rd_put_together K T.C E s x y h1 h2) (fun _ => rfl) h⟩)
  exact pss_cons (ps_if (pt_cmpR op_eq (pv 0) (pe_str) (nomark _)) (pss_one (ps_ret (pe_call (ok_plus T) (hr.mono (by decide)) (by rfl) T.g_plus T.F_plus.kp T.b_plus .nil pass0 (pa_cons (pv 1) (pa_cons (pv 2) pa_nil))))) pss_nil) (pss_cons (ps_if (pt_cmpR op_eq (pv 0) (pe_str) (nomark _)) (pss_one (ps_ret (pe_call (ok_minus T) (hr.mono (by decide)) (by rfl) T.g_minus T.F_minus.kp T.b_minus .nil pass0 (pa_cons (pv 1) (pa_cons (pv 2) pa_nil))))) pss_nil) (pss_cons (ps_if (pt_cmpR op_eq (pv 0) (pe_str) (nomark _)) (pss_one (ps_ret (pe_call (ok_times T) (hr.mono (by decide)) (by rfl) T.g_times T.F_times.kp T.b_times .nil pass0 (pa_cons (pv 1) (pa_cons (pv 2) pa_nil))))) pss_nil) (pss_cons (ps_if (pt_cmpR op_eq (pe_ix ix_tup (pv 2) pe_int (fun _ _ => rfl)) pe_int (nomark _)) (pss_one (ps_raise rfl (takes_of rfl rfl rfl rfl) (pmk_own PySem.F.excBase_ValueError T.x_NoValue T.g_NoValue T.k_NoValue (raises_own T.s_NoValue T.t_NoValue) (by rfl)))) pss_nil) (pss_one (ps_ret (pe_call (ok_over T) (hr.mono (by decide)) (by rfl) T.g_over T.F_over.kp T.b_over .nil passL (pa_cons (pv 1) (pa_cons (pv 2) pa_nil))))))))
theorem ok_to_power (T : Txt K mg) : FnOk P w K mg base CX0 4 T.a_to_power T.d_to_power ["number", "exponent"] (sp_to_power K) := by
  refine T.F_to_power.ok sc_to_power (fun vs H Q E h => len_F (E := E) (fun _ => rfl) h) (fun cdv A outer s H vs Q E hr h => ⟨t_to_power K T.O1, ?_, body_F (E := E) 2 (fun a ha => by obtain ⟨q, z, _⟩ := a; obtain ⟨n, hn, h1, h2⟩ := ha; dsimp only at hn h1 h2; subst hn; exact rd_to_power K T.O1 T.h_ONE q n h1 h2) (fun _ => rfl) h⟩)
  exact pss_cons (ps_set (i := 2) sc_to_power.nd rfl (Or.inl rfl) (pe_glob (v := .ref T.O1) (by rfl) T.g_ONE rfl)) (pss_cons (ps_for (by first | exact PassesOwn.never | exact PassesOwn.leaving) rfl (pi_range1 rfl T.n_range (pa_cons (pv 1) pa_nil)) (pg_name (i := 3) sc_to_power.nd rfl (Or.inl rfl)) (pss_one (ps_set (i := 2) sc_to_power.nd rfl (Or.inl rfl) (pe_call (ok_times T) (hr.mono (by decide)) (by rfl) T.g_times T.F_times.kp T.b_times .nil pass0 (pa_cons (pv 2) (pa_cons (pv 0) pa_nil)))))) (pss_one (ps_ret (pv 2))))
theorem ok_Less_core (T : Txt K mg) : FnOk P w K mg base CX0 1 T.a_Less_core T.d_Less_core ["self"] (sp_Less_core K T.Y) := by
  refine T.F_Less_core.ok sc_Less_core (fun vs H Q E h => len_F (E := E) (fun _ => rfl) h) (fun cdv A outer s H vs Q E hr h => ⟨t_Less_core K T.Y, ?_, body_F (E := E) 2 (fun a ha => rd_Less_core K T.Y T.x a.1) (fun _ => rfl) h⟩)
  exact pss_cons (ps_set (i := 1) sc_Less_core.nd rfl (Or.inl rfl) pe_int) (pss_cons (ps_set (i := 2) sc_Less_core.nd rfl (Or.inl rfl) (pv 0)) (pss_cons (ps_while (by first | exact PassesOwn.never | exact PassesOwn.leaving) (pt_val (pe_callB call_isi (by rfl) T.n_isinstance (by decide +kernel) (pa_cons (pv 2) (pa_cons (pe_glob (v := .ref T.Y.Less) (by rfl) T.g_Less rfl) pa_nil)))) (pss_cons (ps_set (i := 1) sc_Less_core.nd rfl (Or.inl rfl) (pe_op op_add (pv 1) pe_int)) (pss_one (ps_set (i := 2) sc_Less_core.nd rfl (Or.inl rfl) (pe_fld (pv 2) rfl))))) (pss_one (ps_ret (pe_tup (pa_cons (pv 2) (pa_cons (pv 1) pa_nil)))))))
theorem mt_value (T : Txt K mg) (n : Nat) : ∀ j, j < 5 → MtOk P w K mg base (L2.CX P w) (n + 5) (T.Y.at_ j) "value" (sp_value K T.Y T.C n j) := by
  induction n with
  | zero =>
    have h0 : FnOk P w K mg base (L2.CX P w) (0 + 5) T.a_Number_value T.d_Number_value ["self", "point"] (sp_value K T.Y T.C 0 0) := by
      refine T.F_Number_value.okX sc_Number_value (fun vs H Q E h => len_X (E := E) (fun _ => rfl) h) (fun cdv A outer s H vs Q E hr h => ⟨_, pss_never, ?_⟩)
      obtain ⟨F, a, _, _, hp, _⟩ := h
      have := size_pos a.1; have h0 := (dd_le a.1).1; have h1 := (dd_le a.1).2.1; have h2 := hp.2.1; unfold dep at h2; omega
    have h1 : FnOk P w K mg base (L2.CX P w) (0 + 5) T.a_Name_value T.d_Name_value ["self", "point"] (sp_value K T.Y T.C 0 1) := by
      refine T.F_Name_value.okX sc_Name_value (fun vs H Q E h => len_X (E := E) (fun _ => rfl) h) (fun cdv A outer s H vs Q E hr h => ⟨_, pss_never, ?_⟩)
      obtain ⟨F, a, _, _, hp, _⟩ := h
      have := size_pos a.1; have h0 := (dd_le a.1).1; have h1 := (dd_le a.1).2.1; have h2 := hp.2.1; unfold dep at h2; omega
    have h2 : FnOk P w K mg base (L2.CX P w) (0 + 5) T.a_Two_value T.d_Two_value ["self", "point"] (sp_value K T.Y T.C 0 2) := by
      refine T.F_Two_value.okX sc_Two_value (fun vs H Q E h => len_X (E := E) (fun _ => rfl) h) (fun cdv A outer s H vs Q E hr h => ⟨_, pss_never, ?_⟩)
      obtain ⟨F, a, _, _, hp, _⟩ := h
      have := size_pos a.1; have h0 := (dd_le a.1).1; have h1 := (dd_le a.1).2.1; have h2 := hp.2.1; unfold dep at h2; omega
    have h3 : FnOk P w K mg base (L2.CX P w) (0 + 5) T.a_Power_value T.d_Power_value ["self", "point"] (sp_value K T.Y T.C 0 3) := by
      refine T.F_Power_value.okX sc_Power_value (fun vs H Q E h => len_X (E := E) (fun _ => rfl) h) (fun cdv A outer s H vs Q E hr h => ⟨_, pss_never, ?_⟩)
      obtain ⟨F, a, _, _, hp, _⟩ := h
      have := size_pos a.1; have h0 := (dd_le a.1).1; have h1 := (dd_le a.1).2.1; have h2 := hp.2.1; unfold dep at h2; omega
    have h4 : FnOk P w K mg base (L2.CX P w) (0 + 5) T.a_Less_value T.d_Less_value ["self", "point"] (sp_value K T.Y T.C 0 4) := by
      refine T.F_Less_value.okX sc_Less_value (fun vs H Q E h => len_X (E := E) (fun _ => rfl) h) (fun cdv A outer s H vs Q E hr h => ⟨_, pss_never, ?_⟩)
      obtain ⟨F, a, _, _, hp, _⟩ := h
      have := size_pos a.1; have h0 := (dd_le a.1).1; have h1 := (dd_le a.1).2.1; have h2 := hp.2.1; unfold dep at h2; omega
    intro j hj
    match j, hj with
    | 0, _ => exact ⟨_, _, _, T.m_Number_value, h0, T.b_Number_value⟩
    | 1, _ => exact ⟨_, _, _, T.m_Name_value, h1, T.b_Name_value⟩
    | 2, _ => exact ⟨_, _, _, T.m_Two_value, h2, T.b_Two_value⟩
    | 3, _ => exact ⟨_, _, _, T.m_Power_value, h3, T.b_Power_value⟩
    | 4, _ => exact ⟨_, _, _, T.m_Less_value, h4, T.b_Less_value⟩
  | succ n ih =>
    have h0 : FnOk P w K mg base (L2.CX P w) ((n + 1) + 5) T.a_Number_value T.d_Number_value ["self", "point"] (sp_value K T.Y T.C (n + 1) 0) := by
      refine T.F_Number_value.okX sc_Number_value (fun vs H Q E h => len_X (E := E) (fun _ => rfl) h) (fun cdv A outer s H vs Q E hr h => ⟨t_Number_value K T.C T.Y n E, ?_, body_X (E := E) 0 (by exact fun a ha => rd_Number_value K T.C T.Y T.x a.2.1 n E a.1 ha.1) (fun _ => rfl) h⟩)
      exact pss_one (ps_ret (pe_tup (pa_cons (pe_fld (pv 0) rfl) (pa_cons pe_int pa_nil))))
    have h1 : FnOk P w K mg base (L2.CX P w) ((n + 1) + 5) T.a_Name_value T.d_Name_value ["self", "point"] (sp_value K T.Y T.C (n + 1) 1) := by
      refine T.F_Name_value.okX sc_Name_value (fun vs H Q E h => len_X (E := E) (fun _ => rfl) h) (fun cdv A outer s H vs Q E hr h => ⟨t_Name_value K T.C T.Y n E, ?_, body_X (E := E) 0 (by exact fun a ha => rd_Name_value K T.C T.Y T.x a.2.1 n E a.1 ha.1) (fun _ => rfl) h⟩)
      exact pss_cons (ps_if (pt_cmp (pc_dnotin (hu_of hr) (pe_fld (pv 0) rfl) (pv 1))) (pss_one (ps_raise rfl (takes_of rfl rfl rfl rfl) (pmk_own PySem.F.excBase_ValueError T.x_NoValue T.g_NoValue T.k_NoValue (raises_own T.s_NoValue T.t_NoValue) (by rfl)))) pss_nil) (pss_one (ps_ret (pe_dget (hu_of hr) (pv 1) (pe_fld (pv 0) rfl) (fun _ _ => rfl))))
    have h2 : FnOk P w K mg base (L2.CX P w) ((n + 1) + 5) T.a_Two_value T.d_Two_value ["self", "point"] (sp_value K T.Y T.C (n + 1) 2) := by
      refine T.F_Two_value.okX sc_Two_value (fun vs H Q E h => len_X (E := E) (fun _ => rfl) h) (fun cdv A outer s H vs Q E hr h => ⟨t_Two_value K T.C T.Y n E, ?_, body_X (E := E) 4 (by exact fun a ha => rd_Two_value K T.C T.Y T.x a.2.1 n E a.1 ha.1 ha.2.1 ha.2.2.1 ha.2.2.2.1 ha.2.2.2.2) (fun _ => rfl) h⟩)
      exact pss_cons (ps_asg (pe_meth0 (pv 0) T.x.cTwo.cl T.m_Two_spine (ok_Two_spine T) (hr.mono (by omega)) T.b_Two_spine .nil pass0) (pg_tup rfl (pgs_cons (pg_name (i := 2) sc_Two_value.nd rfl (Or.inl rfl)) (pgs_cons (pg_name (i := 3) sc_Two_value.nd rfl (Or.inl rfl)) (pgs_nil))))) (pss_cons (ps_set (i := 4) sc_Two_value.nd rfl (Or.inl rfl) (pe_m5 (pv 2) T.x ih (hr.mono (by omega)) (passX rfl rfl rfl rfl) (pa_cons (pv 1) pa_nil))) (pss_cons (ps_for (by first | exact PassesOwn.never | exact PassesOwn.leaving) rfl (pi_list (pv 3)) (pg_name (i := 5) sc_Two_value.nd rfl (Or.inl rfl)) (pss_one (ps_set (i := 4) sc_Two_value.nd rfl (Or.inl rfl) (pe_call (ok_put_together T) (hr.mono (by omega)) (by rfl) T.g_put_together T.F_put_together.kp T.b_put_together .nil (passX rfl rfl rfl rfl) (pa_cons (pe_fld (pv 5) rfl) (pa_cons (pv 4) (pa_cons (pe_m5 (pe_fld (pv 5) rfl) T.x ih (hr.mono (by omega)) (passX rfl rfl rfl rfl) (pa_cons (pv 1) pa_nil)) pa_nil))))))) (pss_one (ps_ret (pv 4)))))
    have h3 : FnOk P w K mg base (L2.CX P w) ((n + 1) + 5) T.a_Power_value T.d_Power_value ["self", "point"] (sp_value K T.Y T.C (n + 1) 3) := by
      refine T.F_Power_value.okX sc_Power_value (fun vs H Q E h => len_X (E := E) (fun _ => rfl) h) (fun cdv A outer s H vs Q E hr h => ⟨t_Power_value K T.C T.Y n E, ?_, body_X (E := E) 0 (by exact fun a ha => rd_Power_value K T.C T.Y T.x a.2.1 n E a.1 ha.1 ha.2.1 ha.2.2.1 ha.2.2.2.1 ha.2.2.2.2) (fun _ => rfl) h⟩)
      exact pss_one (ps_ret (pe_call (ok_to_power T) (hr.mono (by omega)) (by rfl) T.g_to_power T.F_to_power.kp T.b_to_power .nil pass0 (pa_cons (pe_m5 (pe_fld (pv 0) rfl) T.x ih (hr.mono (by omega)) (passX rfl rfl rfl rfl) (pa_cons (pv 1) pa_nil)) (pa_cons (pe_fld (pv 0) rfl) pa_nil))))
    have h4 : FnOk P w K mg base (L2.CX P w) ((n + 1) + 5) T.a_Less_value T.d_Less_value ["self", "point"] (sp_value K T.Y T.C (n + 1) 4) := by
      refine T.F_Less_value.okX sc_Less_value (fun vs H Q E h => len_X (E := E) (fun _ => rfl) h) (fun cdv A outer s H vs Q E hr h => ⟨t_Less_value K T.C T.Y n E, ?_, body_X (E := E) 3 (by exact fun a ha => rd_Less_value K T.C T.Y T.x a.2.1 n E a.1 ha.1 ha.2.1 ha.2.2.1 ha.2.2.2.1 ha.2.2.2.2) (fun _ => rfl) h⟩)
      exact pss_cons (ps_asg (pe_meth0 (pv 0) T.x.cLess.cl T.m_Less_core (ok_Less_core T) (hr.mono (by omega)) T.b_Less_core .nil pass0) (pg_tup rfl (pgs_cons (pg_name (i := 2) sc_Less_value.nd rfl (Or.inl rfl)) (pgs_cons (pg_name (i := 3) sc_Less_value.nd rfl (Or.inl rfl)) (pgs_nil))))) (pss_cons (ps_set (i := 4) sc_Less_value.nd rfl (Or.inl rfl) (pe_m5 (pv 2) T.x ih (hr.mono (by omega)) (passX rfl rfl rfl rfl) (pa_cons (pv 1) pa_nil))) (pss_cons (ps_if (pt_cmpR op_eq (pe_op op_mod (pv 3) pe_int) pe_int (nomark _)) (pss_one (ps_set (i := 4) sc_Less_value.nd rfl (Or.inl rfl) (pe_call (ok_minus T) (hr.mono (by omega)) (by rfl) T.g_minus T.F_minus.kp T.b_minus .nil pass0 (pa_cons (pe_tup (pa_cons pe_int (pa_cons pe_int pa_nil))) (pa_cons (pv 4) pa_nil))))) pss_nil) (pss_one (ps_ret (pv 4)))))
    intro j hj
    match j, hj with
    | 0, _ => exact ⟨_, _, _, T.m_Number_value, h0, T.b_Number_value⟩
    | 1, _ => exact ⟨_, _, _, T.m_Name_value, h1, T.b_Name_value⟩
    | 2, _ => exact ⟨_, _, _, T.m_Two_value, h2, T.b_Two_value⟩
    | 3, _ => exact ⟨_, _, _, T.m_Power_value, h3, T.b_Power_value⟩
    | 4, _ => exact ⟨_, _, _, T.m_Less_value, h4, T.b_Less_value⟩
theorem ok_law_asked (T : Txt K mg) : FnOk P w K mg base CX0 51 T.a_law_asked T.d_law_asked ["_law_expression", "_law_point_here"] (sp_law_asked K T.Y T.C) := by
  refine T.F_law_asked.ok sc_law_asked (fun vs H Q E h => len_F (E := E) (fun _ => rfl) h) (fun cdv A outer s H vs Q E hr h => ⟨t_law_asked K T.C T.Y, ?_, body_F (E := E) 3 (fun a ha => rd_law_asked K T.C T.e_NoValue T.Y a.1 a.2.1 ha.1 ha.2.1 ha.2.2) (fun _ => rfl) h⟩)
  exact pss_cons (ps_set (i := 2) sc_law_asked.nd rfl (Or.inl rfl) pe_non) (pss_cons (ps_set (i := 3) sc_law_asked.nd rfl (Or.inl rfl) pe_non) (pss_cons (ps_try_hold (i := 4) (tb := fun W => tAsg (tM5S T.Y "value" (sp_value K T.Y T.C 45) (WE W) (tVar 0) (tCons (tVar 1) tNil)) (gName 2)) (ts := fun _ _ _ => tAsg (tVar 4) (gName 3)) (Wout := fun _ _ _ _ => False) rfl rfl sc_law_asked.nd rfl rfl ⟨by rfl, by decide, Or.inl T.g_HouseError⟩ rfl takes0 (fun W pn xe tk _ => pss_one (ps_set (i := 2) sc_law_asked.nd rfl (Or.inl rfl) (pe_m5S (pv 0) T.x (mt_value T 45) (hr.mono (by decide)) (fun σ => passAt tk σ) (pa_cons (pv 1) pa_nil)))) (fun a oe cls d pn _ _ => pss_one (ps_set (i := 3) sc_law_asked.nd rfl (Or.inl rfl) (pv 4)))) (pss_one (ps_ret (pe_tup (pa_cons (pv 2) (pa_cons (pv 3) pa_nil)))))))
theorem ok_law_kinds (T : Txt K mg) : FnOk P w K mg base CX0 1 T.a_law_kinds T.d_law_kinds ["_law_caught"] (sp_law_kinds K T.C) := by
  refine T.F_law_kinds.ok sc_law_kinds (fun vs H Q E h => len_N (E := E) (fun _ => rfl) h) (fun cdv A outer s H vs Q E hr h => ⟨t_law_kinds K T.C, ?_, body_N (E := E) 2 (fun a ha => by obtain ⟨x, _⟩ := a; obtain rfl : x = _ := ha; exact rd_law_kinds K T.C T.e_NoValue T.kh_NoValue) (fun _ => rfl) h⟩)
  exact pss_cons (ps_set (i := 1) sc_law_kinds.nd rfl (Or.inr rfl) (pe_lst (pa_cons (pe_callB call_isX (by rfl) T.n_isinstance (by decide +kernel) (pa_cons (pv 0) (pa_cons (pe_glob (v := .ref T.C.NoNumber) (by rfl) T.g_NoNumber rfl) pa_nil))) (pa_cons (pe_callB call_isX (by rfl) T.n_isinstance (by decide +kernel) (pa_cons (pv 0) (pa_cons (pe_glob (v := .ref T.C.NoValue) (by rfl) T.g_NoValue rfl) pa_nil))) (pa_cons (pe_callB call_isX (by rfl) T.n_isinstance (by decide +kernel) (pa_cons (pv 0) (pa_cons (pe_glob (v := .ref T.C.NoText) (by rfl) T.g_NoText rfl) pa_nil))) pa_nil))))) (pss_cons (ps_set (i := 1) sc_law_kinds.nd rfl (Or.inr rfl) (pe_op op_cat (pv 1) (pe_lst (pa_cons (pe_callB call_isX (by rfl) T.n_isinstance (by decide +kernel) (pa_cons (pv 0) (pa_cons (pe_glob (v := .ref T.C.NoRoot) (by rfl) T.g_NoRoot rfl) pa_nil))) (pa_cons (pe_callB call_isX (by rfl) T.n_isinstance (by decide +kernel) (pa_cons (pv 0) (pa_cons (pe_glob (v := .ref T.C.NoRow) (by rfl) T.g_NoRow rfl) pa_nil))) (pa_cons (pe_callB call_isX (by rfl) T.n_isinstance (by decide +kernel) (pa_cons (pv 0) (pa_cons (pe_glob (v := .ref T.C.TooFar) (by rfl) T.g_TooFar rfl) pa_nil))) pa_nil)))))) (pss_cons (ps_set (i := 1) sc_law_kinds.nd rfl (Or.inr rfl) (pe_op op_cat (pv 1) (pe_lst (pa_cons (pe_callB call_isX (by rfl) T.n_isinstance (by decide +kernel) (pa_cons (pv 0) (pa_cons (pe_glob (v := .ref T.C.NoLine) (by rfl) T.g_NoLine rfl) pa_nil))) (pa_cons (pe_callB call_isX (by rfl) T.n_isinstance (by decide +kernel) (pa_cons (pv 0) (pa_cons (pe_glob (v := .ref T.C.HouseError) (by rfl) T.g_HouseError rfl) pa_nil))) (pa_cons (pe_callB call_isX (by rfl) T.n_isinstance (by decide +kernel) (pa_cons (pv 0) (pa_cons (pe_bltn (v := .ty "ValueError") (by rfl) T.n_ValueError (by decide +kernel) rfl) pa_nil))) pa_nil)))))) (pss_one (ps_ret (pe_lc (own := [("_law_k", 2)]) (g := gName 2) (tt := tB (tOp (rIxL K) (tVar 1) (tVar 2))) rfl sc_law_kinds.nd (pi_range1 rfl T.n_range (pa_cons pe_int pa_nil)) (blkOk_by (N := N_law_kinds) (sc := defScope s_law_kinds) (by decide +kernel)) (fun _ _ _ _ _ => pg_name (i := 2) sc_law_kinds.nd rfl (Or.inl rfl)) (fun _ _ _ _ _ => pts_one (pt_val (pe_ix ix_list (pv 1) (pv 2) (fun _ _ => rfl)))) (fun _ _ _ _ _ => pv 2))))))
theorem ok_law_is (T : Txt K mg) : FnOk P w K mg base CX0 1 T.a_law_is T.d_law_is ["_law_found", "_law_due"] (sp_law_is K) := by
  refine T.F_law_is.ok sc_law_is (fun vs H Q E h => len_F (E := E) (fun _ => rfl) h) (fun cdv A outer s H vs Q E hr h => ⟨t_law_is K, ?_, body_F (E := E) 1 (fun a ha => by obtain ⟨x, y, _⟩ := a; obtain rfl : x = y := ha; exact rd_law_is K x) (fun _ => rfl) h⟩)
  exact pss_cons (ps_if (PW.pt (pw_or (pt_not (pt_val (pe_callB call_isi (by rfl) T.n_isinstance (by decide +kernel) (pa_cons (pv 0) (pa_cons (pe_bltn (v := .ty "tuple") (by rfl) T.n_tuple (by decide +kernel) rfl) pa_nil))))) (pw_or1 (pt_cmpR op_ne (pe_callB call_len_seq (by rfl) T.n_len (by decide +kernel) (pa_cons (pv 0) pa_nil)) pe_int (nomark _))))) (pss_one (ps_ret pe_bl)) pss_nil) (pss_cons (ps_if (pt_not (pt_val (pe_callB (cr_all rfl) (by rfl) T.n_all (by decide +kernel) (pa_cons (pe_lc (own := [("_law_part", 2)]) (g := gName 2) (tt := tYes) rfl sc_law_is.nd (pi_tup (pv 0)) (blkOk_by (N := N_law_is) (sc := defScope s_law_is) (by decide +kernel)) (fun _ _ _ _ _ => pg_name (i := 2) sc_law_is.nd rfl (Or.inl rfl)) (fun _ _ _ _ _ => pts_nil) (fun _ _ _ _ _ => pe_and (pe_callB call_isi (by rfl) T.n_isinstance (by decide +kernel) (pa_cons (pv 2) (pa_cons (pe_bltn (v := .ty "int") (by rfl) T.n_int (by decide +kernel) rfl) pa_nil))) (pe_one (pe_not (pe_callB call_isi (by rfl) T.n_isinstance (by decide +kernel) (pa_cons (pv 2) (pa_cons (pe_bltn (v := .ty "bool") (by rfl) T.n_bool (by decide +kernel) rfl) pa_nil))))))) pa_nil)))) (pss_one (ps_ret pe_bl)) pss_nil) (pss_one (ps_ret (pe_cmpR (op_eqD hr.units) (pv 0) (pv 1) (nomark _)))))
theorem ok_law_right (T : Txt K mg) : FnOk P w K mg base CX0 52 T.a_law_right T.d_law_right ["_law_expression", "_law_tree", "_law_point_here"] (sp_law_right K T.Y T.C) := by
  refine T.F_law_right.ok sc_law_right (fun vs H Q E h => len_F (E := E) (fun _ => rfl) h) (fun cdv A outer s H vs Q E hr h => ⟨t_law_right K T.C T.Y, ?_, body_F (E := E) 4 (fun a ha => by obtain ⟨x, e, p, _⟩ := a; obtain ⟨h1, h2, h3, h4, h5⟩ := ha; dsimp only at h1 h2 h3 h4 h5; subst h1; exact rd_law_right K T.C T.Y x p h2 h3 h4 h5) (fun _ => rfl) h⟩)
  exact pss_cons (ps_set (i := 3) sc_law_right.nd rfl (Or.inl rfl) (pe_callTy call_dictD (by rfl) T.n_dict (by decide +kernel) (pa_cons (pv 2) pa_nil))) (pss_cons (ps_set (i := 4) sc_law_right.nd rfl (Or.inl rfl) (pe_call (okglaw_value T 40) (hr.mono (by decide)) (by rfl) T.g_law_value T.F_law_value.kp T.b_law_value .nil pass0 (pa_cons (pv 1) (pa_cons (pv 2) pa_nil)))) (pss_cons (ps_asg (pe_call (ok_law_asked T) (hr.mono (by decide)) (by rfl) T.g_law_asked T.F_law_asked.kp T.b_law_asked .nil pass0 (pa_cons (pv 0) (pa_cons (pv 3) pa_nil))) (pg_tup rfl (pgs_cons (pg_name (i := 5) sc_law_right.nd rfl (Or.inl rfl)) (pgs_cons (pg_name (i := 6) sc_law_right.nd rfl (Or.inl rfl)) (pgs_nil))))) (pss_cons (ps_if (pt_cmpR (op_neDi hr.units) (pv 3) (pv 2) (nomark _)) (pss_one (ps_ret pe_bl)) pss_nil) (pss_cons (ps_if (pt_cmpR op_isN (pv 4) pe_non (nomark _)) (pss_one (ps_ret (pe_cmpR (op_eqD hr.units) (pe_call (ok_law_kinds T) (hr.mono (by decide)) (by rfl) T.g_law_kinds T.F_law_kinds.kp T.b_law_kinds .nil pass0 (pa_cons (pv 6) pa_nil)) (pe_lst (pa_cons pe_int (pa_cons pe_int (pa_cons pe_int pa_nil)))) (nomark _)))) pss_nil) (pss_one (ps_ret (pe_and (pe_cmpR op_isN (pv 6) pe_non (nomark _)) (pe_one (pe_call (ok_law_is T) (hr.mono (by decide)) (by rfl) T.g_law_is T.F_law_is.kp T.b_law_is .nil pass0 (pa_cons (pv 5) (pa_cons (pv 4) pa_nil)))))))))))
theorem ok_law (T : Txt K mg) : FnOk P w K mg base CX0 221 T.a_law T.d_law ["_law_script"] (sp_law K) := by
  refine T.F_law.ok sc_law (fun vs H Q E h => len_F (E := E) (fun _ => rfl) h) (fun cdv A outer s H vs Q E hr h => ⟨t_law K T.C T.Y, ?_, body_F (E := E) 11 (fun a ha => rd_law K T.C T.Y a.1) (fun _ => rfl) h⟩)
  exact pss_cons (ps_set (i := 1) sc_law.nd rfl (Or.inl rfl) (pe_call (ok_law_numbers T) (hr.mono (by decide)) (by rfl) T.g_law_numbers T.F_law_numbers.kp T.b_law_numbers .nil pass0 (pa_cons (pv 0) (pa_cons pe_int (pa_cons pe_int pa_nil))))) (pss_cons (ps_set (i := 2) sc_law.nd rfl (Or.inl rfl) (pe_call (ok_law_names T) (hr.mono (by decide)) (by rfl) T.g_law_names T.F_law_names.kp T.b_law_names .nil pass0 (pa_cons (pe_call (ok_law_numbers T) (hr.mono (by decide)) (by rfl) T.g_law_numbers T.F_law_numbers.kp T.b_law_numbers .nil pass0 (pa_cons (pv 0) (pa_cons pe_int (pa_cons (pe_op op_mod (pe_ix ix_list (pv 1) pe_int (fun _ _ => rfl)) pe_int) pa_nil)))) pa_nil))) (pss_cons (ps_set (i := 3) sc_law.nd rfl (Or.inl rfl) (pe_ix ix_list (pe_lst (pa_cons pe_int (pa_cons pe_int pa_nil))) (pe_callTy call_int1 (by rfl) T.n_int (by decide +kernel) (pa_cons (pe_cmpR op_gt (pe_callB call_len_seq (by rfl) T.n_len (by decide +kernel) (pa_cons (pv 2) pa_nil)) pe_int (nomark _)) pa_nil)) (fun _ _ => rfl))) (pss_cons (ps_set (i := 4) sc_law.nd rfl (Or.inl rfl) (pe_call (ok_law_grown T) (hr.mono (by decide)) (by rfl) T.g_law_grown T.F_law_grown.kp T.b_law_grown .nil pass0 (pa_cons (pe_call (ok_law_numbers T) (hr.mono (by decide)) (by rfl) T.g_law_numbers T.F_law_numbers.kp T.b_law_numbers .nil pass0 (pa_cons (pv 0) (pa_cons pe_int (pa_cons (pe_op op_add pe_int (pe_op op_mod (pe_ix ix_list (pv 1) pe_int (fun _ _ => rfl)) pe_int)) pa_nil)))) (pa_cons (pv 2) (pa_cons (pv 3) pa_nil))))) (pss_cons (ps_set (i := 5) sc_law.nd rfl (Or.inl rfl) (pe_call (ok_read T) (hr.mono (by decide)) (by rfl) T.g_read T.F_read.kp T.b_read .nil passL (pa_cons (pe_call (okg_ltext T 40) (hr.mono (by decide)) (by rfl) T.g_law_text T.F_law_text.kp T.b_law_text .nil pass0 (pa_cons (pv 4) pa_nil)) pa_nil))) (pss_cons (ps_set (i := 6) sc_law.nd rfl (Or.inl rfl) (pe_lst pa_nil)) (pss_cons (ps_for (by first | exact PassesOwn.never | exact PassesOwn.leaving) rfl (pi_range2 rfl T.n_range (pa_cons pe_int (pa_cons pe_int pa_nil))) (pg_name (i := 7) sc_law.nd rfl (Or.inl rfl)) (pss_cons (ps_set (i := 8) sc_law.nd rfl (Or.inl rfl) (pe_call (ok_law_numbers T) (hr.mono (by decide)) (by rfl) T.g_law_numbers T.F_law_numbers.kp T.b_law_numbers .nil pass0 (pa_cons (pv 0) (pa_cons (pv 7) (pa_cons pe_int pa_nil))))) (pss_cons (ps_set (i := 9) sc_law.nd rfl (Or.inl rfl) (pe_call (ok_law_point T) (hr.mono (by decide)) (by rfl) T.g_law_point T.F_law_point.kp T.b_law_point .nil pass0 (pa_cons (pv 8) (pa_cons (pv 2) pa_nil)))) (pss_cons (ps_if (PW.pt (pw_and (pt_cmpR op_eq (pe_op op_mod (pe_ix ix_list (pv 8) pe_int (fun _ _ => rfl)) pe_int) pe_int (nomark _)) (pw_and1 (pt_cmpR (op_neNil hr.units) (pv 2) (pe_lst pa_nil) (nomark _))))) (pss_one (ps_expr (pe_dpop1 (pv 9) (pe_ix ix_list (pv 2) (pe_op op_modN (pe_ix ix_list (pv 8) pe_int (fun _ _ => rfl)) (pe_callB call_len_seq (by rfl) T.n_len (by decide +kernel) (pa_cons (pv 2) pa_nil))) (fun _ _ => rfl)) ⟨rfl, rfl, rfl, rfl⟩))) pss_nil) (pss_cons (ps_if (pt_cmpR op_eq (pe_op op_mod (pe_ix ix_list (pv 8) pe_int (fun _ _ => rfl)) pe_int) pe_int (nomark _)) (pss_one (ps_dput (hu_of hr) (pv 9) (pe_str) (pe_tup (pa_cons pe_int (pa_cons pe_int pa_nil))) rfl)) pss_nil) (pss_cons (ps_expr (pe_bm PySem.F.plainAttrs_list PySem.F.slot_list_append PySem.F.type_list_append mt_append (pv 6) (pa_cons (pv 9) pa_nil))) (pss_one (ps_if (pt_not (pt_val (pe_call (ok_law_right T) (hr.mono (by decide)) (by rfl) T.g_law_right T.F_law_right.kp T.b_law_right .nil pass0 (pa_cons (pv 5) (pa_cons (pv 4) (pa_cons (pv 9) pa_nil)))))) (pss_one (ps_ret pe_bl)) pss_nil)))))))) (pss_cons (ps_set (i := 10) sc_law.nd rfl (Or.inl rfl) (pe_tup (pa_cons (pe_op op_add_str (pe_str) (pe_op op_mulS (pe_str) (pe_op op_mod (pe_ix ix_list (pv 1) pe_int (fun _ _ => rfl)) pe_int))) (pa_cons (pe_disp (pps_cons (pe_str) (pe_call (ok_law_lowest T) (hr.mono (by decide)) (by rfl) T.g_law_lowest T.F_law_lowest.kp T.b_law_lowest .nil pass0 (pa_cons (pe_ix ix_list (pv 1) pe_int (fun _ _ => rfl)) (pa_cons pe_int pa_nil))) (pps_nil)) (by rfl) (by rfl) (fun z => by cases z) (by decide)) pa_nil)))) (pss_cons (ps_set (i := 11) sc_law.nd rfl (Or.inl rfl) (pe_call (ok_law_lowest T) (hr.mono (by decide)) (by rfl) T.g_law_lowest T.F_law_lowest.kp T.b_law_lowest .nil pass0 (pa_cons (pe_op op_sub (pe_ix ix_list (pv 1) pe_int (fun _ _ => rfl)) (pe_op op_mulX pe_int (pe_op op_mod (pe_ix ix_list (pv 1) pe_int (fun _ _ => rfl)) pe_int))) (pa_cons pe_int pa_nil)))) (pss_one (ps_ret (pe_and (pe_call (ok_law_is T) (hr.mono (by decide)) (by rfl) T.g_law_is T.F_law_is.kp T.b_law_is .nil pass0 (pa_cons (pe_m5 (pe_call (ok_read T) (hr.mono (by decide)) (by rfl) T.g_read T.F_read.kp T.b_read .nil passL (pa_cons (pe_ix ix_tup (pv 10) pe_int (fun _ _ => rfl)) pa_nil)) T.x (mt_value T 45) (hr.mono (by decide)) passL (pa_cons (pe_ix ix_tup (pv 10) pe_int (fun _ _ => rfl)) pa_nil)) (pa_cons (pv 11) pa_nil))) (pe_one (pe_call (ok_law_right T) (hr.mono (by decide)) (by rfl) T.g_law_right T.F_law_right.kp T.b_law_right .nil pass0 (pa_cons (pv 5) (pa_cons (pv 4) (pa_cons (pe_ix ix_list (pv 6) pe_int (fun _ _ => rfl)) pa_nil))))))))))))))))
end
theorem all_mk {l : PySem.W.OpenLaw} {w : World} {K : PySem.W.Frag} {h : Heap} {mg : Str → Option Value} {fa : Addr} (X : K.In h) (G : h.Ns mainGlobals mg) (hfa : mg "law" = some (.ref fa))
    {Y_Number Y_Name Y_Two Y_Power Y_Less : Addr}
    {f0 : Addr} {od0 an0 : Option Addr} {sl0 : Array (Option Value)} {oc0 kV0 dc0 pm0 cd0 ct0 : Value}
    (a0 : PySem.W.nsIn K mainGlobals "law" = some (some (.ref f0)))
    (l0 : K.lookup f0 = some ⟨oc0, od0, .func (PySem.W.fnOf "law" "law" (defArgs s_law) (defBody s_law) (defScope s_law) .none kV0 dc0 pm0 an0 cd0 ct0), sl0⟩) (c0 : PySem.W.codeIn K cd0 "law" = true) (k0 : PySem.W.keepIn K (.ref f0) = true)
    {f1 : Addr} {od1 an1 : Option Addr} {sl1 : Array (Option Value)} {oc1 kV1 dc1 pm1 cd1 ct1 : Value}
    (a1 : PySem.W.nsIn K mainGlobals "_law_numbers" = some (some (.ref f1)))
    (l1 : K.lookup f1 = some ⟨oc1, od1, .func (PySem.W.fnOf "_law_numbers" "_law_numbers" (defArgs s_law_numbers) (defBody s_law_numbers) (defScope s_law_numbers) .none kV1 dc1 pm1 an1 cd1 ct1), sl1⟩) (c1 : PySem.W.codeIn K cd1 "_law_numbers" = true) (k1 : PySem.W.keepIn K (.ref f1) = true)
    {f2 : Addr} {od2 an2 : Option Addr} {sl2 : Array (Option Value)} {oc2 kV2 dc2 pm2 cd2 ct2 : Value}
    (a2 : PySem.W.nsIn K mainGlobals "_law_names" = some (some (.ref f2)))
    (l2 : K.lookup f2 = some ⟨oc2, od2, .func (PySem.W.fnOf "_law_names" "_law_names" (defArgs s_law_names) (defBody s_law_names) (defScope s_law_names) .none kV2 dc2 pm2 an2 cd2 ct2), sl2⟩) (c2 : PySem.W.codeIn K cd2 "_law_names" = true) (k2 : PySem.W.keepIn K (.ref f2) = true)
    {f3 : Addr} {od3 an3 : Option Addr} {sl3 : Array (Option Value)} {oc3 kV3 dc3 pm3 cd3 ct3 : Value}
    (a3 : PySem.W.nsIn K mainGlobals "_law_grown" = some (some (.ref f3)))
    (l3 : K.lookup f3 = some ⟨oc3, od3, .func (PySem.W.fnOf "_law_grown" "_law_grown" (defArgs s_law_grown) (defBody s_law_grown) (defScope s_law_grown) .none kV3 dc3 pm3 an3 cd3 ct3), sl3⟩) (c3 : PySem.W.codeIn K cd3 "_law_grown" = true) (k3 : PySem.W.keepIn K (.ref f3) = true)
    {f4 : Addr} {od4 an4 : Option Addr} {sl4 : Array (Option Value)} {oc4 kV4 dc4 pm4 cd4 ct4 : Value}
    (a4 : PySem.W.nsIn K mainGlobals "_law_step" = some (some (.ref f4)))
    (l4 : K.lookup f4 = some ⟨oc4, od4, .func (PySem.W.fnOf "_law_step" "_law_step" (defArgs s_law_step) (defBody s_law_step) (defScope s_law_step) .none kV4 dc4 pm4 an4 cd4 ct4), sl4⟩) (c4 : PySem.W.codeIn K cd4 "_law_step" = true) (k4 : PySem.W.keepIn K (.ref f4) = true)
    {f5 : Addr} {od5 an5 : Option Addr} {sl5 : Array (Option Value)} {oc5 kV5 dc5 pm5 cd5 ct5 : Value}
    (a5 : PySem.W.nsIn K mainGlobals "_law_joined" = some (some (.ref f5)))
    (l5 : K.lookup f5 = some ⟨oc5, od5, .func (PySem.W.fnOf "_law_joined" "_law_joined" (defArgs s_law_joined) (defBody s_law_joined) (defScope s_law_joined) .none kV5 dc5 pm5 an5 cd5 ct5), sl5⟩) (c5 : PySem.W.codeIn K cd5 "_law_joined" = true) (k5 : PySem.W.keepIn K (.ref f5) = true)
    {f6 : Addr} {od6 an6 : Option Addr} {sl6 : Array (Option Value)} {oc6 kV6 dc6 pm6 cd6 ct6 : Value}
    (a6 : PySem.W.nsIn K mainGlobals "_law_fits" = some (some (.ref f6)))
    (l6 : K.lookup f6 = some ⟨oc6, od6, .func (PySem.W.fnOf "_law_fits" "_law_fits" (defArgs s_law_fits) (defBody s_law_fits) (defScope s_law_fits) .none kV6 dc6 pm6 an6 cd6 ct6), sl6⟩) (c6 : PySem.W.codeIn K cd6 "_law_fits" = true) (k6 : PySem.W.keepIn K (.ref f6) = true)
    {f7 : Addr} {od7 an7 : Option Addr} {sl7 : Array (Option Value)} {oc7 kV7 dc7 pm7 cd7 ct7 : Value}
    (a7 : PySem.W.nsIn K mainGlobals "_law_leaf" = some (some (.ref f7)))
    (l7 : K.lookup f7 = some ⟨oc7, od7, .func (PySem.W.fnOf "_law_leaf" "_law_leaf" (defArgs s_law_leaf) (defBody s_law_leaf) (defScope s_law_leaf) .none kV7 dc7 pm7 an7 cd7 ct7), sl7⟩) (c7 : PySem.W.codeIn K cd7 "_law_leaf" = true) (k7 : PySem.W.keepIn K (.ref f7) = true)
    {f8 : Addr} {od8 an8 : Option Addr} {sl8 : Array (Option Value)} {oc8 kV8 dc8 pm8 cd8 ct8 : Value}
    (a8 : PySem.W.nsIn K mainGlobals "read" = some (some (.ref f8)))
    (l8 : K.lookup f8 = some ⟨oc8, od8, .func (PySem.W.fnOf "read" "read" (defArgs s_read) (defBody s_read) (defScope s_read) .none kV8 dc8 pm8 an8 cd8 ct8), sl8⟩) (c8 : PySem.W.codeIn K cd8 "read" = true) (k8 : PySem.W.keepIn K (.ref f8) = true)
    {f9 : Addr} {od9 an9 : Option Addr} {sl9 : Array (Option Value)} {oc9 kV9 dc9 pm9 cd9 ct9 : Value}
    (a9 : PySem.W.nsIn K mainGlobals "sum_at" = some (some (.ref f9)))
    (l9 : K.lookup f9 = some ⟨oc9, od9, .func (PySem.W.fnOf "sum_at" "sum_at" (defArgs s_sum_at) (defBody s_sum_at) (defScope s_sum_at) .none kV9 dc9 pm9 an9 cd9 ct9), sl9⟩) (c9 : PySem.W.codeIn K cd9 "sum_at" = true) (k9 : PySem.W.keepIn K (.ref f9) = true)
    {f10 : Addr} {od10 an10 : Option Addr} {sl10 : Array (Option Value)} {oc10 kV10 dc10 pm10 cd10 ct10 : Value}
    (a10 : PySem.W.nsIn K mainGlobals "row_at" = some (some (.ref f10)))
    (l10 : K.lookup f10 = some ⟨oc10, od10, .func (PySem.W.fnOf "row_at" "row_at" (defArgs s_row_at) (defBody s_row_at) (defScope s_row_at) .none kV10 dc10 pm10 an10 cd10 ct10), sl10⟩) (c10 : PySem.W.codeIn K cd10 "row_at" = true) (k10 : PySem.W.keepIn K (.ref f10) = true)
    {f11 : Addr} {od11 an11 : Option Addr} {sl11 : Array (Option Value)} {oc11 kV11 dc11 pm11 cd11 ct11 : Value}
    (a11Two : PySem.W.findIn K (.ref Y_Two) "__init__" = some (some (.ref f11)))
    (i11 : PySem.W.isFn K (.ref f11) = true)
    (l11 : K.lookup f11 = some ⟨oc11, od11, .func (PySem.W.fnOf "__init__" "Two.__init__" (defArgs s_Two_init) (defBody s_Two_init) (defScope s_Two_init) .none kV11 dc11 pm11 an11 cd11 ct11), sl11⟩) (c11 : PySem.W.codeIn K cd11 "Two.__init__" = true) (k11 : PySem.W.keepIn K (.ref f11) = true)
    {f12 : Addr} {od12 an12 : Option Addr} {sl12 : Array (Option Value)} {oc12 kV12 dc12 pm12 cd12 ct12 : Value}
    (a12 : PySem.W.nsIn K mainGlobals "term_at" = some (some (.ref f12)))
    (l12 : K.lookup f12 = some ⟨oc12, od12, .func (PySem.W.fnOf "term_at" "term_at" (defArgs s_term_at) (defBody s_term_at) (defScope s_term_at) .none kV12 dc12 pm12 an12 cd12 ct12), sl12⟩) (c12 : PySem.W.codeIn K cd12 "term_at" = true) (k12 : PySem.W.keepIn K (.ref f12) = true)
    {f13 : Addr} {od13 an13 : Option Addr} {sl13 : Array (Option Value)} {oc13 kV13 dc13 pm13 cd13 ct13 : Value}
    (a13 : PySem.W.nsIn K mainGlobals "factor_at" = some (some (.ref f13)))
    (l13 : K.lookup f13 = some ⟨oc13, od13, .func (PySem.W.fnOf "factor_at" "factor_at" (defArgs s_factor_at) (defBody s_factor_at) (defScope s_factor_at) .none kV13 dc13 pm13 an13 cd13 ct13), sl13⟩) (c13 : PySem.W.codeIn K cd13 "factor_at" = true) (k13 : PySem.W.keepIn K (.ref f13) = true)
    {f14 : Addr} {od14 an14 : Option Addr} {sl14 : Array (Option Value)} {oc14 kV14 dc14 pm14 cd14 ct14 : Value}
    (a14 : PySem.W.nsIn K mainGlobals "power_at" = some (some (.ref f14)))
    (l14 : K.lookup f14 = some ⟨oc14, od14, .func (PySem.W.fnOf "power_at" "power_at" (defArgs s_power_at) (defBody s_power_at) (defScope s_power_at) .none kV14 dc14 pm14 an14 cd14 ct14), sl14⟩) (c14 : PySem.W.codeIn K cd14 "power_at" = true) (k14 : PySem.W.keepIn K (.ref f14) = true)
    {f15 : Addr} {od15 an15 : Option Addr} {sl15 : Array (Option Value)} {oc15 kV15 dc15 pm15 cd15 ct15 : Value}
    (a15 : PySem.W.nsIn K mainGlobals "atom_at" = some (some (.ref f15)))
    (l15 : K.lookup f15 = some ⟨oc15, od15, .func (PySem.W.fnOf "atom_at" "atom_at" (defArgs s_atom_at) (defBody s_atom_at) (defScope s_atom_at) .none kV15 dc15 pm15 an15 cd15 ct15), sl15⟩) (c15 : PySem.W.codeIn K cd15 "atom_at" = true) (k15 : PySem.W.keepIn K (.ref f15) = true)
    {f16 : Addr} {od16 an16 : Option Addr} {sl16 : Array (Option Value)} {oc16 kV16 dc16 pm16 cd16 ct16 : Value}
    (a16 : PySem.W.nsIn K mainGlobals "whole_at" = some (some (.ref f16)))
    (l16 : K.lookup f16 = some ⟨oc16, od16, .func (PySem.W.fnOf "whole_at" "whole_at" (defArgs s_whole_at) (defBody s_whole_at) (defScope s_whole_at) .none kV16 dc16 pm16 an16 cd16 ct16), sl16⟩) (c16 : PySem.W.codeIn K cd16 "whole_at" = true) (k16 : PySem.W.keepIn K (.ref f16) = true)
    {f17 : Addr} {od17 an17 : Option Addr} {sl17 : Array (Option Value)} {oc17 kV17 dc17 pm17 cd17 ct17 : Value}
    (a17 : PySem.W.nsIn K mainGlobals "run_of" = some (some (.ref f17)))
    (l17 : K.lookup f17 = some ⟨oc17, od17, .func (PySem.W.fnOf "run_of" "run_of" (defArgs s_run_of) (defBody s_run_of) (defScope s_run_of) .none kV17 dc17 pm17 an17 cd17 ct17), sl17⟩) (c17 : PySem.W.codeIn K cd17 "run_of" = true) (k17 : PySem.W.keepIn K (.ref f17) = true)
    {f18 : Addr} {od18 an18 : Option Addr} {sl18 : Array (Option Value)} {oc18 kV18 dc18 pm18 cd18 ct18 : Value}
    (a18Number : PySem.W.findIn K (.ref Y_Number) "__init__" = some (some (.ref f18)))
    (i18 : PySem.W.isFn K (.ref f18) = true)
    (l18 : K.lookup f18 = some ⟨oc18, od18, .func (PySem.W.fnOf "__init__" "Number.__init__" (defArgs s_Number_init) (defBody s_Number_init) (defScope s_Number_init) .none kV18 dc18 pm18 an18 cd18 ct18), sl18⟩) (c18 : PySem.W.codeIn K cd18 "Number.__init__" = true) (k18 : PySem.W.keepIn K (.ref f18) = true)
    {f19 : Addr} {od19 an19 : Option Addr} {sl19 : Array (Option Value)} {oc19 kV19 dc19 pm19 cd19 ct19 : Value}
    (a19Name : PySem.W.findIn K (.ref Y_Name) "__init__" = some (some (.ref f19)))
    (i19 : PySem.W.isFn K (.ref f19) = true)
    (l19 : K.lookup f19 = some ⟨oc19, od19, .func (PySem.W.fnOf "__init__" "Name.__init__" (defArgs s_Name_init) (defBody s_Name_init) (defScope s_Name_init) .none kV19 dc19 pm19 an19 cd19 ct19), sl19⟩) (c19 : PySem.W.codeIn K cd19 "Name.__init__" = true) (k19 : PySem.W.keepIn K (.ref f19) = true)
    {f20 : Addr} {od20 an20 : Option Addr} {sl20 : Array (Option Value)} {oc20 kV20 dc20 pm20 cd20 ct20 : Value}
    (a20Power : PySem.W.findIn K (.ref Y_Power) "__init__" = some (some (.ref f20)))
    (i20 : PySem.W.isFn K (.ref f20) = true)
    (l20 : K.lookup f20 = some ⟨oc20, od20, .func (PySem.W.fnOf "__init__" "Power.__init__" (defArgs s_Power_init) (defBody s_Power_init) (defScope s_Power_init) .none kV20 dc20 pm20 an20 cd20 ct20), sl20⟩) (c20 : PySem.W.codeIn K cd20 "Power.__init__" = true) (k20 : PySem.W.keepIn K (.ref f20) = true)
    {f21 : Addr} {od21 an21 : Option Addr} {sl21 : Array (Option Value)} {oc21 kV21 dc21 pm21 cd21 ct21 : Value}
    (a21Less : PySem.W.findIn K (.ref Y_Less) "__init__" = some (some (.ref f21)))
    (i21 : PySem.W.isFn K (.ref f21) = true)
    (l21 : K.lookup f21 = some ⟨oc21, od21, .func (PySem.W.fnOf "__init__" "Less.__init__" (defArgs s_Less_init) (defBody s_Less_init) (defScope s_Less_init) .none kV21 dc21 pm21 an21 cd21 ct21), sl21⟩) (c21 : PySem.W.codeIn K cd21 "Less.__init__" = true) (k21 : PySem.W.keepIn K (.ref f21) = true)
    {f22 : Addr} {od22 an22 : Option Addr} {sl22 : Array (Option Value)} {oc22 kV22 dc22 pm22 cd22 ct22 : Value}
    (a22 : PySem.W.nsIn K mainGlobals "_law_text" = some (some (.ref f22)))
    (l22 : K.lookup f22 = some ⟨oc22, od22, .func (PySem.W.fnOf "_law_text" "_law_text" (defArgs s_law_text) (defBody s_law_text) (defScope s_law_text) .none kV22 dc22 pm22 an22 cd22 ct22), sl22⟩) (c22 : PySem.W.codeIn K cd22 "_law_text" = true) (k22 : PySem.W.keepIn K (.ref f22) = true)
    {f23 : Addr} {od23 an23 : Option Addr} {sl23 : Array (Option Value)} {oc23 kV23 dc23 pm23 cd23 ct23 : Value}
    (a23 : PySem.W.nsIn K mainGlobals "_law_inner" = some (some (.ref f23)))
    (l23 : K.lookup f23 = some ⟨oc23, od23, .func (PySem.W.fnOf "_law_inner" "_law_inner" (defArgs s_law_inner) (defBody s_law_inner) (defScope s_law_inner) .none kV23 dc23 pm23 an23 cd23 ct23), sl23⟩) (c23 : PySem.W.codeIn K cd23 "_law_inner" = true) (k23 : PySem.W.keepIn K (.ref f23) = true)
    {f24 : Addr} {od24 an24 : Option Addr} {sl24 : Array (Option Value)} {oc24 kV24 dc24 pm24 cd24 ct24 : Value}
    (a24 : PySem.W.nsIn K mainGlobals "_law_binds" = some (some (.ref f24)))
    (l24 : K.lookup f24 = some ⟨oc24, od24, .func (PySem.W.fnOf "_law_binds" "_law_binds" (defArgs s_law_binds) (defBody s_law_binds) (defScope s_law_binds) .none kV24 dc24 pm24 an24 cd24 ct24), sl24⟩) (c24 : PySem.W.codeIn K cd24 "_law_binds" = true) (k24 : PySem.W.keepIn K (.ref f24) = true)
    {f25 : Addr} {od25 an25 : Option Addr} {sl25 : Array (Option Value)} {oc25 kV25 dc25 pm25 cd25 ct25 : Value}
    (a25 : PySem.W.nsIn K mainGlobals "_law_point" = some (some (.ref f25)))
    (l25 : K.lookup f25 = some ⟨oc25, od25, .func (PySem.W.fnOf "_law_point" "_law_point" (defArgs s_law_point) (defBody s_law_point) (defScope s_law_point) .none kV25 dc25 pm25 an25 cd25 ct25), sl25⟩) (c25 : PySem.W.codeIn K cd25 "_law_point" = true) (k25 : PySem.W.keepIn K (.ref f25) = true)
    {f26 : Addr} {od26 an26 : Option Addr} {sl26 : Array (Option Value)} {oc26 kV26 dc26 pm26 cd26 ct26 : Value}
    (a26 : PySem.W.nsIn K mainGlobals "_law_lowest" = some (some (.ref f26)))
    (l26 : K.lookup f26 = some ⟨oc26, od26, .func (PySem.W.fnOf "_law_lowest" "_law_lowest" (defArgs s_law_lowest) (defBody s_law_lowest) (defScope s_law_lowest) .none kV26 dc26 pm26 an26 cd26 ct26), sl26⟩) (c26 : PySem.W.codeIn K cd26 "_law_lowest" = true) (k26 : PySem.W.keepIn K (.ref f26) = true)
    {f27 : Addr} {od27 an27 : Option Addr} {sl27 : Array (Option Value)} {oc27 kV27 dc27 pm27 cd27 ct27 : Value}
    (a27 : PySem.W.nsIn K mainGlobals "_law_share" = some (some (.ref f27)))
    (l27 : K.lookup f27 = some ⟨oc27, od27, .func (PySem.W.fnOf "_law_share" "_law_share" (defArgs s_law_share) (defBody s_law_share) (defScope s_law_share) .none kV27 dc27 pm27 an27 cd27 ct27), sl27⟩) (c27 : PySem.W.codeIn K cd27 "_law_share" = true) (k27 : PySem.W.keepIn K (.ref f27) = true)
    {f28 : Addr} {od28 an28 : Option Addr} {sl28 : Array (Option Value)} {oc28 kV28 dc28 pm28 cd28 ct28 : Value}
    (a28 : PySem.W.nsIn K mainGlobals "_law_right" = some (some (.ref f28)))
    (l28 : K.lookup f28 = some ⟨oc28, od28, .func (PySem.W.fnOf "_law_right" "_law_right" (defArgs s_law_right) (defBody s_law_right) (defScope s_law_right) .none kV28 dc28 pm28 an28 cd28 ct28), sl28⟩) (c28 : PySem.W.codeIn K cd28 "_law_right" = true) (k28 : PySem.W.keepIn K (.ref f28) = true)
    {f29 : Addr} {od29 an29 : Option Addr} {sl29 : Array (Option Value)} {oc29 kV29 dc29 pm29 cd29 ct29 : Value}
    (a29 : PySem.W.nsIn K mainGlobals "_law_value" = some (some (.ref f29)))
    (l29 : K.lookup f29 = some ⟨oc29, od29, .func (PySem.W.fnOf "_law_value" "_law_value" (defArgs s_law_value) (defBody s_law_value) (defScope s_law_value) .none kV29 dc29 pm29 an29 cd29 ct29), sl29⟩) (c29 : PySem.W.codeIn K cd29 "_law_value" = true) (k29 : PySem.W.keepIn K (.ref f29) = true)
    {f30 : Addr} {od30 an30 : Option Addr} {sl30 : Array (Option Value)} {oc30 kV30 dc30 pm30 cd30 ct30 : Value}
    (a30 : PySem.W.nsIn K mainGlobals "_law_asked" = some (some (.ref f30)))
    (l30 : K.lookup f30 = some ⟨oc30, od30, .func (PySem.W.fnOf "_law_asked" "_law_asked" (defArgs s_law_asked) (defBody s_law_asked) (defScope s_law_asked) .none kV30 dc30 pm30 an30 cd30 ct30), sl30⟩) (c30 : PySem.W.codeIn K cd30 "_law_asked" = true) (k30 : PySem.W.keepIn K (.ref f30) = true)
    {f31 : Addr} {od31 an31 : Option Addr} {sl31 : Array (Option Value)} {oc31 kV31 dc31 pm31 cd31 ct31 : Value}
    (a31Number : PySem.W.findIn K (.ref Y_Number) "value" = some (some (.ref f31)))
    (i31 : PySem.W.isFn K (.ref f31) = true)
    (l31 : K.lookup f31 = some ⟨oc31, od31, .func (PySem.W.fnOf "value" "Number.value" (defArgs s_Number_value) (defBody s_Number_value) (defScope s_Number_value) .none kV31 dc31 pm31 an31 cd31 ct31), sl31⟩) (c31 : PySem.W.codeIn K cd31 "Number.value" = true) (k31 : PySem.W.keepIn K (.ref f31) = true)
    {f32 : Addr} {od32 an32 : Option Addr} {sl32 : Array (Option Value)} {oc32 kV32 dc32 pm32 cd32 ct32 : Value}
    (a32Name : PySem.W.findIn K (.ref Y_Name) "value" = some (some (.ref f32)))
    (i32 : PySem.W.isFn K (.ref f32) = true)
    (l32 : K.lookup f32 = some ⟨oc32, od32, .func (PySem.W.fnOf "value" "Name.value" (defArgs s_Name_value) (defBody s_Name_value) (defScope s_Name_value) .none kV32 dc32 pm32 an32 cd32 ct32), sl32⟩) (c32 : PySem.W.codeIn K cd32 "Name.value" = true) (k32 : PySem.W.keepIn K (.ref f32) = true)
    {f33 : Addr} {od33 an33 : Option Addr} {sl33 : Array (Option Value)} {oc33 kV33 dc33 pm33 cd33 ct33 : Value}
    (a33Two : PySem.W.findIn K (.ref Y_Two) "value" = some (some (.ref f33)))
    (i33 : PySem.W.isFn K (.ref f33) = true)
    (l33 : K.lookup f33 = some ⟨oc33, od33, .func (PySem.W.fnOf "value" "Two.value" (defArgs s_Two_value) (defBody s_Two_value) (defScope s_Two_value) .none kV33 dc33 pm33 an33 cd33 ct33), sl33⟩) (c33 : PySem.W.codeIn K cd33 "Two.value" = true) (k33 : PySem.W.keepIn K (.ref f33) = true)
    {f34 : Addr} {od34 an34 : Option Addr} {sl34 : Array (Option Value)} {oc34 kV34 dc34 pm34 cd34 ct34 : Value}
    (a34Two : PySem.W.findIn K (.ref Y_Two) "spine" = some (some (.ref f34)))
    (i34 : PySem.W.isFn K (.ref f34) = true)
    (l34 : K.lookup f34 = some ⟨oc34, od34, .func (PySem.W.fnOf "spine" "Two.spine" (defArgs s_Two_spine) (defBody s_Two_spine) (defScope s_Two_spine) .none kV34 dc34 pm34 an34 cd34 ct34), sl34⟩) (c34 : PySem.W.codeIn K cd34 "Two.spine" = true) (k34 : PySem.W.keepIn K (.ref f34) = true)
    {f35 : Addr} {od35 an35 : Option Addr} {sl35 : Array (Option Value)} {oc35 kV35 dc35 pm35 cd35 ct35 : Value}
    (a35 : PySem.W.nsIn K mainGlobals "put_together" = some (some (.ref f35)))
    (l35 : K.lookup f35 = some ⟨oc35, od35, .func (PySem.W.fnOf "put_together" "put_together" (defArgs s_put_together) (defBody s_put_together) (defScope s_put_together) .none kV35 dc35 pm35 an35 cd35 ct35), sl35⟩) (c35 : PySem.W.codeIn K cd35 "put_together" = true) (k35 : PySem.W.keepIn K (.ref f35) = true)
    {f36 : Addr} {od36 an36 : Option Addr} {sl36 : Array (Option Value)} {oc36 kV36 dc36 pm36 cd36 ct36 : Value}
    (a36 : PySem.W.nsIn K mainGlobals "plus" = some (some (.ref f36)))
    (l36 : K.lookup f36 = some ⟨oc36, od36, .func (PySem.W.fnOf "plus" "plus" (defArgs s_plus) (defBody s_plus) (defScope s_plus) .none kV36 dc36 pm36 an36 cd36 ct36), sl36⟩) (c36 : PySem.W.codeIn K cd36 "plus" = true) (k36 : PySem.W.keepIn K (.ref f36) = true)
    {f37 : Addr} {od37 an37 : Option Addr} {sl37 : Array (Option Value)} {oc37 kV37 dc37 pm37 cd37 ct37 : Value}
    (a37 : PySem.W.nsIn K mainGlobals "fraction" = some (some (.ref f37)))
    (l37 : K.lookup f37 = some ⟨oc37, od37, .func (PySem.W.fnOf "fraction" "fraction" (defArgs s_fraction) (defBody s_fraction) (defScope s_fraction) .none kV37 dc37 pm37 an37 cd37 ct37), sl37⟩) (c37 : PySem.W.codeIn K cd37 "fraction" = true) (k37 : PySem.W.keepIn K (.ref f37) = true)
    {f38 : Addr} {od38 an38 : Option Addr} {sl38 : Array (Option Value)} {oc38 kV38 dc38 pm38 cd38 ct38 : Value}
    (a38 : PySem.W.nsIn K mainGlobals "divisor" = some (some (.ref f38)))
    (l38 : K.lookup f38 = some ⟨oc38, od38, .func (PySem.W.fnOf "divisor" "divisor" (defArgs s_divisor) (defBody s_divisor) (defScope s_divisor) .none kV38 dc38 pm38 an38 cd38 ct38), sl38⟩) (c38 : PySem.W.codeIn K cd38 "divisor" = true) (k38 : PySem.W.keepIn K (.ref f38) = true)
    {f39 : Addr} {od39 an39 : Option Addr} {sl39 : Array (Option Value)} {oc39 kV39 dc39 pm39 cd39 ct39 : Value}
    (a39 : PySem.W.nsIn K mainGlobals "minus" = some (some (.ref f39)))
    (l39 : K.lookup f39 = some ⟨oc39, od39, .func (PySem.W.fnOf "minus" "minus" (defArgs s_minus) (defBody s_minus) (defScope s_minus) .none kV39 dc39 pm39 an39 cd39 ct39), sl39⟩) (c39 : PySem.W.codeIn K cd39 "minus" = true) (k39 : PySem.W.keepIn K (.ref f39) = true)
    {f40 : Addr} {od40 an40 : Option Addr} {sl40 : Array (Option Value)} {oc40 kV40 dc40 pm40 cd40 ct40 : Value}
    (a40 : PySem.W.nsIn K mainGlobals "times" = some (some (.ref f40)))
    (l40 : K.lookup f40 = some ⟨oc40, od40, .func (PySem.W.fnOf "times" "times" (defArgs s_times) (defBody s_times) (defScope s_times) .none kV40 dc40 pm40 an40 cd40 ct40), sl40⟩) (c40 : PySem.W.codeIn K cd40 "times" = true) (k40 : PySem.W.keepIn K (.ref f40) = true)
    {f41 : Addr} {od41 an41 : Option Addr} {sl41 : Array (Option Value)} {oc41 kV41 dc41 pm41 cd41 ct41 : Value}
    (a41 : PySem.W.nsIn K mainGlobals "over" = some (some (.ref f41)))
    (l41 : K.lookup f41 = some ⟨oc41, od41, .func (PySem.W.fnOf "over" "over" (defArgs s_over) (defBody s_over) (defScope s_over) .none kV41 dc41 pm41 an41 cd41 ct41), sl41⟩) (c41 : PySem.W.codeIn K cd41 "over" = true) (k41 : PySem.W.keepIn K (.ref f41) = true)
    {f42 : Addr} {od42 an42 : Option Addr} {sl42 : Array (Option Value)} {oc42 kV42 dc42 pm42 cd42 ct42 : Value}
    (a42Power : PySem.W.findIn K (.ref Y_Power) "value" = some (some (.ref f42)))
    (i42 : PySem.W.isFn K (.ref f42) = true)
    (l42 : K.lookup f42 = some ⟨oc42, od42, .func (PySem.W.fnOf "value" "Power.value" (defArgs s_Power_value) (defBody s_Power_value) (defScope s_Power_value) .none kV42 dc42 pm42 an42 cd42 ct42), sl42⟩) (c42 : PySem.W.codeIn K cd42 "Power.value" = true) (k42 : PySem.W.keepIn K (.ref f42) = true)
    {f43 : Addr} {od43 an43 : Option Addr} {sl43 : Array (Option Value)} {oc43 kV43 dc43 pm43 cd43 ct43 : Value}
    (a43 : PySem.W.nsIn K mainGlobals "to_power" = some (some (.ref f43)))
    (l43 : K.lookup f43 = some ⟨oc43, od43, .func (PySem.W.fnOf "to_power" "to_power" (defArgs s_to_power) (defBody s_to_power) (defScope s_to_power) .none kV43 dc43 pm43 an43 cd43 ct43), sl43⟩) (c43 : PySem.W.codeIn K cd43 "to_power" = true) (k43 : PySem.W.keepIn K (.ref f43) = true)
    {f44 : Addr} {od44 an44 : Option Addr} {sl44 : Array (Option Value)} {oc44 kV44 dc44 pm44 cd44 ct44 : Value}
    (a44Less : PySem.W.findIn K (.ref Y_Less) "value" = some (some (.ref f44)))
    (i44 : PySem.W.isFn K (.ref f44) = true)
    (l44 : K.lookup f44 = some ⟨oc44, od44, .func (PySem.W.fnOf "value" "Less.value" (defArgs s_Less_value) (defBody s_Less_value) (defScope s_Less_value) .none kV44 dc44 pm44 an44 cd44 ct44), sl44⟩) (c44 : PySem.W.codeIn K cd44 "Less.value" = true) (k44 : PySem.W.keepIn K (.ref f44) = true)
    {f45 : Addr} {od45 an45 : Option Addr} {sl45 : Array (Option Value)} {oc45 kV45 dc45 pm45 cd45 ct45 : Value}
    (a45Less : PySem.W.findIn K (.ref Y_Less) "core" = some (some (.ref f45)))
    (i45 : PySem.W.isFn K (.ref f45) = true)
    (l45 : K.lookup f45 = some ⟨oc45, od45, .func (PySem.W.fnOf "core" "Less.core" (defArgs s_Less_core) (defBody s_Less_core) (defScope s_Less_core) .none kV45 dc45 pm45 an45 cd45 ct45), sl45⟩) (c45 : PySem.W.codeIn K cd45 "Less.core" = true) (k45 : PySem.W.keepIn K (.ref f45) = true)
    {f46 : Addr} {od46 an46 : Option Addr} {sl46 : Array (Option Value)} {oc46 kV46 dc46 pm46 cd46 ct46 : Value}
    (a46 : PySem.W.nsIn K mainGlobals "_law_kinds" = some (some (.ref f46)))
    (l46 : K.lookup f46 = some ⟨oc46, od46, .func (PySem.W.fnOf "_law_kinds" "_law_kinds" (defArgs s_law_kinds) (defBody s_law_kinds) (defScope s_law_kinds) .none kV46 dc46 pm46 an46 cd46 ct46), sl46⟩) (c46 : PySem.W.codeIn K cd46 "_law_kinds" = true) (k46 : PySem.W.keepIn K (.ref f46) = true)
    {f47 : Addr} {od47 an47 : Option Addr} {sl47 : Array (Option Value)} {oc47 kV47 dc47 pm47 cd47 ct47 : Value}
    (a47 : PySem.W.nsIn K mainGlobals "_law_is" = some (some (.ref f47)))
    (l47 : K.lookup f47 = some ⟨oc47, od47, .func (PySem.W.fnOf "_law_is" "_law_is" (defArgs s_law_is) (defBody s_law_is) (defScope s_law_is) .none kV47 dc47 pm47 an47 cd47 ct47), sl47⟩) (c47 : PySem.W.codeIn K cd47 "_law_is" = true) (k47 : PySem.W.keepIn K (.ref f47) = true)
    (gYNumber : PySem.W.nsIn K mainGlobals "Number" = some (some (.ref Y_Number)))
    (pgNumber : PySem.W.plainGet K Y_Number Str.empty = true) (hdNumber : PySem.W.hasDictIn K Y_Number = true) (poNumber : PySem.W.plainOver K Y_Number = true) (saNumber : PySem.W.findIn K (.ref Y_Number) "__setattr__" = some (some (.builtin "object.__setattr__"))) (mkNumber : PySem.W.makesIn K Y_Number = true) (kcNumber : PySem.W.keepIn K (.ref Y_Number) = true)
    (haNumber : PySem.W.findIn K (.ref Y_Number) "__class__" = some (some (.builtin "object.__class__"))) (hnNumber : PySem.W.specialIn K (.builtin "object.__class__") "__get__" = some (some (.builtin "getset_descriptor.__get__"))) (htNumber : PySem.W.takesIn K (.builtin "object.__class__") = some true) (hmNumber : PySem.W.mroIn K Y_Number (.type "object") = some true)
    (f_whole : PySem.W.findIn K (.ref Y_Number) "whole" = some none)
    (gYName : PySem.W.nsIn K mainGlobals "Name" = some (some (.ref Y_Name)))
    (pgName : PySem.W.plainGet K Y_Name Str.empty = true) (hdName : PySem.W.hasDictIn K Y_Name = true) (poName : PySem.W.plainOver K Y_Name = true) (saName : PySem.W.findIn K (.ref Y_Name) "__setattr__" = some (some (.builtin "object.__setattr__"))) (mkName : PySem.W.makesIn K Y_Name = true) (kcName : PySem.W.keepIn K (.ref Y_Name) = true)
    (haName : PySem.W.findIn K (.ref Y_Name) "__class__" = some (some (.builtin "object.__class__"))) (hnName : PySem.W.specialIn K (.builtin "object.__class__") "__get__" = some (some (.builtin "getset_descriptor.__get__"))) (htName : PySem.W.takesIn K (.builtin "object.__class__") = some true) (hmName : PySem.W.mroIn K Y_Name (.type "object") = some true)
    (f_word : PySem.W.findIn K (.ref Y_Name) "word" = some none)
    (gYTwo : PySem.W.nsIn K mainGlobals "Two" = some (some (.ref Y_Two)))
    (pgTwo : PySem.W.plainGet K Y_Two Str.empty = true) (hdTwo : PySem.W.hasDictIn K Y_Two = true) (poTwo : PySem.W.plainOver K Y_Two = true) (saTwo : PySem.W.findIn K (.ref Y_Two) "__setattr__" = some (some (.builtin "object.__setattr__"))) (mkTwo : PySem.W.makesIn K Y_Two = true) (kcTwo : PySem.W.keepIn K (.ref Y_Two) = true)
    (haTwo : PySem.W.findIn K (.ref Y_Two) "__class__" = some (some (.builtin "object.__class__"))) (hnTwo : PySem.W.specialIn K (.builtin "object.__class__") "__get__" = some (some (.builtin "getset_descriptor.__get__"))) (htTwo : PySem.W.takesIn K (.builtin "object.__class__") = some true) (hmTwo : PySem.W.mroIn K Y_Two (.type "object") = some true)
    (f_sign : PySem.W.findIn K (.ref Y_Two) "sign" = some none)
    (f_left : PySem.W.findIn K (.ref Y_Two) "left" = some none)
    (f_right : PySem.W.findIn K (.ref Y_Two) "right" = some none)
    (gYPower : PySem.W.nsIn K mainGlobals "Power" = some (some (.ref Y_Power)))
    (pgPower : PySem.W.plainGet K Y_Power Str.empty = true) (hdPower : PySem.W.hasDictIn K Y_Power = true) (poPower : PySem.W.plainOver K Y_Power = true) (saPower : PySem.W.findIn K (.ref Y_Power) "__setattr__" = some (some (.builtin "object.__setattr__"))) (mkPower : PySem.W.makesIn K Y_Power = true) (kcPower : PySem.W.keepIn K (.ref Y_Power) = true)
    (haPower : PySem.W.findIn K (.ref Y_Power) "__class__" = some (some (.builtin "object.__class__"))) (hnPower : PySem.W.specialIn K (.builtin "object.__class__") "__get__" = some (some (.builtin "getset_descriptor.__get__"))) (htPower : PySem.W.takesIn K (.builtin "object.__class__") = some true) (hmPower : PySem.W.mroIn K Y_Power (.type "object") = some true)
    (f_base : PySem.W.findIn K (.ref Y_Power) "base" = some none)
    (f_exponent : PySem.W.findIn K (.ref Y_Power) "exponent" = some none)
    (gYLess : PySem.W.nsIn K mainGlobals "Less" = some (some (.ref Y_Less)))
    (pgLess : PySem.W.plainGet K Y_Less Str.empty = true) (hdLess : PySem.W.hasDictIn K Y_Less = true) (poLess : PySem.W.plainOver K Y_Less = true) (saLess : PySem.W.findIn K (.ref Y_Less) "__setattr__" = some (some (.builtin "object.__setattr__"))) (mkLess : PySem.W.makesIn K Y_Less = true) (kcLess : PySem.W.keepIn K (.ref Y_Less) = true)
    (haLess : PySem.W.findIn K (.ref Y_Less) "__class__" = some (some (.builtin "object.__class__"))) (hnLess : PySem.W.specialIn K (.builtin "object.__class__") "__get__" = some (some (.builtin "getset_descriptor.__get__"))) (htLess : PySem.W.takesIn K (.builtin "object.__class__") = some true) (hmLess : PySem.W.mroIn K Y_Less (.type "object") = some true)
    (f_inner : PySem.W.findIn K (.ref Y_Less) "inner" = some none)
    (iyTwo : PySem.W.isClsIn K Y_Two = true) (tyTwo : PySem.W.typeIn K (.ref Y_Two) = some (.type "type"))
    (suNumberTwo : PySem.W.subIn K (.ref Y_Number) (.ref Y_Two) = some false) (neNumberTwo : (Value.ref Y_Number == Value.ref Y_Two) = false)
    (suNameTwo : PySem.W.subIn K (.ref Y_Name) (.ref Y_Two) = some false) (neNameTwo : (Value.ref Y_Name == Value.ref Y_Two) = false)
    (suPowerTwo : PySem.W.subIn K (.ref Y_Power) (.ref Y_Two) = some false) (nePowerTwo : (Value.ref Y_Power == Value.ref Y_Two) = false)
    (suLessTwo : PySem.W.subIn K (.ref Y_Less) (.ref Y_Two) = some false) (neLessTwo : (Value.ref Y_Less == Value.ref Y_Two) = false)
    (iyLess : PySem.W.isClsIn K Y_Less = true) (tyLess : PySem.W.typeIn K (.ref Y_Less) = some (.type "type"))
    (suNumberLess : PySem.W.subIn K (.ref Y_Number) (.ref Y_Less) = some false) (neNumberLess : (Value.ref Y_Number == Value.ref Y_Less) = false)
    (suNameLess : PySem.W.subIn K (.ref Y_Name) (.ref Y_Less) = some false) (neNameLess : (Value.ref Y_Name == Value.ref Y_Less) = false)
    (suTwoLess : PySem.W.subIn K (.ref Y_Two) (.ref Y_Less) = some false) (neTwoLess : (Value.ref Y_Two == Value.ref Y_Less) = false)
    (suPowerLess : PySem.W.subIn K (.ref Y_Power) (.ref Y_Less) = some false) (nePowerLess : (Value.ref Y_Power == Value.ref Y_Less) = false)
    {C_HouseError C_NoNumber C_NoRow C_NoValue C_NoText C_NoRoot C_TooFar C_NoLine : Addr}
    (gHouseError : PySem.W.nsIn K mainGlobals "HouseError" = some (some (.ref C_HouseError)))
    (gNoNumber : PySem.W.nsIn K mainGlobals "NoNumber" = some (some (.ref C_NoNumber)))
    (gNoRow : PySem.W.nsIn K mainGlobals "NoRow" = some (some (.ref C_NoRow)))
    (gNoValue : PySem.W.nsIn K mainGlobals "NoValue" = some (some (.ref C_NoValue)))
    (gNoText : PySem.W.nsIn K mainGlobals "NoText" = some (some (.ref C_NoText)))
    (gNoRoot : PySem.W.nsIn K mainGlobals "NoRoot" = some (some (.ref C_NoRoot)))
    (gTooFar : PySem.W.nsIn K mainGlobals "TooFar" = some (some (.ref C_TooFar)))
    (gNoLine : PySem.W.nsIn K mainGlobals "NoLine" = some (some (.ref C_NoLine)))
    (xNoNumber : PySem.W.excIn K C_NoNumber [.type "ValueError", .type "Exception", .type "BaseException", .type "object"] "ValueError.__new__" = true) (kNoNumber : PySem.W.keepIn K (.ref C_NoNumber) = true) (sNoNumber : PySem.W.subIn K (.ref C_NoNumber) (.type "BaseException") = some true) (tNoNumber : PySem.W.typeIn K (.ref C_NoNumber) = some (.type "type"))
    (eaNoNumber : PySem.W.findIn K (.ref C_NoNumber) "__getattribute__" = some (some (.builtin "BaseException.__getattribute__"))) (ebNoNumber : PySem.W.findIn K (.ref C_NoNumber) "__getattr__" = some none) (edNoNumber : PySem.W.hasDictIn K C_NoNumber = true) (eeNoNumber : PySem.W.findIn K (.ref C_NoNumber) "__class__" = some (some (.builtin "object.__class__"))) (efNoNumber : PySem.W.specialIn K (.builtin "object.__class__") "__get__" = some (some (.builtin "getset_descriptor.__get__"))) (egNoNumber : PySem.W.takesIn K (.builtin "object.__class__") = some true) (ehNoNumber : PySem.W.mroIn K C_NoNumber (.type "object") = some true)
    (ejNoNumber : PySem.W.subIn K (.ref C_NoNumber) (.type "ValueError") = some true)
    (u0NoNumber : PySem.W.subIn K (.ref C_NoNumber) (.ref C_HouseError) = some true) (v0NoNumber : (Value.ref C_NoNumber == Value.ref C_HouseError) = false)
    (u2NoNumber : PySem.W.subIn K (.ref C_NoNumber) (.ref C_NoRow) = some false) (v2NoNumber : (Value.ref C_NoNumber == Value.ref C_NoRow) = false)
    (u3NoNumber : PySem.W.subIn K (.ref C_NoNumber) (.ref C_NoValue) = some false) (v3NoNumber : (Value.ref C_NoNumber == Value.ref C_NoValue) = false)
    (u4NoNumber : PySem.W.subIn K (.ref C_NoNumber) (.ref C_NoText) = some false) (v4NoNumber : (Value.ref C_NoNumber == Value.ref C_NoText) = false)
    (u5NoNumber : PySem.W.subIn K (.ref C_NoNumber) (.ref C_NoRoot) = some false) (v5NoNumber : (Value.ref C_NoNumber == Value.ref C_NoRoot) = false)
    (u6NoNumber : PySem.W.subIn K (.ref C_NoNumber) (.ref C_TooFar) = some false) (v6NoNumber : (Value.ref C_NoNumber == Value.ref C_TooFar) = false)
    (u7NoNumber : PySem.W.subIn K (.ref C_NoNumber) (.ref C_NoLine) = some false) (v7NoNumber : (Value.ref C_NoNumber == Value.ref C_NoLine) = false)
    (xNoText : PySem.W.excIn K C_NoText [.type "ValueError", .type "Exception", .type "BaseException", .type "object"] "ValueError.__new__" = true) (kNoText : PySem.W.keepIn K (.ref C_NoText) = true) (sNoText : PySem.W.subIn K (.ref C_NoText) (.type "BaseException") = some true) (tNoText : PySem.W.typeIn K (.ref C_NoText) = some (.type "type"))
    (eaNoText : PySem.W.findIn K (.ref C_NoText) "__getattribute__" = some (some (.builtin "BaseException.__getattribute__"))) (ebNoText : PySem.W.findIn K (.ref C_NoText) "__getattr__" = some none) (edNoText : PySem.W.hasDictIn K C_NoText = true) (eeNoText : PySem.W.findIn K (.ref C_NoText) "__class__" = some (some (.builtin "object.__class__"))) (efNoText : PySem.W.specialIn K (.builtin "object.__class__") "__get__" = some (some (.builtin "getset_descriptor.__get__"))) (egNoText : PySem.W.takesIn K (.builtin "object.__class__") = some true) (ehNoText : PySem.W.mroIn K C_NoText (.type "object") = some true)
    (ejNoText : PySem.W.subIn K (.ref C_NoText) (.type "ValueError") = some true)
    (u0NoText : PySem.W.subIn K (.ref C_NoText) (.ref C_HouseError) = some true) (v0NoText : (Value.ref C_NoText == Value.ref C_HouseError) = false)
    (u1NoText : PySem.W.subIn K (.ref C_NoText) (.ref C_NoNumber) = some false) (v1NoText : (Value.ref C_NoText == Value.ref C_NoNumber) = false)
    (u2NoText : PySem.W.subIn K (.ref C_NoText) (.ref C_NoRow) = some false) (v2NoText : (Value.ref C_NoText == Value.ref C_NoRow) = false)
    (u3NoText : PySem.W.subIn K (.ref C_NoText) (.ref C_NoValue) = some false) (v3NoText : (Value.ref C_NoText == Value.ref C_NoValue) = false)
    (u5NoText : PySem.W.subIn K (.ref C_NoText) (.ref C_NoRoot) = some false) (v5NoText : (Value.ref C_NoText == Value.ref C_NoRoot) = false)
    (u6NoText : PySem.W.subIn K (.ref C_NoText) (.ref C_TooFar) = some false) (v6NoText : (Value.ref C_NoText == Value.ref C_TooFar) = false)
    (u7NoText : PySem.W.subIn K (.ref C_NoText) (.ref C_NoLine) = some false) (v7NoText : (Value.ref C_NoText == Value.ref C_NoLine) = false)
    (xNoValue : PySem.W.excIn K C_NoValue [.type "ValueError", .type "Exception", .type "BaseException", .type "object"] "ValueError.__new__" = true) (kNoValue : PySem.W.keepIn K (.ref C_NoValue) = true) (sNoValue : PySem.W.subIn K (.ref C_NoValue) (.type "BaseException") = some true) (tNoValue : PySem.W.typeIn K (.ref C_NoValue) = some (.type "type"))
    (eaNoValue : PySem.W.findIn K (.ref C_NoValue) "__getattribute__" = some (some (.builtin "BaseException.__getattribute__"))) (ebNoValue : PySem.W.findIn K (.ref C_NoValue) "__getattr__" = some none) (edNoValue : PySem.W.hasDictIn K C_NoValue = true) (eeNoValue : PySem.W.findIn K (.ref C_NoValue) "__class__" = some (some (.builtin "object.__class__"))) (efNoValue : PySem.W.specialIn K (.builtin "object.__class__") "__get__" = some (some (.builtin "getset_descriptor.__get__"))) (egNoValue : PySem.W.takesIn K (.builtin "object.__class__") = some true) (ehNoValue : PySem.W.mroIn K C_NoValue (.type "object") = some true)
    (ejNoValue : PySem.W.subIn K (.ref C_NoValue) (.type "ValueError") = some true)
    (u0NoValue : PySem.W.subIn K (.ref C_NoValue) (.ref C_HouseError) = some true) (v0NoValue : (Value.ref C_NoValue == Value.ref C_HouseError) = false)
    (u1NoValue : PySem.W.subIn K (.ref C_NoValue) (.ref C_NoNumber) = some false) (v1NoValue : (Value.ref C_NoValue == Value.ref C_NoNumber) = false)
    (u2NoValue : PySem.W.subIn K (.ref C_NoValue) (.ref C_NoRow) = some false) (v2NoValue : (Value.ref C_NoValue == Value.ref C_NoRow) = false)
    (u4NoValue : PySem.W.subIn K (.ref C_NoValue) (.ref C_NoText) = some false) (v4NoValue : (Value.ref C_NoValue == Value.ref C_NoText) = false)
    (u5NoValue : PySem.W.subIn K (.ref C_NoValue) (.ref C_NoRoot) = some false) (v5NoValue : (Value.ref C_NoValue == Value.ref C_NoRoot) = false)
    (u6NoValue : PySem.W.subIn K (.ref C_NoValue) (.ref C_TooFar) = some false) (v6NoValue : (Value.ref C_NoValue == Value.ref C_TooFar) = false)
    (u7NoValue : PySem.W.subIn K (.ref C_NoValue) (.ref C_NoLine) = some false) (v7NoValue : (Value.ref C_NoValue == Value.ref C_NoLine) = false)
    (icHouseError : PySem.W.isClsIn K C_HouseError = true)
    (tHouseError : PySem.W.typeIn K (.ref C_HouseError) = some (.type "type"))
    (icNoNumber : PySem.W.isClsIn K C_NoNumber = true)
    (icNoRow : PySem.W.isClsIn K C_NoRow = true)
    (tNoRow : PySem.W.typeIn K (.ref C_NoRow) = some (.type "type"))
    (icNoValue : PySem.W.isClsIn K C_NoValue = true)
    (icNoText : PySem.W.isClsIn K C_NoText = true)
    (icNoRoot : PySem.W.isClsIn K C_NoRoot = true)
    (tNoRoot : PySem.W.typeIn K (.ref C_NoRoot) = some (.type "type"))
    (icTooFar : PySem.W.isClsIn K C_TooFar = true)
    (tTooFar : PySem.W.typeIn K (.ref C_TooFar) = some (.type "type"))
    (icNoLine : PySem.W.isClsIn K C_NoLine = true)
    (tNoLine : PySem.W.typeIn K (.ref C_NoLine) = some (.type "type"))
    (sHouseError : PySem.W.subIn K (.ref C_HouseError) (.type "BaseException") = some true)
    {tkDEEP : Tok} (qDEEP : PySem.W.nsIn K mainGlobals "DEEP" = some (some (.int 30 tkDEEP)))
    {tkFIGURES : Tok} (qFIGURES : PySem.W.nsIn K mainGlobals "FIGURES" = some (some (.str "0123456789" tkFIGURES)))
    {tkLETTERS : Tok} (qLETTERS : PySem.W.nsIn K mainGlobals "LETTERS" = some (some (.str "abcdefghijklmnopqrstuvwxyz" tkLETTERS)))
    {tkSIGNS : Tok} (qSIGNS : PySem.W.nsIn K mainGlobals "SIGNS" = some (some (.int 1000 tkSIGNS)))
    {K_ONE : Addr} {odONE : Option Addr} {tONE uONE nONE : Nat} {slONE : Array (Option Value)} (gONE : PySem.W.nsIn K mainGlobals "ONE" = some (some (.ref K_ONE))) (lONE : K.lookup K_ONE = some ⟨.type "tuple", odONE, .seq #[.int 1 tONE, .int 1 uONE] nONE, slONE⟩)
    (z0 : PySem.W.nsIn K mainGlobals "ValueError" = some none)
    (z1 : PySem.W.nsIn K mainGlobals "abs" = some none)
    (z2 : PySem.W.nsIn K mainGlobals "all" = some none)
    (z3 : PySem.W.nsIn K mainGlobals "bool" = some none)
    (z4 : PySem.W.nsIn K mainGlobals "dict" = some none)
    (z5 : PySem.W.nsIn K mainGlobals "int" = some none)
    (z6 : PySem.W.nsIn K mainGlobals "isinstance" = some none)
    (z7 : PySem.W.nsIn K mainGlobals "len" = some none)
    (z8 : PySem.W.nsIn K mainGlobals "max" = some none)
    (z9 : PySem.W.nsIn K mainGlobals "range" = some none)
    (z10 : PySem.W.nsIn K mainGlobals "str" = some none)
    (z11 : PySem.W.nsIn K mainGlobals "tuple" = some none)
    : ∃ fd : FuncData, (∀ (s : Shared) (v : Value), BindsTo s fd ⟨[v], []⟩ [("_law_script", v)]) ∧ ∀ base : Heap, K.In base → base.Ns mainGlobals mg → FnOk l.prog w K mg base CX0 221 fa fd ["_law_script"] (sp_law K) := by
  have e := hfa.symm.trans (PySem.W.mg_of X G a0)
  cases e
  have F0 := fun_mk (st := s_law) l0 c0 k0
  have b0 := F0.binds (ps := ["_law_script"]) fun _ _ _ _ _ _ us hl => match us, hl with | [_], _ => rfl
  have F1 := fun_mk (st := s_law_numbers) l1 c1 k1
  have b1 := F1.binds (ps := ["_law_script", "_law_k", "_law_many"]) fun _ _ _ _ _ _ us hl => match us, hl with | [_, _, _], _ => rfl
  have F2 := fun_mk (st := s_law_names) l2 c2 k2
  have b2 := F2.binds (ps := ["_law_numbers_here"]) fun _ _ _ _ _ _ us hl => match us, hl with | [_], _ => rfl
  have F3 := fun_mk (st := s_law_grown) l3 c3 k3
  have b3 := F3.binds (ps := ["_law_numbers_here", "_law_names_here", "_law_most"]) fun _ _ _ _ _ _ us hl => match us, hl with | [_, _, _], _ => rfl
  have F4 := fun_mk (st := s_law_step) l4 c4 k4
  have b4 := F4.binds (ps := ["_law_stack", "_law_number", "_law_names_here", "_law_most"]) fun _ _ _ _ _ _ us hl => match us, hl with | [_, _, _, _], _ => rfl
  have F5 := fun_mk (st := s_law_joined) l5 c5 k5
  have b5 := F5.binds (ps := ["_law_sign", "_law_one", "_law_other"]) fun _ _ _ _ _ _ us hl => match us, hl with | [_, _, _], _ => rfl
  have F6 := fun_mk (st := s_law_fits) l6 c6 k6
  have b6 := F6.binds (ps := ["_law_part", "_law_most"]) fun _ _ _ _ _ _ us hl => match us, hl with | [_, _], _ => rfl
  have F7 := fun_mk (st := s_law_leaf) l7 c7 k7
  have b7 := F7.binds (ps := ["_law_number", "_law_names_here"]) fun _ _ _ _ _ _ us hl => match us, hl with | [_, _], _ => rfl
  have F8 := fun_mk (st := s_read) l8 c8 k8
  have b8 := F8.binds (ps := ["text"]) fun _ _ _ _ _ _ us hl => match us, hl with | [_], _ => rfl
  have F9 := fun_mk (st := s_sum_at) l9 c9 k9
  have b9 := F9.binds (ps := ["text", "at", "deep"]) fun _ _ _ _ _ _ us hl => match us, hl with | [_, _, _], _ => rfl
  have F10 := fun_mk (st := s_row_at) l10 c10 k10
  have b10 := F10.binds (ps := ["text", "at", "deep", "signs", "reader"]) fun _ _ _ _ _ _ us hl => match us, hl with | [_, _, _, _, _], _ => rfl
  have F11 := fun_mk (st := s_Two_init) l11 c11 k11
  have b11 := F11.binds (ps := ["self", "sign", "left", "right"]) fun _ _ _ _ _ _ us hl => match us, hl with | [_, _, _, _], _ => rfl
  have F12 := fun_mk (st := s_term_at) l12 c12 k12
  have b12 := F12.binds (ps := ["text", "at", "deep"]) fun _ _ _ _ _ _ us hl => match us, hl with | [_, _, _], _ => rfl
  have F13 := fun_mk (st := s_factor_at) l13 c13 k13
  have b13 := F13.binds (ps := ["text", "at", "deep"]) fun _ _ _ _ _ _ us hl => match us, hl with | [_, _, _], _ => rfl
  have F14 := fun_mk (st := s_power_at) l14 c14 k14
  have b14 := F14.binds (ps := ["text", "at", "deep"]) fun _ _ _ _ _ _ us hl => match us, hl with | [_, _, _], _ => rfl
  have F15 := fun_mk (st := s_atom_at) l15 c15 k15
  have b15 := F15.binds (ps := ["text", "at", "deep"]) fun _ _ _ _ _ _ us hl => match us, hl with | [_, _, _], _ => rfl
  have F16 := fun_mk (st := s_whole_at) l16 c16 k16
  have b16 := F16.binds (ps := ["text", "at", "most"]) fun _ _ _ _ _ _ us hl => match us, hl with | [_, _, _], _ => rfl
  have F17 := fun_mk (st := s_run_of) l17 c17 k17
  have b17 := F17.binds (ps := ["text", "at", "signs", "most"]) fun _ _ _ _ _ _ us hl => match us, hl with | [_, _, _, _], _ => rfl
  have F18 := fun_mk (st := s_Number_init) l18 c18 k18
  have b18 := F18.binds (ps := ["self", "whole"]) fun _ _ _ _ _ _ us hl => match us, hl with | [_, _], _ => rfl
  have F19 := fun_mk (st := s_Name_init) l19 c19 k19
  have b19 := F19.binds (ps := ["self", "word"]) fun _ _ _ _ _ _ us hl => match us, hl with | [_, _], _ => rfl
  have F20 := fun_mk (st := s_Power_init) l20 c20 k20
  have b20 := F20.binds (ps := ["self", "base", "exponent"]) fun _ _ _ _ _ _ us hl => match us, hl with | [_, _, _], _ => rfl
  have F21 := fun_mk (st := s_Less_init) l21 c21 k21
  have b21 := F21.binds (ps := ["self", "inner"]) fun _ _ _ _ _ _ us hl => match us, hl with | [_, _], _ => rfl
  have F22 := fun_mk (st := s_law_text) l22 c22 k22
  have b22 := F22.binds (ps := ["_law_tree"]) fun _ _ _ _ _ _ us hl => match us, hl with | [_], _ => rfl
  have F23 := fun_mk (st := s_law_inner) l23 c23 k23
  have b23 := F23.binds (ps := ["_law_tree", "_law_least"]) fun _ _ _ _ _ _ us hl => match us, hl with | [_, _], _ => rfl
  have F24 := fun_mk (st := s_law_binds) l24 c24 k24
  have b24 := F24.binds (ps := ["_law_tree"]) fun _ _ _ _ _ _ us hl => match us, hl with | [_], _ => rfl
  have F25 := fun_mk (st := s_law_point) l25 c25 k25
  have b25 := F25.binds (ps := ["_law_numbers_here", "_law_names_here"]) fun _ _ _ _ _ _ us hl => match us, hl with | [_, _], _ => rfl
  have F26 := fun_mk (st := s_law_lowest) l26 c26 k26
  have b26 := F26.binds (ps := ["_law_top", "_law_bottom"]) fun _ _ _ _ _ _ us hl => match us, hl with | [_, _], _ => rfl
  have F27 := fun_mk (st := s_law_share) l27 c27 k27
  have b27 := F27.binds (ps := ["_law_one", "_law_other"]) fun _ _ _ _ _ _ us hl => match us, hl with | [_, _], _ => rfl
  have F28 := fun_mk (st := s_law_right) l28 c28 k28
  have b28 := F28.binds (ps := ["_law_expression", "_law_tree", "_law_point_here"]) fun _ _ _ _ _ _ us hl => match us, hl with | [_, _, _], _ => rfl
  have F29 := fun_mk (st := s_law_value) l29 c29 k29
  have b29 := F29.binds (ps := ["_law_tree", "_law_point_here"]) fun _ _ _ _ _ _ us hl => match us, hl with | [_, _], _ => rfl
  have F30 := fun_mk (st := s_law_asked) l30 c30 k30
  have b30 := F30.binds (ps := ["_law_expression", "_law_point_here"]) fun _ _ _ _ _ _ us hl => match us, hl with | [_, _], _ => rfl
  have F31 := fun_mk (st := s_Number_value) l31 c31 k31
  have b31 := F31.binds (ps := ["self", "point"]) fun _ _ _ _ _ _ us hl => match us, hl with | [_, _], _ => rfl
  have F32 := fun_mk (st := s_Name_value) l32 c32 k32
  have b32 := F32.binds (ps := ["self", "point"]) fun _ _ _ _ _ _ us hl => match us, hl with | [_, _], _ => rfl
  have F33 := fun_mk (st := s_Two_value) l33 c33 k33
  have b33 := F33.binds (ps := ["self", "point"]) fun _ _ _ _ _ _ us hl => match us, hl with | [_, _], _ => rfl
  have F34 := fun_mk (st := s_Two_spine) l34 c34 k34
  have b34 := F34.binds (ps := ["self"]) fun _ _ _ _ _ _ us hl => match us, hl with | [_], _ => rfl
  have F35 := fun_mk (st := s_put_together) l35 c35 k35
  have b35 := F35.binds (ps := ["sign", "one", "other"]) fun _ _ _ _ _ _ us hl => match us, hl with | [_, _, _], _ => rfl
  have F36 := fun_mk (st := s_plus) l36 c36 k36
  have b36 := F36.binds (ps := ["one", "other"]) fun _ _ _ _ _ _ us hl => match us, hl with | [_, _], _ => rfl
  have F37 := fun_mk (st := s_fraction) l37 c37 k37
  have b37 := F37.binds (ps := ["top", "bottom"]) fun _ _ _ _ _ _ us hl => match us, hl with | [_, _], _ => rfl
  have F38 := fun_mk (st := s_divisor) l38 c38 k38
  have b38 := F38.binds (ps := ["one", "other"]) fun _ _ _ _ _ _ us hl => match us, hl with | [_, _], _ => rfl
  have F39 := fun_mk (st := s_minus) l39 c39 k39
  have b39 := F39.binds (ps := ["one", "other"]) fun _ _ _ _ _ _ us hl => match us, hl with | [_, _], _ => rfl
  have F40 := fun_mk (st := s_times) l40 c40 k40
  have b40 := F40.binds (ps := ["one", "other"]) fun _ _ _ _ _ _ us hl => match us, hl with | [_, _], _ => rfl
  have F41 := fun_mk (st := s_over) l41 c41 k41
  have b41 := F41.binds (ps := ["one", "other"]) fun _ _ _ _ _ _ us hl => match us, hl with | [_, _], _ => rfl
  have F42 := fun_mk (st := s_Power_value) l42 c42 k42
  have b42 := F42.binds (ps := ["self", "point"]) fun _ _ _ _ _ _ us hl => match us, hl with | [_, _], _ => rfl
  have F43 := fun_mk (st := s_to_power) l43 c43 k43
  have b43 := F43.binds (ps := ["number", "exponent"]) fun _ _ _ _ _ _ us hl => match us, hl with | [_, _], _ => rfl
  have F44 := fun_mk (st := s_Less_value) l44 c44 k44
  have b44 := F44.binds (ps := ["self", "point"]) fun _ _ _ _ _ _ us hl => match us, hl with | [_, _], _ => rfl
  have F45 := fun_mk (st := s_Less_core) l45 c45 k45
  have b45 := F45.binds (ps := ["self"]) fun _ _ _ _ _ _ us hl => match us, hl with | [_], _ => rfl
  have F46 := fun_mk (st := s_law_kinds) l46 c46 k46
  have b46 := F46.binds (ps := ["_law_caught"]) fun _ _ _ _ _ _ us hl => match us, hl with | [_], _ => rfl
  have F47 := fun_mk (st := s_law_is) l47 c47 k47
  have b47 := F47.binds (ps := ["_law_found", "_law_due"]) fun _ _ _ _ _ _ us hl => match us, hl with | [_, _], _ => rfl
  have ckNumber : ClsK K Y_Number := ⟨⟨pgNumber, hdNumber, poNumber, saNumber⟩, haNumber, hnNumber, htNumber, hmNumber⟩
  have ckName : ClsK K Y_Name := ⟨⟨pgName, hdName, poName, saName⟩, haName, hnName, htName, hmName⟩
  have ckTwo : ClsK K Y_Two := ⟨⟨pgTwo, hdTwo, poTwo, saTwo⟩, haTwo, hnTwo, htTwo, hmTwo⟩
  have ckPower : ClsK K Y_Power := ⟨⟨pgPower, hdPower, poPower, saPower⟩, haPower, hnPower, htPower, hmPower⟩
  have ckLess : ClsK K Y_Less := ⟨⟨pgLess, hdLess, poLess, saLess⟩, haLess, hnLess, htLess, hmLess⟩
  let Yv : ExC := ⟨Y_Number, Y_Name, Y_Two, Y_Power, Y_Less⟩
  have xk : ExK K Yv := {
    cNumber := ckNumber, cName := ckName, cTwo := ckTwo, cPower := ckPower, cLess := ckLess, f_whole := f_whole, f_word := f_word, f_sign := f_sign, f_left := f_left, f_right := f_right, f_base := f_base, f_exponent := f_exponent, f_inner := f_inner,
    i2 := fun e => by cases e with
      | num => exact kit_ref iyTwo tyTwo suNumberTwo neNumberTwo
      | name => exact kit_ref iyTwo tyTwo suNameTwo neNameTwo
      | two => exact kit_self
      | pow => exact kit_ref iyTwo tyTwo suPowerTwo nePowerTwo
      | less => exact kit_ref iyTwo tyTwo suLessTwo neLessTwo
    i4 := fun e => by cases e with
      | num => exact kit_ref iyLess tyLess suNumberLess neNumberLess
      | name => exact kit_ref iyLess tyLess suNameLess neNameLess
      | two => exact kit_ref iyLess tyLess suTwoLess neTwoLess
      | pow => exact kit_ref iyLess tyLess suPowerLess nePowerLess
      | less => exact kit_self
  }
  let T : Txt K mg := {
    a_law := _,
    d_law := _,
    F_law := F0,
    b_law := b0,
    g_law := PySem.W.mg_of X G a0,
    a_law_numbers := _,
    d_law_numbers := _,
    F_law_numbers := F1,
    b_law_numbers := b1,
    g_law_numbers := PySem.W.mg_of X G a1,
    a_law_names := _,
    d_law_names := _,
    F_law_names := F2,
    b_law_names := b2,
    g_law_names := PySem.W.mg_of X G a2,
    a_law_grown := _,
    d_law_grown := _,
    F_law_grown := F3,
    b_law_grown := b3,
    g_law_grown := PySem.W.mg_of X G a3,
    a_law_step := _,
    d_law_step := _,
    F_law_step := F4,
    b_law_step := b4,
    g_law_step := PySem.W.mg_of X G a4,
    a_law_joined := _,
    d_law_joined := _,
    F_law_joined := F5,
    b_law_joined := b5,
    g_law_joined := PySem.W.mg_of X G a5,
    a_law_fits := _,
    d_law_fits := _,
    F_law_fits := F6,
    b_law_fits := b6,
    g_law_fits := PySem.W.mg_of X G a6,
    a_law_leaf := _,
    d_law_leaf := _,
    F_law_leaf := F7,
    b_law_leaf := b7,
    g_law_leaf := PySem.W.mg_of X G a7,
    a_read := _,
    d_read := _,
    F_read := F8,
    b_read := b8,
    g_read := PySem.W.mg_of X G a8,
    a_sum_at := _,
    d_sum_at := _,
    F_sum_at := F9,
    b_sum_at := b9,
    g_sum_at := PySem.W.mg_of X G a9,
    a_row_at := _,
    d_row_at := _,
    F_row_at := F10,
    b_row_at := b10,
    g_row_at := PySem.W.mg_of X G a10,
    a_Two_init := _,
    d_Two_init := _,
    F_Two_init := F11,
    b_Two_init := b11,
    mk_Two := ⟨mkTwo, a11Two, i11, kcTwo⟩,
    a_term_at := _,
    d_term_at := _,
    F_term_at := F12,
    b_term_at := b12,
    g_term_at := PySem.W.mg_of X G a12,
    a_factor_at := _,
    d_factor_at := _,
    F_factor_at := F13,
    b_factor_at := b13,
    g_factor_at := PySem.W.mg_of X G a13,
    a_power_at := _,
    d_power_at := _,
    F_power_at := F14,
    b_power_at := b14,
    g_power_at := PySem.W.mg_of X G a14,
    a_atom_at := _,
    d_atom_at := _,
    F_atom_at := F15,
    b_atom_at := b15,
    g_atom_at := PySem.W.mg_of X G a15,
    a_whole_at := _,
    d_whole_at := _,
    F_whole_at := F16,
    b_whole_at := b16,
    g_whole_at := PySem.W.mg_of X G a16,
    a_run_of := _,
    d_run_of := _,
    F_run_of := F17,
    b_run_of := b17,
    g_run_of := PySem.W.mg_of X G a17,
    a_Number_init := _,
    d_Number_init := _,
    F_Number_init := F18,
    b_Number_init := b18,
    mk_Number := ⟨mkNumber, a18Number, i18, kcNumber⟩,
    a_Name_init := _,
    d_Name_init := _,
    F_Name_init := F19,
    b_Name_init := b19,
    mk_Name := ⟨mkName, a19Name, i19, kcName⟩,
    a_Power_init := _,
    d_Power_init := _,
    F_Power_init := F20,
    b_Power_init := b20,
    mk_Power := ⟨mkPower, a20Power, i20, kcPower⟩,
    a_Less_init := _,
    d_Less_init := _,
    F_Less_init := F21,
    b_Less_init := b21,
    mk_Less := ⟨mkLess, a21Less, i21, kcLess⟩,
    a_law_text := _,
    d_law_text := _,
    F_law_text := F22,
    b_law_text := b22,
    g_law_text := PySem.W.mg_of X G a22,
    a_law_inner := _,
    d_law_inner := _,
    F_law_inner := F23,
    b_law_inner := b23,
    g_law_inner := PySem.W.mg_of X G a23,
    a_law_binds := _,
    d_law_binds := _,
    F_law_binds := F24,
    b_law_binds := b24,
    g_law_binds := PySem.W.mg_of X G a24,
    a_law_point := _,
    d_law_point := _,
    F_law_point := F25,
    b_law_point := b25,
    g_law_point := PySem.W.mg_of X G a25,
    a_law_lowest := _,
    d_law_lowest := _,
    F_law_lowest := F26,
    b_law_lowest := b26,
    g_law_lowest := PySem.W.mg_of X G a26,
    a_law_share := _,
    d_law_share := _,
    F_law_share := F27,
    b_law_share := b27,
    g_law_share := PySem.W.mg_of X G a27,
    a_law_right := _,
    d_law_right := _,
    F_law_right := F28,
    b_law_right := b28,
    g_law_right := PySem.W.mg_of X G a28,
    a_law_value := _,
    d_law_value := _,
    F_law_value := F29,
    b_law_value := b29,
    g_law_value := PySem.W.mg_of X G a29,
    a_law_asked := _,
    d_law_asked := _,
    F_law_asked := F30,
    b_law_asked := b30,
    g_law_asked := PySem.W.mg_of X G a30,
    a_Number_value := _,
    d_Number_value := _,
    F_Number_value := F31,
    b_Number_value := b31,
    m_Number_value := ⟨a31Number, i31, k31⟩,
    a_Name_value := _,
    d_Name_value := _,
    F_Name_value := F32,
    b_Name_value := b32,
    m_Name_value := ⟨a32Name, i32, k32⟩,
    a_Two_value := _,
    d_Two_value := _,
    F_Two_value := F33,
    b_Two_value := b33,
    m_Two_value := ⟨a33Two, i33, k33⟩,
    a_Two_spine := _,
    d_Two_spine := _,
    F_Two_spine := F34,
    b_Two_spine := b34,
    m_Two_spine := ⟨a34Two, i34, k34⟩,
    a_put_together := _,
    d_put_together := _,
    F_put_together := F35,
    b_put_together := b35,
    g_put_together := PySem.W.mg_of X G a35,
    a_plus := _,
    d_plus := _,
    F_plus := F36,
    b_plus := b36,
    g_plus := PySem.W.mg_of X G a36,
    a_fraction := _,
    d_fraction := _,
    F_fraction := F37,
    b_fraction := b37,
    g_fraction := PySem.W.mg_of X G a37,
    a_divisor := _,
    d_divisor := _,
    F_divisor := F38,
    b_divisor := b38,
    g_divisor := PySem.W.mg_of X G a38,
    a_minus := _,
    d_minus := _,
    F_minus := F39,
    b_minus := b39,
    g_minus := PySem.W.mg_of X G a39,
    a_times := _,
    d_times := _,
    F_times := F40,
    b_times := b40,
    g_times := PySem.W.mg_of X G a40,
    a_over := _,
    d_over := _,
    F_over := F41,
    b_over := b41,
    g_over := PySem.W.mg_of X G a41,
    a_Power_value := _,
    d_Power_value := _,
    F_Power_value := F42,
    b_Power_value := b42,
    m_Power_value := ⟨a42Power, i42, k42⟩,
    a_to_power := _,
    d_to_power := _,
    F_to_power := F43,
    b_to_power := b43,
    g_to_power := PySem.W.mg_of X G a43,
    a_Less_value := _,
    d_Less_value := _,
    F_Less_value := F44,
    b_Less_value := b44,
    m_Less_value := ⟨a44Less, i44, k44⟩,
    a_Less_core := _,
    d_Less_core := _,
    F_Less_core := F45,
    b_Less_core := b45,
    m_Less_core := ⟨a45Less, i45, k45⟩,
    a_law_kinds := _,
    d_law_kinds := _,
    F_law_kinds := F46,
    b_law_kinds := b46,
    g_law_kinds := PySem.W.mg_of X G a46,
    a_law_is := _,
    d_law_is := _,
    F_law_is := F47,
    b_law_is := b47,
    g_law_is := PySem.W.mg_of X G a47,
    C := ⟨C_HouseError, C_NoNumber, C_NoRow, C_NoValue, C_NoText, C_NoRoot, C_TooFar, C_NoLine⟩,
    Y := Yv,
    x := xk,
    g_Number := PySem.W.mg_of X G gYNumber,
    g_Name := PySem.W.mg_of X G gYName,
    g_Two := PySem.W.mg_of X G gYTwo,
    g_Power := PySem.W.mg_of X G gYPower,
    g_Less := PySem.W.mg_of X G gYLess,
    g_HouseError := PySem.W.mg_of X G gHouseError,
    g_NoNumber := PySem.W.mg_of X G gNoNumber,
    g_NoRow := PySem.W.mg_of X G gNoRow,
    g_NoValue := PySem.W.mg_of X G gNoValue,
    g_NoText := PySem.W.mg_of X G gNoText,
    g_NoRoot := PySem.W.mg_of X G gNoRoot,
    g_TooFar := PySem.W.mg_of X G gTooFar,
    g_NoLine := PySem.W.mg_of X G gNoLine,
    x_NoNumber := xNoNumber,
    k_NoNumber := kNoNumber,
    s_NoNumber := sNoNumber,
    t_NoNumber := tNoNumber,
    e_NoNumber := ⟨⟨eaNoNumber, ebNoNumber, sNoNumber, edNoNumber, eeNoNumber, efNoNumber, egNoNumber, ehNoNumber⟩, exm_up sHouseError icHouseError tHouseError u0NoNumber, kit_bt (by decide +kernel) ejNoNumber, kit_self, kit_ref icNoRow tNoRow u2NoNumber v2NoNumber, kit_ref icNoValue tNoValue u3NoNumber v3NoNumber, kit_ref icNoText tNoText u4NoNumber v4NoNumber, kit_ref icNoRoot tNoRoot u5NoNumber v5NoNumber, kit_ref icTooFar tTooFar u6NoNumber v6NoNumber, kit_ref icNoLine tNoLine u7NoNumber v7NoNumber⟩,
    x_NoText := xNoText,
    k_NoText := kNoText,
    s_NoText := sNoText,
    t_NoText := tNoText,
    e_NoText := ⟨⟨eaNoText, ebNoText, sNoText, edNoText, eeNoText, efNoText, egNoText, ehNoText⟩, exm_up sHouseError icHouseError tHouseError u0NoText, kit_bt (by decide +kernel) ejNoText, kit_ref icNoNumber tNoNumber u1NoText v1NoText, kit_ref icNoRow tNoRow u2NoText v2NoText, kit_ref icNoValue tNoValue u3NoText v3NoText, kit_self, kit_ref icNoRoot tNoRoot u5NoText v5NoText, kit_ref icTooFar tTooFar u6NoText v6NoText, kit_ref icNoLine tNoLine u7NoText v7NoText⟩,
    x_NoValue := xNoValue,
    k_NoValue := kNoValue,
    s_NoValue := sNoValue,
    t_NoValue := tNoValue,
    kh_NoValue := kit_ref icHouseError tHouseError u0NoValue v0NoValue,
    e_NoValue := ⟨⟨eaNoValue, ebNoValue, sNoValue, edNoValue, eeNoValue, efNoValue, egNoValue, ehNoValue⟩, exm_up sHouseError icHouseError tHouseError u0NoValue, kit_bt (by decide +kernel) ejNoValue, kit_ref icNoNumber tNoNumber u1NoValue v1NoValue, kit_ref icNoRow tNoRow u2NoValue v2NoValue, kit_self, kit_ref icNoText tNoText u4NoValue v4NoValue, kit_ref icNoRoot tNoRoot u5NoValue v5NoValue, kit_ref icTooFar tTooFar u6NoValue v6NoValue, kit_ref icNoLine tNoLine u7NoValue v7NoValue⟩,
    c_DEEP := ⟨_, PySem.W.mg_of X G qDEEP, ⟨_, rfl⟩⟩,
    c_FIGURES := ⟨_, PySem.W.mg_of X G qFIGURES, ⟨_, rfl⟩⟩,
    c_LETTERS := ⟨_, PySem.W.mg_of X G qLETTERS, ⟨_, rfl⟩⟩,
    c_SIGNS := ⟨_, PySem.W.mg_of X G qSIGNS, ⟨_, rfl⟩⟩,
    O1 := K_ONE,
    g_ONE := PySem.W.mg_of X G gONE,
    h_ONE := fun H => .inr ⟨_, _, _, lONE, rfl, rfl, sz_of (n := 2) (by decide), .cons ⟨_, rfl⟩ (.cons ⟨_, rfl⟩ .nil)⟩,
    n_ValueError := PySem.W.mg_none_of X G z0,
    n_abs := PySem.W.mg_none_of X G z1,
    n_all := PySem.W.mg_none_of X G z2,
    n_bool := PySem.W.mg_none_of X G z3,
    n_dict := PySem.W.mg_none_of X G z4,
    n_int := PySem.W.mg_none_of X G z5,
    n_isinstance := PySem.W.mg_none_of X G z6,
    n_len := PySem.W.mg_none_of X G z7,
    n_max := PySem.W.mg_none_of X G z8,
    n_range := PySem.W.mg_none_of X G z9,
    n_str := PySem.W.mg_none_of X G z10,
    n_tuple := PySem.W.mg_none_of X G z11 }
  exact ⟨_, fun s v => .of_eq rfl, fun base _ _ => ok_law T⟩
theorem walk {l : PySem.W.OpenLaw} {q : Program} {loose : List Str} {XP : (Str → Option Value) → Heap → Prop} {YP : World → Heap → Prop} {d : DefRec} {K : Params → PySem.W.Frag} (hn : l.most = some 63) (hdf : d.params.defaults = [])
    (hY : ∀ (w : World) (h : Heap), YP w h → (K w.params).In h)
    (F : ∀ (w : World) (mg : Str → Option Value) (fa : Addr) (h : Heap), (K w.params).In h → h.Ns mainGlobals mg → mg d.name = some (.ref fa) →
      ∃ fd : FuncData, (∀ (s : Shared) (u : Value), BindsTo s fd ⟨[u], []⟩ [("_law_script", u)]) ∧ ∀ base : Heap, (K w.params).In base → base.Ns mainGlobals mg → FnOk l.prog w (K w.params) mg base CX0 221 fa fd ["_law_script"] (sp_law (K w.params))) :
    PySem.W.WalkO q loose XP YP l.row.toRowW d [] (fun f vs => PySem.call f vs) :=
  L2.walk_of (n := 63) (k := 221) (x := "_law_script") (CX := fun _ => CX0) (sp := fun w => sp_law (K w.params)) hn (by decide) hdf ⟨rfl, by decide, by decide⟩ hY F (fun _ H a ns hl _ hS => ⟨H, (ns, ()), Ex.refl H, ⟨_, _, rfl, ⟨a, _, rfl, hS, reps_of_ints ns⟩, rfl⟩, hl, fun _ _ _ _ r => r⟩) fun _ _ _ _ _ z => z
end Lw.X.P19
open PySem PySem.W PyProof.Rows
set_option maxRecDepth 100000 in
set_option maxHeartbeats 0 in
theorem PySem.Challenge.cw_paperwright_k19_values_of_expressions_holds : PySem.Challenge.rw_paperwright_k19_values_of_expressions.Holds := by
  w_on; o_law; k_head; (case hw => w_witness2)
  k_fill
  refine Lw.X.P19.walk (l := PySem.Challenge.rw_paperwright_k19_values_of_expressions) rfl rfl (fun w h Y => PySem.W.kIn_of Y) ?F
  case F =>
    intro w mg fa h KX G hmg
    refine' Lw.X.P19.all_mk KX G hmg ?a0 ?l0 ?c0 ?k0 ?a1 ?l1 ?c1 ?k1 ?a2 ?l2 ?c2 ?k2 ?a3 ?l3 ?c3 ?k3 ?a4 ?l4 ?c4 ?k4 ?a5 ?l5 ?c5 ?k5 ?a6 ?l6 ?c6 ?k6 ?a7 ?l7 ?c7 ?k7 ?a8 ?l8 ?c8 ?k8 ?a9 ?l9 ?c9 ?k9 ?a10 ?l10 ?c10 ?k10 ?a11Two ?i11 ?l11 ?c11 ?k11 ?a12 ?l12 ?c12 ?k12 ?a13 ?l13 ?c13 ?k13 ?a14 ?l14 ?c14 ?k14 ?a15 ?l15 ?c15 ?k15 ?a16 ?l16 ?c16 ?k16 ?a17 ?l17 ?c17 ?k17 ?a18Number ?i18 ?l18 ?c18 ?k18 ?a19Name ?i19 ?l19 ?c19 ?k19 ?a20Power ?i20 ?l20 ?c20 ?k20 ?a21Less ?i21 ?l21 ?c21 ?k21 ?a22 ?l22 ?c22 ?k22 ?a23 ?l23 ?c23 ?k23 ?a24 ?l24 ?c24 ?k24 ?a25 ?l25 ?c25 ?k25 ?a26 ?l26 ?c26 ?k26 ?a27 ?l27 ?c27 ?k27 ?a28 ?l28 ?c28 ?k28 ?a29 ?l29 ?c29 ?k29 ?a30 ?l30 ?c30 ?k30 ?a31Number ?i31 ?l31 ?c31 ?k31 ?a32Name ?i32 ?l32 ?c32 ?k32 ?a33Two ?i33 ?l33 ?c33 ?k33 ?a34Two ?i34 ?l34 ?c34 ?k34 ?a35 ?l35 ?c35 ?k35 ?a36 ?l36 ?c36 ?k36 ?a37 ?l37 ?c37 ?k37 ?a38 ?l38 ?c38 ?k38 ?a39 ?l39 ?c39 ?k39 ?a40 ?l40 ?c40 ?k40 ?a41 ?l41 ?c41 ?k41 ?a42Power ?i42 ?l42 ?c42 ?k42 ?a43 ?l43 ?c43 ?k43 ?a44Less ?i44 ?l44 ?c44 ?k44 ?a45Less ?i45 ?l45 ?c45 ?k45 ?a46 ?l46 ?c46 ?k46 ?a47 ?l47 ?c47 ?k47 ?gYNumber ?pgNumber ?hdNumber ?poNumber ?saNumber ?mkNumber ?kcNumber ?haNumber ?hnNumber ?htNumber ?hmNumber ?f_whole ?gYName ?pgName ?hdName ?poName ?saName ?mkName ?kcName ?haName ?hnName ?htName ?hmName ?f_word ?gYTwo ?pgTwo ?hdTwo ?poTwo ?saTwo ?mkTwo ?kcTwo ?haTwo ?hnTwo ?htTwo ?hmTwo ?f_sign ?f_left ?f_right ?gYPower ?pgPower ?hdPower ?poPower ?saPower ?mkPower ?kcPower ?haPower ?hnPower ?htPower ?hmPower ?f_base ?f_exponent ?gYLess ?pgLess ?hdLess ?poLess ?saLess ?mkLess ?kcLess ?haLess ?hnLess ?htLess ?hmLess ?f_inner ?iyTwo ?tyTwo ?suNumberTwo ?neNumberTwo ?suNameTwo ?neNameTwo ?suPowerTwo ?nePowerTwo ?suLessTwo ?neLessTwo ?iyLess ?tyLess ?suNumberLess ?neNumberLess ?suNameLess ?neNameLess ?suTwoLess ?neTwoLess ?suPowerLess ?nePowerLess ?gHouseError ?gNoNumber ?gNoRow ?gNoValue ?gNoText ?gNoRoot ?gTooFar ?gNoLine ?xNoNumber ?kNoNumber ?sNoNumber ?tNoNumber ?eaNoNumber ?ebNoNumber ?edNoNumber ?eeNoNumber ?efNoNumber ?egNoNumber ?ehNoNumber ?ejNoNumber ?u0NoNumber ?v0NoNumber ?u2NoNumber ?v2NoNumber ?u3NoNumber ?v3NoNumber ?u4NoNumber ?v4NoNumber ?u5NoNumber ?v5NoNumber ?u6NoNumber ?v6NoNumber ?u7NoNumber ?v7NoNumber ?xNoText ?kNoText ?sNoText ?tNoText ?eaNoText ?ebNoText ?edNoText ?eeNoText ?efNoText ?egNoText ?ehNoText ?ejNoText ?u0NoText ?v0NoText ?u1NoText ?v1NoText ?u2NoText ?v2NoText ?u3NoText ?v3NoText ?u5NoText ?v5NoText ?u6NoText ?v6NoText ?u7NoText ?v7NoText ?xNoValue ?kNoValue ?sNoValue ?tNoValue ?eaNoValue ?ebNoValue ?edNoValue ?eeNoValue ?efNoValue ?egNoValue ?ehNoValue ?ejNoValue ?u0NoValue ?v0NoValue ?u1NoValue ?v1NoValue ?u2NoValue ?v2NoValue ?u4NoValue ?v4NoValue ?u5NoValue ?v5NoValue ?u6NoValue ?v6NoValue ?u7NoValue ?v7NoValue ?icHouseError ?tHouseError ?icNoNumber ?icNoRow ?tNoRow ?icNoValue ?icNoText ?icNoRoot ?tNoRoot ?icTooFar ?tTooFar ?icNoLine ?tNoLine ?sHouseError ?qDEEP ?qFIGURES ?qLETTERS ?qSIGNS ?gONE ?lONE ?z0 ?z1 ?z2 ?z3 ?z4 ?z5 ?z6 ?z7 ?z8 ?z9 ?z10 ?z11
    (case gYNumber => k_is)
    (case gYName => k_is)
    (case gYTwo => k_is)
    (case gYPower => k_is)
    (case gYLess => k_is)
    (case a0 => k_is)
    (case l0 => k_is)
    (case c0 => k_is)
    (case k0 => k_is)
    (case a1 => k_is)
    (case l1 => k_is)
    (case c1 => k_is)
    (case k1 => k_is)
    (case a2 => k_is)
    (case l2 => k_is)
    (case c2 => k_is)
    (case k2 => k_is)
    (case a3 => k_is)
    (case l3 => k_is)
    (case c3 => k_is)
    (case k3 => k_is)
    (case a4 => k_is)
    (case l4 => k_is)
    (case c4 => k_is)
    (case k4 => k_is)
    (case a5 => k_is)
    (case l5 => k_is)
    (case c5 => k_is)
    (case k5 => k_is)
    (case a6 => k_is)
    (case l6 => k_is)
    (case c6 => k_is)
    (case k6 => k_is)
    (case a7 => k_is)
    (case l7 => k_is)
    (case c7 => k_is)
    (case k7 => k_is)
    (case a8 => k_is)
    (case l8 => k_is)
    (case c8 => k_is)
    (case k8 => k_is)
    (case a9 => k_is)
    (case l9 => k_is)
    (case c9 => k_is)
    (case k9 => k_is)
    (case a10 => k_is)
    (case l10 => k_is)
    (case c10 => k_is)
    (case k10 => k_is)
    (case a11Two => k_is)
    (case i11 => k_is)
    (case l11 => k_is)
    (case c11 => k_is)
    (case k11 => k_is)
    (case a12 => k_is)
    (case l12 => k_is)
    (case c12 => k_is)
    (case k12 => k_is)
    (case a13 => k_is)
    (case l13 => k_is)
    (case c13 => k_is)
    (case k13 => k_is)
    (case a14 => k_is)
    (case l14 => k_is)
    (case c14 => k_is)
    (case k14 => k_is)
    (case a15 => k_is)
    (case l15 => k_is)
    (case c15 => k_is)
    (case k15 => k_is)
    (case a16 => k_is)
    (case l16 => k_is)
    (case c16 => k_is)
    (case k16 => k_is)
    (case a17 => k_is)
    (case l17 => k_is)
    (case c17 => k_is)
    (case k17 => k_is)
    (case a18Number => k_is)
    (case i18 => k_is)
    (case l18 => k_is)
    (case c18 => k_is)
    (case k18 => k_is)
    (case a19Name => k_is)
    (case i19 => k_is)
    (case l19 => k_is)
    (case c19 => k_is)
    (case k19 => k_is)
    (case a20Power => k_is)
    (case i20 => k_is)
    (case l20 => k_is)
    (case c20 => k_is)
    (case k20 => k_is)
    (case a21Less => k_is)
    (case i21 => k_is)
    (case l21 => k_is)
    (case c21 => k_is)
    (case k21 => k_is)
    (case a22 => k_is)
    (case l22 => k_is)
    (case c22 => k_is)
    (case k22 => k_is)
    (case a23 => k_is)
    (case l23 => k_is)
    (case c23 => k_is)
    (case k23 => k_is)
    (case a24 => k_is)
    (case l24 => k_is)
    (case c24 => k_is)
    (case k24 => k_is)
    (case a25 => k_is)
    (case l25 => k_is)
    (case c25 => k_is)
    (case k25 => k_is)
    (case a26 => k_is)
    (case l26 => k_is)
    (case c26 => k_is)
    (case k26 => k_is)
    (case a27 => k_is)
    (case l27 => k_is)
    (case c27 => k_is)
    (case k27 => k_is)
    (case a28 => k_is)
    (case l28 => k_is)
    (case c28 => k_is)
    (case k28 => k_is)
    (case a29 => k_is)
    (case l29 => k_is)
    (case c29 => k_is)
    (case k29 => k_is)
    (case a30 => k_is)
    (case l30 => k_is)
    (case c30 => k_is)
    (case k30 => k_is)
    (case a31Number => k_is)
    (case i31 => k_is)
    (case l31 => k_is)
    (case c31 => k_is)
    (case k31 => k_is)
    (case a32Name => k_is)
    (case i32 => k_is)
    (case l32 => k_is)
    (case c32 => k_is)
    (case k32 => k_is)
    (case a33Two => k_is)
    (case i33 => k_is)
    (case l33 => k_is)
    (case c33 => k_is)
    (case k33 => k_is)
    (case a34Two => k_is)
    (case i34 => k_is)
    (case l34 => k_is)
    (case c34 => k_is)
    (case k34 => k_is)
    (case a35 => k_is)
    (case l35 => k_is)
    (case c35 => k_is)
    (case k35 => k_is)
    (case a36 => k_is)
    (case l36 => k_is)
    (case c36 => k_is)
    (case k36 => k_is)
    (case a37 => k_is)
    (case l37 => k_is)
    (case c37 => k_is)
    (case k37 => k_is)
    (case a38 => k_is)
    (case l38 => k_is)
    (case c38 => k_is)
    (case k38 => k_is)
    (case a39 => k_is)
    (case l39 => k_is)
    (case c39 => k_is)
    (case k39 => k_is)
    (case a40 => k_is)
    (case l40 => k_is)
    (case c40 => k_is)
    (case k40 => k_is)
    (case a41 => k_is)
    (case l41 => k_is)
    (case c41 => k_is)
    (case k41 => k_is)
    (case a42Power => k_is)
    (case i42 => k_is)
    (case l42 => k_is)
    (case c42 => k_is)
    (case k42 => k_is)
    (case a43 => k_is)
    (case l43 => k_is)
    (case c43 => k_is)
    (case k43 => k_is)
    (case a44Less => k_is)
    (case i44 => k_is)
    (case l44 => k_is)
    (case c44 => k_is)
    (case k44 => k_is)
    (case a45Less => k_is)
    (case i45 => k_is)
    (case l45 => k_is)
    (case c45 => k_is)
    (case k45 => k_is)
    (case a46 => k_is)
    (case l46 => k_is)
    (case c46 => k_is)
    (case k46 => k_is)
    (case a47 => k_is)
    (case l47 => k_is)
    (case c47 => k_is)
    (case k47 => k_is)
    (case pgNumber => k_is)
    (case hdNumber => k_is)
    (case poNumber => k_is)
    (case saNumber => k_is)
    (case mkNumber => k_is)
    (case kcNumber => k_is)
    (case haNumber => k_is)
    (case hnNumber => k_is)
    (case htNumber => k_is)
    (case hmNumber => k_is)
    (case f_whole => k_is)
    (case pgName => k_is)
    (case hdName => k_is)
    (case poName => k_is)
    (case saName => k_is)
    (case mkName => k_is)
    (case kcName => k_is)
    (case haName => k_is)
    (case hnName => k_is)
    (case htName => k_is)
    (case hmName => k_is)
    (case f_word => k_is)
    (case pgTwo => k_is)
    (case hdTwo => k_is)
    (case poTwo => k_is)
    (case saTwo => k_is)
    (case mkTwo => k_is)
    (case kcTwo => k_is)
    (case haTwo => k_is)
    (case hnTwo => k_is)
    (case htTwo => k_is)
    (case hmTwo => k_is)
    (case f_sign => k_is)
    (case f_left => k_is)
    (case f_right => k_is)
    (case pgPower => k_is)
    (case hdPower => k_is)
    (case poPower => k_is)
    (case saPower => k_is)
    (case mkPower => k_is)
    (case kcPower => k_is)
    (case haPower => k_is)
    (case hnPower => k_is)
    (case htPower => k_is)
    (case hmPower => k_is)
    (case f_base => k_is)
    (case f_exponent => k_is)
    (case pgLess => k_is)
    (case hdLess => k_is)
    (case poLess => k_is)
    (case saLess => k_is)
    (case mkLess => k_is)
    (case kcLess => k_is)
    (case haLess => k_is)
    (case hnLess => k_is)
    (case htLess => k_is)
    (case hmLess => k_is)
    (case f_inner => k_is)
    (case iyTwo => k_is)
    (case tyTwo => k_is)
    (case suNumberTwo => k_is)
    (case neNumberTwo => first | rfl | decide)
    (case suNameTwo => k_is)
    (case neNameTwo => first | rfl | decide)
    (case suPowerTwo => k_is)
    (case nePowerTwo => first | rfl | decide)
    (case suLessTwo => k_is)
    (case neLessTwo => first | rfl | decide)
    (case iyLess => k_is)
    (case tyLess => k_is)
    (case suNumberLess => k_is)
    (case neNumberLess => first | rfl | decide)
    (case suNameLess => k_is)
    (case neNameLess => first | rfl | decide)
    (case suTwoLess => k_is)
    (case neTwoLess => first | rfl | decide)
    (case suPowerLess => k_is)
    (case nePowerLess => first | rfl | decide)
    (case gHouseError => k_is)
    (case gNoNumber => k_is)
    (case gNoRow => k_is)
    (case gNoValue => k_is)
    (case gNoText => k_is)
    (case gNoRoot => k_is)
    (case gTooFar => k_is)
    (case gNoLine => k_is)
    (case xNoNumber => k_exc)
    (case kNoNumber => k_is)
    (case sNoNumber => k_is)
    (case tNoNumber => k_is)
    (case eaNoNumber => k_is)
    (case ebNoNumber => k_is)
    (case edNoNumber => k_is)
    (case eeNoNumber => k_is)
    (case efNoNumber => k_is)
    (case egNoNumber => k_is)
    (case ehNoNumber => k_is)
    (case ejNoNumber => k_is)
    (case u0NoNumber => first | rfl | k_is)
    (case v0NoNumber => first | rfl | decide)
    (case u2NoNumber => first | rfl | k_is)
    (case v2NoNumber => first | rfl | decide)
    (case u3NoNumber => first | rfl | k_is)
    (case v3NoNumber => first | rfl | decide)
    (case u4NoNumber => first | rfl | k_is)
    (case v4NoNumber => first | rfl | decide)
    (case u5NoNumber => first | rfl | k_is)
    (case v5NoNumber => first | rfl | decide)
    (case u6NoNumber => first | rfl | k_is)
    (case v6NoNumber => first | rfl | decide)
    (case u7NoNumber => first | rfl | k_is)
    (case v7NoNumber => first | rfl | decide)
    (case xNoText => k_exc)
    (case kNoText => k_is)
    (case sNoText => k_is)
    (case tNoText => k_is)
    (case eaNoText => k_is)
    (case ebNoText => k_is)
    (case edNoText => k_is)
    (case eeNoText => k_is)
    (case efNoText => k_is)
    (case egNoText => k_is)
    (case ehNoText => k_is)
    (case ejNoText => k_is)
    (case u0NoText => first | rfl | k_is)
    (case v0NoText => first | rfl | decide)
    (case u1NoText => first | rfl | k_is)
    (case v1NoText => first | rfl | decide)
    (case u2NoText => first | rfl | k_is)
    (case v2NoText => first | rfl | decide)
    (case u3NoText => first | rfl | k_is)
    (case v3NoText => first | rfl | decide)
    (case u5NoText => first | rfl | k_is)
    (case v5NoText => first | rfl | decide)
    (case u6NoText => first | rfl | k_is)
    (case v6NoText => first | rfl | decide)
    (case u7NoText => first | rfl | k_is)
    (case v7NoText => first | rfl | decide)
    (case xNoValue => k_exc)
    (case kNoValue => k_is)
    (case sNoValue => k_is)
    (case tNoValue => k_is)
    (case eaNoValue => k_is)
    (case ebNoValue => k_is)
    (case edNoValue => k_is)
    (case eeNoValue => k_is)
    (case efNoValue => k_is)
    (case egNoValue => k_is)
    (case ehNoValue => k_is)
    (case ejNoValue => k_is)
    (case u0NoValue => first | rfl | k_is)
    (case v0NoValue => first | rfl | decide)
    (case u1NoValue => first | rfl | k_is)
    (case v1NoValue => first | rfl | decide)
    (case u2NoValue => first | rfl | k_is)
    (case v2NoValue => first | rfl | decide)
    (case u4NoValue => first | rfl | k_is)
    (case v4NoValue => first | rfl | decide)
    (case u5NoValue => first | rfl | k_is)
    (case v5NoValue => first | rfl | decide)
    (case u6NoValue => first | rfl | k_is)
    (case v6NoValue => first | rfl | decide)
    (case u7NoValue => first | rfl | k_is)
    (case v7NoValue => first | rfl | decide)
    (case icHouseError => k_is)
    (case tHouseError => k_is)
    (case icNoNumber => k_is)
    (case icNoRow => k_is)
    (case tNoRow => k_is)
    (case icNoValue => k_is)
    (case icNoText => k_is)
    (case icNoRoot => k_is)
    (case tNoRoot => k_is)
    (case icTooFar => k_is)
    (case tTooFar => k_is)
    (case icNoLine => k_is)
    (case tNoLine => k_is)
    (case sHouseError => k_is)
    (case qDEEP => k_is)
    (case qFIGURES => k_is)
    (case qLETTERS => k_is)
    (case qSIGNS => k_is)
    (case gONE => k_is)
    (case lONE => k_is)
    (case z0 => k_is)
    (case z1 => k_is)
    (case z2 => k_is)
    (case z3 => k_is)
    (case z4 => k_is)
    (case z5 => k_is)
    (case z6 => k_is)
    (case z7 => k_is)
    (case z8 => k_is)
    (case z9 => k_is)
    (case z10 => k_is)
    (case z11 => k_is)
