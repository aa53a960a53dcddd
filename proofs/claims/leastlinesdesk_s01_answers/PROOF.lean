import PyProof.Rows.All
import Wide.All
import OpenK.AllK
import Wide.FinOn
import Open.SpecLaws
import KE.OsGo
import HandS.ForSpec
import HandS.ForMost
import HandS.Conv
import HandS.Flow
import HandS.Steps
import HandS.Rev
import PyFlatLaws
import VaslcaSpec
import VaslcfSpec
import PyVaslcf
import PySem.Challenge.RW_leastlinesdesk_s01_answers
section
set_option Elab.async false
set_option maxHeartbeats 1000000
namespace Ld
open Vaslca (Text Name Atom Expr Cond Op Rel Code ascii isName isAtom isExpr isCond atomText opText relText exprWords condWords spaced cutAt atomOf opOf relOf exprOf condOf isDigit numberOf decimal valueOf)

/-- a statement's own line, without its block -/
inductive Head where
  | set (v : Name) (e : Expr) | read (v : Name) | write (a : Atom) | halt | ite (c : Cond) | loop (c : Cond)
deriving DecidableEq

def opStr : Op → String
  | .alone => "" | .add => "+" | .sub => "-" | .mul => "*"
def relStr : Rel → String
  | .lt => "<" | .eq => "==" | .ne => "!="
namespace Head
def kind : Head → String
  | set _ _ => "set" | read _ => "read" | write _ => "write" | halt => "stop" | ite _ => "if" | loop _ => "while"
def words : Head → List Text
  | set v e => [v, ascii "="] ++ exprWords e
  | read v => [ascii "read", v]
  | write a => [ascii "write", atomText a]
  | halt => [ascii "stop"]
  | ite c => ascii "if" :: condWords c
  | loop c => ascii "while" :: condWords c
def text (h : Head) : Text := spaced h.words
def name : Head → Name
  | set v _ => v | read v => v | _ => []
def atoms : Head → List Atom
  | set _ e => if e.op = .alone then [e.one] else [e.one, e.two]
  | write a => [a] | ite c => [c.one, c.two] | loop c => [c.one, c.two] | _ => []
def sign : Head → String
  | set _ e => opStr e.op | ite c => relStr c.rel | loop c => relStr c.rel | _ => ""
def ok : Head → Bool
  | set v e => isName v && isExpr e | read v => isName v | write a => isAtom a | halt => true | ite c => isCond c | loop c => isCond c
def isHead : Head → Bool
  | ite _ => true | loop _ => true | _ => false
end Head

/-- what read_statement makes of a row -/
def headOfW : List Text → Option Head
  | [] => none
  | w :: ws =>
    if w = ascii "stop" then (match ws with | [] => some .halt | _ => none)
    else if w = ascii "read" then (match ws with | [v] => if isName v = true then some (.read v) else none | _ => none)
    else if w = ascii "write" then (match ws with | [a] => (atomOf a).map .write | _ => none)
    else if w = ascii "if" then (match ws with | [a, r, b] => (condOf [a, r, b]).map .ite | _ => none)
    else if w = ascii "while" then (match ws with | [a, r, b] => (condOf [a, r, b]).map .loop | _ => none)
    else (match ws with
      | [q, a] => if isName w = true ∧ q = ascii "=" then (exprOf [a]).map (.set w) else none
      | [q, a, o, b] => if isName w = true ∧ q = ascii "=" then (exprOf [a, o, b]).map (.set w) else none
      | _ => none)

def headOf (row : Text) : Option Head := headOfW (cutAt 32 row)

/-! ### cutting -/
theorem cut_ne (c : UInt8) : ∀ t : Text, cutAt c t ≠ []
  | [] => by simp [cutAt]
  | b :: r => by
    unfold cutAt
    split
    · simp
    · have := cut_ne c r
      split <;> simp_all
theorem cut_cons_ne {c b : UInt8} {r w : Text} {ws : List Text} (h : b ≠ c) (e : cutAt c r = w :: ws) : cutAt c (b :: r) = (b :: w) :: ws := by
  rw [cutAt, if_neg h, e]
theorem glue_cut : ∀ t : Text, spaced (cutAt 32 t) = t
  | [] => rfl
  | b :: r => by
    have ih := glue_cut r
    by_cases h : b = 32
    · subst h
      rw [cutAt, if_pos rfl]
      cases e : cutAt 32 r with
      | nil => exact absurd e (cut_ne _ _)
      | cons w ws =>
        rw [e] at ih
        show ([] : Text) ++ ([32] ++ Vaslca.gluedBy [32] (w :: ws)) = 32 :: r
        have ih' : Vaslca.gluedBy [32] (w :: ws) = r := ih
        rw [ih']
        rfl
    · cases e : cutAt 32 r with
      | nil => exact absurd e (cut_ne _ _)
      | cons w ws =>
        rw [cut_cons_ne h e]
        rw [e] at ih
        cases ws with
        | nil =>
          have ih' : w = r := ih
          rw [ih']
          rfl
        | cons x xs =>
          have ih' : w ++ ([32] ++ Vaslca.gluedBy [32] (x :: xs)) = r := ih
          show (b :: w) ++ ([32] ++ Vaslca.gluedBy [32] (x :: xs)) = b :: r
          rw [List.cons_append, ih']
theorem cut_app {c : UInt8} : ∀ {w r : Text}, c ∉ w → cutAt c (w ++ c :: r) = w :: cutAt c r
  | [], r, _ => by rw [List.nil_append, cutAt, if_pos rfl]
  | b :: w, r, h => by
    have hb : b ≠ c := fun e => h (by simp [e])
    have ih := cut_app (c := c) (w := w) (r := r) (fun m => h (List.mem_cons_of_mem _ m))
    rw [List.cons_append]
    exact cut_cons_ne hb ih
theorem cut_one {c : UInt8} : ∀ {w : Text}, c ∉ w → cutAt c w = [w]
  | [], _ => rfl
  | b :: w, h => by
    have hb : b ≠ c := fun e => h (by simp [e])
    exact cut_cons_ne hb (cut_one fun m => h (List.mem_cons_of_mem _ m))
theorem cut_glue : ∀ {ws : List Text}, ws ≠ [] → (∀ w ∈ ws, (32 : UInt8) ∉ w) → cutAt 32 (spaced ws) = ws
  | [], h, _ => absurd rfl h
  | [w], _, h => cut_one (h w (by simp))
  | w :: x :: xs, _, h => by
    show cutAt 32 (w ++ ([32] ++ spaced (x :: xs))) = w :: x :: xs
    rw [List.singleton_append, cut_app (h w (by simp)), cut_glue (by simp) fun y hy => h y (List.mem_cons_of_mem _ hy)]

theorem cut_snoc {c b : UInt8} : ∀ {t : Text} {ws : List Text} {w : Text}, cutAt c t = ws ++ [w] → cutAt c (t ++ [b]) = if b = c then ws ++ [w, []] else ws ++ [w ++ [b]]
  | [], ws, w, h => by
    have h' : [[]] = ws ++ [w] := h
    cases ws with
    | nil =>
      have e : w = [] := by simpa [eq_comm] using h'
      subst e
      show cutAt c [b] = _
      rw [cutAt]
      split <;> rfl
    | cons x xs => simp at h'
  | a :: t, ws, w, h => by
    rw [List.cons_append]
    by_cases ha : a = c
    · rw [cutAt, if_pos ha] at h
      rw [cutAt, if_pos ha]
      cases ws with
      | nil =>
        have h2 : ([] : Text) :: cutAt c t = [w] := h
        exact absurd (List.cons.inj h2).2 (cut_ne c t)
      | cons x xs =>
        have h2 : [] = x ∧ cutAt c t = xs ++ [w] := by simpa using h
        obtain ⟨rfl, h3⟩ := h2
        rw [cut_snoc h3]
        split <;> rfl
    · cases e : cutAt c t with
      | nil => exact absurd e (cut_ne _ _)
      | cons x xs =>
        rw [cut_cons_ne ha e] at h
        cases ws with
        | nil =>
          have h2 : a :: x = w ∧ xs = [] := by simpa using h
          obtain ⟨rfl, rfl⟩ := h2
          have i := cut_snoc (b := b) (ws := []) (w := x) (by rw [e]; rfl)
          by_cases hb : b = c
          · rw [if_pos hb] at i ⊢
            rw [cut_cons_ne ha i]
            rfl
          · rw [if_neg hb] at i ⊢
            rw [cut_cons_ne ha i]
            rfl
        | cons y ys =>
          have h2 : a :: x = y ∧ xs = ys ++ [w] := by simpa using h
          obtain ⟨rfl, rfl⟩ := h2
          have i := cut_snoc (b := b) (ws := x :: ys) (w := w) (by rw [e]; rfl)
          by_cases hb : b = c
          · rw [if_pos hb] at i ⊢
            rw [cut_cons_ne ha i]
            rfl
          · rw [if_neg hb] at i ⊢
            rw [cut_cons_ne ha i]
            rfl
/-! ### atoms -/
theorem digit_nat {b : UInt8} (h : isDigit b = true) : 48 ≤ b.toNat ∧ b.toNat ≤ 57 := by
  simp [isDigit, UInt8.le_iff_toNat_le] at h
  exact h
theorem small_nat {b : UInt8} (h : Vaslca.isSmall b = true) : 97 ≤ b.toNat ∧ b.toNat ≤ 122 := by
  simp [Vaslca.isSmall, UInt8.le_iff_toNat_le] at h
  exact h
theorem number_text {t : Text} {n : Nat} (h : numberOf t = some n) : t = decimal n ∧ t.length ≤ 2 ∧ t.all isDigit = true ∧ n = valueOf t := by
  unfold numberOf at h
  split at h
  · rename_i hh
    have e : valueOf t = n := Option.some.inj h
    subst e
    exact ⟨hh.2.2, hh.1, hh.2.1, rfl⟩
  · cases h
theorem number_le {t : Text} {n : Nat} (h : numberOf t = some n) : n ≤ 99 := by
  obtain ⟨e, hl, hd, rfl⟩ := number_text h
  match t, hl, hd with
  | [], _, _ => decide
  | [a], _, hd =>
    have ha := digit_nat (b := a) (by simpa using hd)
    show 0 * 10 + (a.toNat - 48) ≤ 99
    omega
  | [a, b], _, hd =>
    have hab : isDigit a = true ∧ isDigit b = true := by simpa using hd
    have ha := digit_nat hab.1
    have hb := digit_nat hab.2
    show (0 * 10 + (a.toNat - 48)) * 10 + (b.toNat - 48) ≤ 99
    omega
theorem numberOf_decimal : ∀ n, n ≤ 99 → numberOf (decimal n) = some n := by
  have h : ∀ n : Fin 100, numberOf (decimal n.1) = some n.1 := by decide +kernel
  intro n hn
  exact h ⟨n, by omega⟩
theorem name_facts {t : Text} (h : isName t = true) : t ≠ [] ∧ t.length ≤ 4 ∧ (∀ b ∈ t, Vaslca.isSmall b = true) ∧ t ∉ Vaslca.RESERVED := by
  simp [isName, Vaslca.NAME] at h
  obtain ⟨h1, h2, h3, h4⟩ := h
  exact ⟨h1, of_decide_eq_true h2, h3, h4⟩
theorem small_not {b : UInt8} (h : Vaslca.isSmall b = true) : b ≠ 32 ∧ b ≠ 10 ∧ b ≠ 58 ∧ isDigit b = false := by
  have hh := small_nat h
  refine ⟨?_, ?_, ?_, ?_⟩
  · rintro rfl; simp at hh
  · rintro rfl; simp at hh
  · rintro rfl; simp at hh
  · cases e : isDigit b with
    | false => rfl
    | true =>
      have := digit_nat e
      omega
theorem digit_not {b : UInt8} (h : isDigit b = true) : b ≠ 32 ∧ b ≠ 10 ∧ b ≠ 58 ∧ Vaslca.isSmall b = false := by
  have hh := digit_nat h
  refine ⟨?_, ?_, ?_, ?_⟩
  · rintro rfl; simp at hh
  · rintro rfl; simp at hh
  · rintro rfl; simp at hh
  · cases e : Vaslca.isSmall b with
    | false => rfl
    | true =>
      have := small_nat e
      omega
theorem decimal_digits : ∀ n, n ≤ 99 → (decimal n).all isDigit = true ∧ decimal n ≠ [] := by
  have h : ∀ n : Fin 100, (decimal n.1).all isDigit = true ∧ decimal n.1 ≠ [] := by decide +kernel
  intro n hn
  exact h ⟨n, by omega⟩
theorem name_not_number {t : Text} (h : t ≠ []) (hd : t.all isDigit = true) : isName t = false := by
  cases e : isName t with
  | false => rfl
  | true =>
    obtain ⟨_, _, h3, _⟩ := name_facts e
    cases t with
    | nil => exact absurd rfl h
    | cons b r =>
      have h1 := h3 b (by simp)
      have h2 : isDigit b = true := by simp at hd; exact hd.1
      rw [(small_not h1).2.2.2] at h2
      cases h2
theorem atomOf_text {t : Text} {a : Atom} (h : atomOf t = some a) : atomText a = t ∧ isAtom a = true := by
  unfold atomOf at h
  split at h
  · rename_i hn
    cases Option.some.inj h
    exact ⟨rfl, hn⟩
  · cases e : numberOf t with
    | none => rw [e] at h; cases h
    | some n =>
      rw [e] at h
      cases Option.some.inj h
      refine ⟨(number_text e).1.symm, ?_⟩
      show decide (n ≤ 99) = true
      exact decide_eq_true (number_le e)
theorem atomOf_atomText {a : Atom} (h : isAtom a = true) : atomOf (atomText a) = some a := by
  cases a with
  | var v =>
    have hv : isName v = true := h
    show (if isName v = true then some (Atom.var v) else _) = _
    rw [if_pos hv]
  | num n =>
    have hn : n ≤ 99 := of_decide_eq_true h
    have hd := decimal_digits n hn
    show (if isName (decimal n) = true then some (Atom.var _) else (numberOf (decimal n)).map .num) = _
    rw [if_neg (by rw [name_not_number hd.2 hd.1]; decide), numberOf_decimal n hn]
    rfl
theorem atom_clean {a : Atom} (h : isAtom a = true) : atomText a ≠ [] ∧ (∀ b ∈ atomText a, b ≠ 32 ∧ b ≠ 10 ∧ b ≠ 58) := by
  cases a with
  | var v =>
    obtain ⟨h1, _, h3, _⟩ := name_facts (show isName v = true from h)
    exact ⟨h1, fun b hb => ⟨(small_not (h3 b hb)).1, (small_not (h3 b hb)).2.1, (small_not (h3 b hb)).2.2.1⟩⟩
  | num n =>
    have hd := decimal_digits n (of_decide_eq_true h)
    refine ⟨hd.2, fun b hb => ?_⟩
    have := digit_not (List.all_eq_true.mp hd.1 b hb)
    exact ⟨this.1, this.2.1, this.2.2.1⟩
/-! ### ops, rels, exprs, conds -/
theorem opOf_opText {o : Op} (h : o ≠ .alone) : opOf (opText o) = some o := by
  cases o with
  | alone => exact absurd rfl h
  | add => decide
  | sub => decide
  | mul => decide
theorem relOf_relText (r : Rel) : relOf (relText r) = some r := by cases r <;> decide
theorem opOf_text {t : Text} {o : Op} (h : opOf t = some o) : opText o = t ∧ o ≠ .alone := by
  unfold opOf at h
  refine ⟨by simpa using List.find?_some h, ?_⟩
  have := List.mem_of_find?_eq_some h
  rintro rfl
  simp at this
theorem relOf_text {t : Text} {r : Rel} (h : relOf t = some r) : relText r = t := by
  unfold relOf at h
  simpa using List.find?_some h
theorem exprOf_text {ws : List Text} {e : Expr} (h : exprOf ws = some e) : exprWords e = ws ∧ isExpr e = true := by
  match ws, h with
  | [a], h =>
    have h' : (atomOf a).map (fun x => (⟨x, .alone, .num 0⟩ : Expr)) = some e := h
    cases ea : atomOf a with
    | none => rw [ea] at h'; cases h'
    | some x =>
      rw [ea] at h'
      cases Option.some.inj h'
      have q := atomOf_text ea
      refine ⟨?_, ?_⟩
      · show [atomText x] = [a]
        rw [q.1]
      · show (isAtom x && (isAtom (.num 0) && _)) = true
        rw [q.2]
        rfl
  | [a, o, b], h =>
    have h' : ((atomOf a).bind fun x => (opOf o).bind fun p => (atomOf b).map fun y => (⟨x, p, y⟩ : Expr)) = some e := h
    cases ea : atomOf a with
    | none => rw [ea] at h'; cases h'
    | some x =>
      cases eo : opOf o with
      | none => rw [ea, eo] at h'; cases h'
      | some p =>
        cases eb : atomOf b with
        | none => rw [ea, eo, eb] at h'; cases h'
        | some y =>
          rw [ea, eo, eb] at h'
          cases Option.some.inj h'
          have qa := atomOf_text ea
          have qb := atomOf_text eb
          have qo := opOf_text eo
          refine ⟨?_, ?_⟩
          · unfold exprWords
            rw [if_neg qo.2]
            show [atomText x, opText p, atomText y] = _
            rw [qa.1, qb.1, qo.1]
          · show (isAtom x && (isAtom y && (p != .alone || _))) = true
            rw [qa.2, qb.2]
            simp [qo.2]
  | [], h => cases h
  | [_, _], h => cases h
  | _ :: _ :: _ :: _ :: _, h => cases h
theorem exprOf_exprWords {e : Expr} (h : isExpr e = true) : exprOf (exprWords e) = some e := by
  obtain ⟨x, o, y⟩ := e
  have h' : (isAtom x && (isAtom y && (o != .alone || y == .num 0))) = true := h
  rw [Bool.and_eq_true, Bool.and_eq_true] at h'
  obtain ⟨hx, hy, ho⟩ := h'
  unfold exprWords
  by_cases c : o = .alone
  · subst c
    rw [if_pos rfl]
    show (atomOf (atomText x)).map _ = _
    rw [atomOf_atomText hx]
    have : y = .num 0 := by simpa using ho
    subst this
    rfl
  · rw [if_neg c]
    show ((atomOf (atomText x)).bind fun x => (opOf (opText o)).bind fun p => (atomOf (atomText y)).map fun y => (⟨x, p, y⟩ : Expr)) = _
    rw [atomOf_atomText hx, opOf_opText c, atomOf_atomText hy]
    rfl
theorem condOf_text {ws : List Text} {c : Cond} (h : condOf ws = some c) : condWords c = ws ∧ isCond c = true := by
  match ws, h with
  | [a, r, b], h =>
    have h' : (if b.getLast? = some 58 then (atomOf a).bind fun x => (relOf r).bind fun q => (atomOf b.dropLast).map fun y => (⟨x, q, y⟩ : Cond) else none) = some c := h
    split at h'
    · rename_i hl
      cases ea : atomOf a with
      | none => rw [ea] at h'; cases h'
      | some x =>
        cases er : relOf r with
        | none => rw [ea, er] at h'; cases h'
        | some q =>
          cases eb : atomOf b.dropLast with
          | none => rw [ea, er, eb] at h'; cases h'
          | some y =>
            rw [ea, er, eb] at h'
            cases Option.some.inj h'
            have qa := atomOf_text ea
            have qb := atomOf_text eb
            have qr := relOf_text er
            refine ⟨?_, ?_⟩
            · show [atomText x, relText q, atomText y ++ [58]] = [a, r, b]
              rw [qa.1, qb.1, qr]
              congr 3
              have hb : b ≠ [] := by rintro rfl; cases hl
              have e2 : b.getLast hb = 58 := by
                rw [List.getLast?_eq_some_getLast hb] at hl
                exact Option.some.inj hl
              rw [← e2]
              exact List.dropLast_concat_getLast hb
            · show (isAtom x && isAtom y) = true
              rw [qa.2, qb.2]
              rfl
    · cases h'
  | [], h => cases h
  | [_], h => cases h
  | [_, _], h => cases h
  | _ :: _ :: _ :: _ :: _, h => cases h
theorem condOf_condWords {c : Cond} (h : isCond c = true) : condOf (condWords c) = some c := by
  obtain ⟨x, q, y⟩ := c
  have h' : (isAtom x && isAtom y) = true := h
  rw [Bool.and_eq_true] at h'
  show (if (atomText y ++ [58]).getLast? = some 58 then (atomOf (atomText x)).bind fun x => (relOf (relText q)).bind fun q => (atomOf (atomText y ++ [58]).dropLast).map fun y => (⟨x, q, y⟩ : Cond) else none) = _
  rw [if_pos (by simp), atomOf_atomText h'.1, relOf_relText, List.dropLast_concat, atomOf_atomText h'.2]
  rfl
theorem op_clean (o : Op) : (32 : UInt8) ∉ opText o ∧ (10 : UInt8) ∉ opText o := by cases o <;> decide
theorem rel_clean (r : Rel) : (32 : UInt8) ∉ relText r ∧ (10 : UInt8) ∉ relText r := by cases r <;> decide

/-! ### a row and its head -/
theorem headOf_text {row : Text} {h : Head} (e : headOf row = some h) : row = h.text ∧ h.ok = true := by
  have gl : row = spaced (cutAt 32 row) := (glue_cut row).symm
  unfold headOf at e
  cases ec : cutAt 32 row with
  | nil => exact absurd ec (cut_ne _ _)
  | cons w ws =>
    rw [ec] at e gl
    unfold headOfW at e
    dsimp only at e
    split at e
    · rename_i hw
      split at e
      · cases Option.some.inj e
        exact ⟨by rw [gl, hw]; rfl, rfl⟩
      · cases e
    split at e
    · rename_i hw
      split at e
      · rename_i v
        split at e
        · rename_i hv
          cases Option.some.inj e
          exact ⟨by rw [gl, hw]; rfl, hv⟩
        · cases e
      · cases e
    split at e
    · rename_i hw
      split at e
      · rename_i a
        cases ea : atomOf a with
        | none => rw [ea] at e; cases e
        | some x =>
          rw [ea] at e
          cases Option.some.inj e
          have q := atomOf_text ea
          refine ⟨?_, q.2⟩
          rw [gl, hw]
          show _ = spaced [ascii "write", atomText x]
          rw [q.1]
      · cases e
    split at e
    · rename_i hw
      split at e
      · rename_i a r b
        cases ea : condOf [a, r, b] with
        | none => rw [ea] at e; cases e
        | some x =>
          rw [ea] at e
          cases Option.some.inj e
          have q := condOf_text ea
          refine ⟨?_, q.2⟩
          rw [gl, hw]
          show _ = spaced (ascii "if" :: condWords x)
          rw [q.1]
      · cases e
    split at e
    · rename_i hw
      split at e
      · rename_i a r b
        cases ea : condOf [a, r, b] with
        | none => rw [ea] at e; cases e
        | some x =>
          rw [ea] at e
          cases Option.some.inj e
          have q := condOf_text ea
          refine ⟨?_, q.2⟩
          rw [gl, hw]
          show _ = spaced (ascii "while" :: condWords x)
          rw [q.1]
      · cases e
    split at e
    · rename_i qq a
      split at e
      · rename_i hh
        cases ea : exprOf [a] with
        | none => rw [ea] at e; cases e
        | some x =>
          rw [ea] at e
          cases Option.some.inj e
          have q := exprOf_text ea
          refine ⟨?_, ?_⟩
          · rw [gl, hh.2]
            show _ = spaced ([w, ascii "="] ++ exprWords x)
            rw [q.1]
            rfl
          · show (isName w && isExpr x) = true
            rw [hh.1, q.2]
            rfl
      · cases e
    · rename_i qq a o b
      split at e
      · rename_i hh
        cases ea : exprOf [a, o, b] with
        | none => rw [ea] at e; cases e
        | some x =>
          rw [ea] at e
          cases Option.some.inj e
          have q := exprOf_text ea
          refine ⟨?_, ?_⟩
          · rw [gl, hh.2]
            show _ = spaced ([w, ascii "="] ++ exprWords x)
            rw [q.1]
            rfl
          · show (isName w && isExpr x) = true
            rw [hh.1, q.2]
            rfl
      · cases e
    · cases e

theorem name_ne {v : Name} (h : isName v = true) : v ≠ ascii "stop" ∧ v ≠ ascii "read" ∧ v ≠ ascii "write" ∧ v ≠ ascii "if" ∧ v ≠ ascii "while" := by
  refine ⟨?_, ?_, ?_, ?_, ?_⟩ <;> (rintro rfl; revert h; decide)
theorem words_clean {h : Head} (hk : h.ok = true) : ∀ w ∈ h.words, (32 : UInt8) ∉ w ∧ (10 : UInt8) ∉ w := by
  have nm : ∀ {v : Name}, isName v = true → (32 : UInt8) ∉ v ∧ (10 : UInt8) ∉ v := fun {v} hv => by
    obtain ⟨_, _, h3, _⟩ := name_facts hv
    exact ⟨fun m => (small_not (h3 _ m)).1 rfl, fun m => (small_not (h3 _ m)).2.1 rfl⟩
  have at' : ∀ {a : Atom}, isAtom a = true → (32 : UInt8) ∉ atomText a ∧ (10 : UInt8) ∉ atomText a := fun {a} ha =>
    ⟨fun m => ((atom_clean ha).2 _ m).1 rfl, fun m => ((atom_clean ha).2 _ m).2.1 rfl⟩
  have cnd : ∀ {c : Cond}, isCond c = true → ∀ w ∈ condWords c, (32 : UInt8) ∉ w ∧ (10 : UInt8) ∉ w := fun {c} hc w hw => by
    have hc' : (isAtom c.one && isAtom c.two) = true := hc
    rw [Bool.and_eq_true] at hc'
    have hw' : w ∈ [atomText c.one, relText c.rel, atomText c.two ++ [58]] := hw
    simp only [List.mem_cons, List.not_mem_nil, or_false] at hw'
    rcases hw' with rfl | rfl | rfl
    · exact at' hc'.1
    · exact rel_clean _
    · have := at' hc'.2
      simp [this.1, this.2]
  intro w hw
  cases h with
  | set v e =>
    have hk' : (isName v && isExpr e) = true := hk
    rw [Bool.and_eq_true] at hk'
    have he : (isAtom e.one && (isAtom e.two && (e.op != .alone || e.two == .num 0))) = true := hk'.2
    rw [Bool.and_eq_true, Bool.and_eq_true] at he
    have hw' : w ∈ [v, ascii "="] ++ exprWords e := hw
    rw [List.mem_append] at hw'
    rcases hw' with hw' | hw'
    · simp only [List.mem_cons, List.not_mem_nil, or_false] at hw'
      rcases hw' with rfl | rfl
      · exact nm hk'.1
      · decide
    · unfold exprWords at hw'
      split at hw'
      · simp only [List.mem_cons, List.not_mem_nil, or_false] at hw'
        subst hw'
        exact at' he.1
      · simp only [List.mem_cons, List.not_mem_nil, or_false] at hw'
        rcases hw' with rfl | rfl | rfl
        · exact at' he.1
        · exact op_clean _
        · exact at' he.2.1
  | read v =>
    have hw' : w ∈ [ascii "read", v] := hw
    simp only [List.mem_cons, List.not_mem_nil, or_false] at hw'
    rcases hw' with rfl | rfl
    · decide
    · exact nm hk
  | write a =>
    have hw' : w ∈ [ascii "write", atomText a] := hw
    simp only [List.mem_cons, List.not_mem_nil, or_false] at hw'
    rcases hw' with rfl | rfl
    · decide
    · exact at' hk
  | halt =>
    have hw' : w ∈ [ascii "stop"] := hw
    simp only [List.mem_cons, List.not_mem_nil, or_false] at hw'
    subst hw'
    decide
  | ite c =>
    have hw' : w ∈ ascii "if" :: condWords c := hw
    rw [List.mem_cons] at hw'
    rcases hw' with rfl | hw'
    · decide
    · exact cnd hk w hw'
  | loop c =>
    have hw' : w ∈ ascii "while" :: condWords c := hw
    rw [List.mem_cons] at hw'
    rcases hw' with rfl | hw'
    · decide
    · exact cnd hk w hw'
theorem words_ne (h : Head) : h.words ≠ [] := by cases h <;> simp [Head.words]
theorem cut_text {h : Head} (hk : h.ok = true) : cutAt 32 h.text = h.words := cut_glue (words_ne h) fun w hw => (words_clean hk w hw).1
theorem headOf_ok {h : Head} (hk : h.ok = true) : headOf h.text = some h := by
  unfold headOf
  rw [cut_text hk]
  cases h with
  | set v e =>
    have hk' : (isName v && isExpr e) = true := hk
    rw [Bool.and_eq_true] at hk'
    obtain ⟨n1, n2, n3, n4, n5⟩ := name_ne hk'.1
    have ee := exprOf_exprWords hk'.2
    unfold exprWords at ee
    have hw : (Head.set v e).words = v :: ascii "=" :: exprWords e := rfl
    rw [hw]
    unfold headOfW
    dsimp only
    rw [if_neg n1, if_neg n2, if_neg n3, if_neg n4, if_neg n5]
    unfold exprWords
    by_cases c : e.op = .alone
    · rw [if_pos c] at ee ⊢
      dsimp only
      rw [if_pos ⟨hk'.1, rfl⟩, ee]
      rfl
    · rw [if_neg c] at ee ⊢
      dsimp only
      rw [if_pos ⟨hk'.1, rfl⟩, ee]
      rfl
  | read v =>
    unfold headOfW
    dsimp only [Head.words, condWords]
    rw [if_neg (by decide), if_pos rfl, if_pos (show isName v = true from hk)]
  | write a =>
    unfold headOfW
    dsimp only [Head.words, condWords]
    rw [if_neg (by decide), if_neg (by decide), if_pos rfl, atomOf_atomText (show isAtom a = true from hk)]
    rfl
  | halt => rfl
  | ite c =>
    unfold headOfW
    dsimp only [Head.words, condWords]
    rw [if_neg (by decide), if_neg (by decide), if_neg (by decide), if_pos rfl, show condOf [atomText c.one, relText c.rel, atomText c.two ++ [58]] = some c from condOf_condWords (show isCond c = true from hk)]
    rfl
  | loop c =>
    unfold headOfW
    dsimp only [Head.words, condWords]
    rw [if_neg (by decide), if_neg (by decide), if_neg (by decide), if_neg (by decide), if_pos rfl, show condOf [atomText c.one, relText c.rel, atomText c.two ++ [58]] = some c from condOf_condWords (show isCond c = true from hk)]
    rfl
/-! ### by the first word -/
theorem headOf_stop {row : Text} {ws : List Text} (e : cutAt 32 row = ascii "stop" :: ws) : headOf row = (match (generalizing := false) ws with | [] => some .halt | _ => none) := by
  unfold headOf
  rw [e]
  unfold headOfW
  dsimp only
  rw [if_pos rfl]
theorem headOf_read {row : Text} {ws : List Text} (e : cutAt 32 row = ascii "read" :: ws) : headOf row = (match (generalizing := false) ws with | [v] => if isName v = true then some (.read v) else none | _ => none) := by
  unfold headOf
  rw [e]
  unfold headOfW
  dsimp only
  rw [if_neg (by decide), if_pos rfl]
theorem headOf_write {row : Text} {ws : List Text} (e : cutAt 32 row = ascii "write" :: ws) : headOf row = (match (generalizing := false) ws with | [a] => (atomOf a).map .write | _ => none) := by
  unfold headOf
  rw [e]
  unfold headOfW
  dsimp only
  rw [if_neg (by decide), if_neg (by decide), if_pos rfl]
theorem headOf_if {row : Text} {ws : List Text} (e : cutAt 32 row = ascii "if" :: ws) : headOf row = (match (generalizing := false) ws with | [a, r, b] => (condOf [a, r, b]).map .ite | _ => none) := by
  unfold headOf
  rw [e]
  unfold headOfW
  dsimp only
  rw [if_neg (by decide), if_neg (by decide), if_neg (by decide), if_pos rfl]
theorem headOf_while {row : Text} {ws : List Text} (e : cutAt 32 row = ascii "while" :: ws) : headOf row = (match (generalizing := false) ws with | [a, r, b] => (condOf [a, r, b]).map .loop | _ => none) := by
  unfold headOf
  rw [e]
  unfold headOfW
  dsimp only
  rw [if_neg (by decide), if_neg (by decide), if_neg (by decide), if_neg (by decide), if_pos rfl]
theorem headOf_set {row w : Text} {ws : List Text} (e : cutAt 32 row = w :: ws) (h1 : w ≠ ascii "stop") (h2 : w ≠ ascii "read") (h3 : w ≠ ascii "write") (h4 : w ≠ ascii "if") (h5 : w ≠ ascii "while") :
    headOf row = (match (generalizing := false) ws with
      | [q, a] => if isName w = true ∧ q = ascii "=" then (exprOf [a]).map (.set w) else none
      | [q, a, o, b] => if isName w = true ∧ q = ascii "=" then (exprOf [a, o, b]).map (.set w) else none
      | _ => none) := by
  unfold headOf
  rw [e]
  unfold headOfW
  dsimp only
  rw [if_neg h1, if_neg h2, if_neg h3, if_neg h4, if_neg h5]
theorem atomOf_isSome {t : Text} (h : (atomOf t).isSome = true) : ∃ a, atomOf t = some a ∧ atomText a = t ∧ isAtom a = true := by
  obtain ⟨a, e⟩ := Option.isSome_iff_exists.mp h
  exact ⟨a, e, (atomOf_text e).1, (atomOf_text e).2⟩
theorem atomOf_isNone {t : Text} (h : (atomOf t).isSome = false) : atomOf t = none := Option.not_isSome_iff_eq_none.mp (by rw [h]; decide)
end Ld
end
section
set_option Elab.async false
set_option maxHeartbeats 1000000
namespace Ld
open Vaslca (Text Name Atom Expr Cond Op Rel Code ascii isName isAtom isExpr isCond atomText opText relText exprWords condWords spaced cutAt atomOf opOf relOf exprOf condOf linesOf deepOf isDone areStatements textAt programText line indent rowOf Row Got withCode elseOf blockOf linesIn programOf isProgram)

/-! ### the flat program -/
structure PL where
  head : Head
  parent : Int
  side : Nat
deriving DecidableEq
def flat : Int → Nat → Code → List PL
  | _, _, .done => []
  | p, s, .set _ v e r => ⟨.set v e, p, s⟩ :: flat p s r
  | p, s, .read _ v r => ⟨.read v, p, s⟩ :: flat p s r
  | p, s, .write _ a r => ⟨.write a, p, s⟩ :: flat p s r
  | p, s, .halt_ _ r => ⟨.halt, p, s⟩ :: flat p s r
  | p, s, .ite n c a b r => ⟨.ite c, p, s⟩ :: (flat n 0 a ++ (flat n 1 b ++ flat p s r))
  | p, s, .loop n c b r => ⟨.loop c, p, s⟩ :: (flat n 0 b ++ flat p s r)
theorem flat_length : ∀ (c : Code) (p : Int) (s : Nat), (flat p s c).length = (linesOf c).length
  | .done, _, _ => rfl
  | .set _ _ _ r, p, s => by simp [flat, linesOf, flat_length r]
  | .read _ _ r, p, s => by simp [flat, linesOf, flat_length r]
  | .write _ _ r, p, s => by simp [flat, linesOf, flat_length r]
  | .halt_ _ r, p, s => by simp [flat, linesOf, flat_length r]
  | .ite _ _ a b r, p, s => by simp [flat, linesOf, flat_length a, flat_length b, flat_length r]
  | .loop _ _ b r, p, s => by simp [flat, linesOf, flat_length b, flat_length r]

/-! ### the reader -/
structure RS where
  prog : List PL
  path : List (Nat × Nat)
  waits : Bool
deriving DecidableEq
def RS.start : RS := ⟨[], [], false⟩
def blanks (row : Text) : Nat := (row.takeWhile fun b => b == 32).length
def elseText : Text := ascii "else:"
def takeElse (st : RS) (deep : Nat) : Option RS := match st.path[deep]? with
  | none => none
  | some (h, s) => match st.prog[h]? with
    | some ⟨.ite _, _, _⟩ => if s = 0 then some { st with path := st.path.take deep ++ [(h, 1)], waits := true } else none
    | _ => none
def around2 (st : RS) (deep : Nat) : Option (Int × Nat) := if deep = 0 then some (-1, 0) else (st.path[deep - 1]?).map fun q => ((q.1 : Int), q.2)
def takeStmt (st : RS) (deep : Nat) (rest : Text) : Option RS := match headOf rest with
  | none => none
  | some h => if h.isHead = true ∧ 3 ≤ deep then none else match around2 st deep with
    | none => none
    | some (p, s) => some ⟨st.prog ++ [⟨h, p, s⟩], st.path.take deep ++ (if h.isHead = true then [(st.prog.length, 0)] else []), h.isHead⟩
def take (st : RS) (row : Text) : Option RS :=
  if st.path.length < blanks row / 2 then none
  else if st.waits = true ∧ blanks row / 2 < st.path.length then none
  else if row.drop (2 * (blanks row / 2)) = elseText then takeElse st (blanks row / 2)
  else takeStmt st (blanks row / 2) (row.drop (2 * (blanks row / 2)))
def takes : RS → List Text → Option RS
  | st, [] => some st
  | st, r :: rs => match take st r with
    | none => none
    | some st' => takes st' rs
theorem takes_append : ∀ (a b : List Text) (st : RS), takes st (a ++ b) = (takes st a).bind fun s => takes s b
  | [], _, _ => rfl
  | r :: a, b, st => by
    show (match take st r with
      | none => none
      | some st' => takes st' (a ++ b)) = _
    cases e : take st r with
    | none => simp only [takes, e]; rfl
    | some s => simp only [takes, e]; exact takes_append a b s
def rowsIn (t : Text) : List Text := (cutAt 10 t).dropLast
def endsWell (t : Text) : Bool := t.isEmpty || t.getLast? == some 10
def readProgram (t : Text) : Option (List PL) :=
  if endsWell t = true then (match takes RS.start (rowsIn t) with
    | none => none
    | some st => if st.waits = true ∨ 14 < st.prog.length then none else some st.prog)
  else none

/-! ### rows and text -/
theorem cut_getLast : ∀ t : Text, endsWell t = true ↔ (cutAt 10 t).getLastD [1] = []
  | [] => by simp [endsWell, cutAt]
  | b :: r => by
    have ih := cut_getLast r
    cases e : cutAt 10 r with
    | nil => exact absurd e (cut_ne _ _)
    | cons w ws =>
      rw [e] at ih
      by_cases h : b = 10
      · subst h
        rw [cutAt, if_pos rfl, e]
        cases r with
        | nil =>
          have : w = [] ∧ ws = [] := by simpa [cutAt, eq_comm] using e
          simp [endsWell, this.1, this.2]
        | cons c r' =>
          have l1 : endsWell (10 :: c :: r') = endsWell (c :: r') := by simp [endsWell, List.getLast?_cons_cons]
          rw [l1, ih]
          simp [List.getLastD]
      · rw [cut_cons_ne h e]
        cases r with
        | nil =>
          have : w = [] ∧ ws = [] := by simpa [cutAt, eq_comm] using e
          simp [endsWell, this.1, this.2, h]
        | cons c r' =>
          have l1 : endsWell (b :: c :: r') = endsWell (c :: r') := by simp [endsWell, List.getLast?_cons_cons]
          rw [l1, ih]
          cases ws with
          | nil =>
            -- w is not empty or r' ...
            simp [List.getLastD]
            rintro rfl
            -- cutAt 10 (c :: r') = [[]] is impossible
            unfold cutAt at e
            split at e
            · have := cut_ne 10 r'
              simp_all
            · cases e2 : cutAt 10 r' with
              | nil => exact absurd e2 (cut_ne _ _)
              | cons x xs => rw [e2] at e; simp at e
          | cons x xs => simp [List.getLastD]
theorem linesIn_eq (t : Text) : linesIn t = if endsWell t = true then some (rowsIn t) else none := by
  show (if (cutAt 10 t).getLastD [1] = [] then some (cutAt 10 t).dropLast else none) = _
  by_cases h : endsWell t = true
  · rw [if_pos h, if_pos ((cut_getLast t).mp h)]
    rfl
  · rw [if_neg h, if_neg fun z => h ((cut_getLast t).mpr z)]
/-- the text that rows make -/
def unrows (rs : List Text) : Text := rs.flatMap line
theorem cut_unrows : ∀ rs : List Text, (∀ r ∈ rs, (10 : UInt8) ∉ r) → cutAt 10 (unrows rs) = rs ++ [[]]
  | [], _ => rfl
  | r :: rs, h => by
    show cutAt 10 ((r ++ [10]) ++ unrows rs) = _
    rw [List.append_assoc]
    show cutAt 10 (r ++ 10 :: unrows rs) = _
    rw [cut_app (h r (by simp)), cut_unrows rs fun x hx => h x (List.mem_cons_of_mem _ hx)]
    rfl
theorem rowsIn_unrows {rs : List Text} (h : ∀ r ∈ rs, (10 : UInt8) ∉ r) : rowsIn (unrows rs) = rs ∧ endsWell (unrows rs) = true := by
  refine ⟨?_, ?_⟩
  · unfold rowsIn
    rw [cut_unrows rs h, List.dropLast_concat]
  · rw [cut_getLast, cut_unrows rs h]
    simp
theorem unrows_rowsIn' : ∀ t : Text, unrows (cutAt 10 t) = t ++ [10]
  | [] => rfl
  | b :: r => by
    have ih := unrows_rowsIn' r
    by_cases h : b = 10
    · subst h
      rw [cutAt, if_pos rfl]
      show ([] ++ [10]) ++ unrows (cutAt 10 r) = _
      rw [ih]
      rfl
    · cases e : cutAt 10 r with
      | nil => exact absurd e (cut_ne _ _)
      | cons w ws =>
        rw [cut_cons_ne h e]
        rw [e] at ih
        have ih' : (w ++ [10]) ++ unrows ws = r ++ [10] := ih
        show ((b :: w) ++ [10]) ++ unrows ws = _
        rw [List.cons_append, List.cons_append, ih']
        rfl
theorem unrows_rowsIn {t : Text} (h : endsWell t = true) : unrows (rowsIn t) = t := by
  have hl := (cut_getLast t).mp h
  have e := unrows_rowsIn' t
  have ne := cut_ne 10 t
  have d : cutAt 10 t = rowsIn t ++ [[]] := by
    unfold rowsIn
    have q := List.dropLast_concat_getLast ne
    have : (cutAt 10 t).getLast ne = [] := by
      rw [← hl, List.getLastD_eq_getLast?, List.getLast?_eq_some_getLast ne]
      rfl
    rw [this] at q
    exact q.symm
  rw [d] at e
  unfold unrows at e ⊢
  rw [List.flatMap_append] at e
  have e2 : (rowsIn t).flatMap line ++ [10] = t ++ [10] := e
  exact List.append_cancel_right e2

/-- the rows of a code's text -/
def rowsAt : Nat → Code → List Text
  | _, .done => []
  | d, .set _ v e r => (indent d ++ (Head.set v e).text) :: rowsAt d r
  | d, .read _ v r => (indent d ++ (Head.read v).text) :: rowsAt d r
  | d, .write _ a r => (indent d ++ (Head.write a).text) :: rowsAt d r
  | d, .halt_ _ r => (indent d ++ Head.halt.text) :: rowsAt d r
  | d, .ite _ c a b r => (indent d ++ (Head.ite c).text) :: (rowsAt (d + 1) a ++ ((if isDone b = true then [] else (indent d ++ elseText) :: rowsAt (d + 1) b) ++ rowsAt d r))
  | d, .loop _ c b r => (indent d ++ (Head.loop c).text) :: (rowsAt (d + 1) b ++ rowsAt d r)
theorem unrows_cons (r : Text) (rs : List Text) : unrows (r :: rs) = line r ++ unrows rs := rfl
theorem unrows_append (a b : List Text) : unrows (a ++ b) = unrows a ++ unrows b := List.flatMap_append
theorem textAt_rows : ∀ (c : Code) (d : Nat), textAt d c = unrows (rowsAt d c)
  | .done, _ => rfl
  | .set _ v e r, d => by show line _ ++ textAt d r = _; rw [textAt_rows r d]; rfl
  | .read _ v r, d => by show line _ ++ textAt d r = _; rw [textAt_rows r d]; rfl
  | .write _ a r, d => by show line _ ++ textAt d r = _; rw [textAt_rows r d]; rfl
  | .halt_ _ r, d => by show line _ ++ textAt d r = _; rw [textAt_rows r d]; rfl
  | .ite _ c a b r, d => by
    show line _ ++ (textAt (d + 1) a ++ ((if isDone b = true then [] else line (indent d ++ ascii "else:") ++ textAt (d + 1) b) ++ textAt d r)) = unrows (_ :: (rowsAt (d + 1) a ++ ((if isDone b = true then [] else (indent d ++ elseText) :: rowsAt (d + 1) b) ++ rowsAt d r)))
    rw [unrows_cons, unrows_append, unrows_append, textAt_rows a, textAt_rows b, textAt_rows r]
    by_cases h : isDone b = true
    · rw [if_pos h, if_pos h]; rfl
    · rw [if_neg h, if_neg h]; rfl
  | .loop _ c b r, d => by
    show line _ ++ (textAt (d + 1) b ++ textAt d r) = unrows (_ :: (rowsAt (d + 1) b ++ rowsAt d r))
    rw [unrows_cons, unrows_append, textAt_rows b, textAt_rows r]
    rfl
/-! ### what stands at a row's beginning -/
theorem text_ten {h : Head} (hk : h.ok = true) : (10 : UInt8) ∉ h.text := by
  have g : ∀ ws : List Text, (∀ w ∈ ws, (10 : UInt8) ∉ w) → (10 : UInt8) ∉ spaced ws := by
    intro ws
    induction ws with
    | nil => intro _; simp [spaced, Vaslca.gluedBy]
    | cons w r ih =>
      intro hw
      cases r with
      | nil => exact hw w (by simp)
      | cons x xs =>
        show (10 : UInt8) ∉ w ++ ([32] ++ spaced (x :: xs))
        have i2 := ih fun y hy => hw y (List.mem_cons_of_mem _ hy)
        have i1 := hw w (by simp)
        simp [i1, i2]
  exact g _ fun w hw => (words_clean hk w hw).2
theorem first_small {h : Head} (hk : h.ok = true) : ∃ b r, h.text = b :: r ∧ b ≠ 32 := by
  have e := cut_text hk
  cases q : h.text with
  | nil =>
    rw [q] at e
    have : h.words = [[]] := by rw [← e]; rfl
    cases h with
    | set v x => simp [Head.words] at this
    | read v => simp [Head.words] at this
    | write a => simp [Head.words] at this
    | halt => exact absurd this (by decide)
    | ite c => simp [Head.words, condWords] at this
    | loop c => simp [Head.words, condWords] at this
  | cons b r =>
    refine ⟨b, r, rfl, ?_⟩
    rintro rfl
    rw [q, cutAt, if_pos rfl] at e
    cases h with
    | set v x =>
      have hk' : (isName v && isExpr x) = true := hk
      rw [Bool.and_eq_true] at hk'
      have := (name_facts hk'.1).1
      have e' : ([] : Text) :: cutAt 32 r = v :: (ascii "=" :: exprWords x) := e
      exact this (List.cons.inj e').1.symm
    | read v => have := (List.cons.inj e).1; revert this; decide
    | write a => have := (List.cons.inj e).1; revert this; decide
    | halt => have := (List.cons.inj e).1; revert this; decide
    | ite c => have := (List.cons.inj e).1; revert this; decide
    | loop c => have := (List.cons.inj e).1; revert this; decide
theorem takeWhile_indent (d : Nat) {b : UInt8} {r : Text} (hb : b ≠ 32) : ((indent d ++ b :: r).takeWhile fun b => b == 32) = indent d := by
  unfold indent
  induction (2 * d) with
  | zero => simp [hb]
  | succ n ih => simp [List.replicate_succ, ih]
theorem blanks_indent (d : Nat) {b : UInt8} {r : Text} (hb : b ≠ 32) : blanks (indent d ++ b :: r) = 2 * d := by
  unfold blanks
  rw [takeWhile_indent d hb]
  simp [indent]
theorem drop_indent (d : Nat) (r : Text) : (indent d ++ r).drop (2 * d) = r := by
  have : (indent d).length = 2 * d := by simp [indent]
  rw [← this, List.drop_left]
theorem rowOf_indent (d : Nat) {b : UInt8} {r : Text} (hb : b ≠ 32) : rowOf (indent d ++ b :: r) = ⟨d, cutAt 32 (b :: r)⟩ := by
  show (⟨(((indent d ++ b :: r).takeWhile fun b => b == 32).length) / 2, cutAt 32 ((indent d ++ b :: r).drop (((indent d ++ b :: r).takeWhile fun b => b == 32).length))⟩ : Row) = _
  rw [takeWhile_indent d hb]
  have hl : (indent d).length = 2 * d := by simp [indent]
  rw [hl, drop_indent]
  congr 1
  omega
theorem else_form : elseText = 101 :: [108, 115, 101, 58] := by decide
theorem text_not_else {h : Head} (hk : h.ok = true) : h.text ≠ elseText := by
  intro e
  have c := cut_text hk
  rw [e] at c
  have c2 : h.words = [elseText] := c.symm
  cases h with
  | set v x => simp [Head.words] at c2
  | read v => simp [Head.words] at c2
  | write a => simp [Head.words] at c2
  | halt => revert c2; decide
  | ite c => simp [Head.words, condWords] at c2
  | loop c => simp [Head.words, condWords] at c2

/-! ### one row taken -/
theorem take_head {st : RS} {d : Nat} {h : Head} (hk : h.ok = true) (hd : d ≤ st.path.length) (hw : st.waits = true → st.path.length = d) :
    take st (indent d ++ h.text) = takeStmt st d h.text := by
  obtain ⟨b, r, e, hb⟩ := first_small hk
  have hne := text_not_else hk
  unfold take
  rw [e, blanks_indent d hb]
  have e2 : 2 * d / 2 = d := by omega
  rw [e2, drop_indent, ← e, if_neg (by omega), if_neg (by rintro ⟨z, z2⟩; have := hw z; omega), if_neg hne]
theorem take_else {st : RS} {d : Nat} (hd : d ≤ st.path.length) (hw : st.waits = true → st.path.length = d) :
    take st (indent d ++ elseText) = takeElse st d := by
  have hb : (101 : UInt8) ≠ 32 := by decide
  unfold take
  rw [else_form, blanks_indent d hb]
  have e2 : 2 * d / 2 = d := by omega
  rw [e2, drop_indent, if_neg (by omega), if_neg (by rintro ⟨z, z2⟩; have := hw z; omega), if_pos rfl]
end Ld
end
section
set_option Elab.async false
set_option maxHeartbeats 1000000
namespace Ld
open Vaslca (Text Name Atom Expr Cond Op Rel Code ascii isName isAtom isExpr isCond atomText opText relText exprWords condWords spaced cutAt atomOf opOf relOf exprOf condOf linesOf deepOf isDone areStatements textAt programText line indent rowOf Row Got withCode elseOf blockOf linesIn programOf isProgram)

theorem around2_congr {a b : RS} {d : Nat} (h : a.path.take d = b.path.take d) : around2 a d = around2 b d := by
  unfold around2
  by_cases c : d = 0
  · rw [if_pos c, if_pos c]
  · rw [if_neg c, if_neg c]
    have e : ∀ l : List (Nat × Nat), l[d - 1]? = (l.take d)[d - 1]? := fun l => by rw [List.getElem?_take_of_lt (by omega)]
    rw [e a.path, e b.path, h]
theorem take_eq_get {a b : List (Nat × Nat)} {d i : Nat} (h : a.take d = b.take d) (hi : i < d) : a[i]? = b[i]? := by
  rw [← List.getElem?_take_of_lt (l := a) hi, h, List.getElem?_take_of_lt hi]

/-- lines in a row from n on -/
def Rows (n : Nat) (c : Code) : Prop := linesOf c = List.range' n (linesOf c).length
theorem range'_cons {n : Nat} {x : Nat} {l : List Nat} (h : x :: l = List.range' n (x :: l).length) : x = n ∧ l = List.range' (n + 1) l.length := by
  rw [List.length_cons, List.range'_succ] at h
  exact ⟨(List.cons.inj h).1, (List.cons.inj h).2⟩
theorem range'_app {n : Nat} {a b : List Nat} (h : a ++ b = List.range' n (a ++ b).length) : a = List.range' n a.length ∧ b = List.range' (n + a.length) b.length := by
  rw [List.length_append, ← List.range'_append_1] at h
  exact List.append_inj h (by simp)
theorem rows_set {n m v e r} (h : Rows n (.set m v e r)) : m = n ∧ Rows (n + 1) r := range'_cons h
theorem rows_read {n m v r} (h : Rows n (.read m v r)) : m = n ∧ Rows (n + 1) r := range'_cons h
theorem rows_write {n m v r} (h : Rows n (.write m v r)) : m = n ∧ Rows (n + 1) r := range'_cons h
theorem rows_halt {n m r} (h : Rows n (.halt_ m r)) : m = n ∧ Rows (n + 1) r := range'_cons h
theorem rows_ite {n m c a b r} (h : Rows n (.ite m c a b r)) : m = n ∧ Rows (n + 1) a ∧ Rows (n + 1 + (linesOf a).length) b ∧ Rows (n + 1 + (linesOf a).length + (linesOf b).length) r := by
  have q := range'_cons (show m :: (linesOf a ++ (linesOf b ++ linesOf r)) = _ from h)
  have q2 := range'_app q.2
  have q3 := range'_app q2.2
  exact ⟨q.1, q2.1, q3.1, q3.2⟩
theorem rows_loop {n m c b r} (h : Rows n (.loop m c b r)) : m = n ∧ Rows (n + 1) b ∧ Rows (n + 1 + (linesOf b).length) r := by
  have q := range'_cons (show m :: (linesOf b ++ linesOf r) = _ from h)
  have q2 := range'_app q.2
  exact ⟨q.1, q2.1, q2.2⟩
theorem rows_done (n : Nat) : Rows n .done := rfl
theorem mk_cons {n : Nat} {l : List Nat} (h : l = List.range' (n + 1) l.length) : n :: l = List.range' n (n :: l).length := by
  rw [List.length_cons, List.range'_succ, ← h]
theorem mk_app {n : Nat} {a b : List Nat} (ha : a = List.range' n a.length) (hb : b = List.range' (n + a.length) b.length) : a ++ b = List.range' n (a ++ b).length := by
  rw [List.length_append, ← List.range'_append_1, ← ha, ← hb]

/-! ### what is printed is read -/
theorem takeStmt_ok {st : RS} {d : Nat} {h : Head} {p : Int} {s : Nat} (hk : h.ok = true) (ha : around2 st d = some (p, s)) (hd : h.isHead = true → d < 3) :
    takeStmt st d h.text = some ⟨st.prog ++ [⟨h, p, s⟩], st.path.take d ++ (if h.isHead = true then [(st.prog.length, 0)] else []), h.isHead⟩ := by
  unfold takeStmt
  rw [headOf_ok hk]
  dsimp only
  rw [if_neg (by rintro ⟨z, z2⟩; have := hd z; omega), ha]
structure Read1 (st st' : RS) (d : Nat) (p : Int) (s : Nat) (c : Code) : Prop where
  prog : st'.prog = st.prog ++ flat p s c
  path : st'.path.take d = st.path.take d
  len : d ≤ st'.path.length
  done : isDone c = true → st' = st
  waits : isDone c = false → st'.waits = false
theorem takes_rows : ∀ (c : Code) (d : Nat) (p : Int) (s : Nat) (st : RS), areStatements c = true → (deepOf c = 0 ∨ d + deepOf c ≤ 3) → Rows st.prog.length c → d ≤ st.path.length → (st.waits = true → st.path.length = d) → around2 st d = some (p, s) →
    ∃ st', takes st (rowsAt d c) = some st' ∧ Read1 st st' d p s c := by
  have simple : ∀ (h : Head) (r : Code) (cc : Code) (d : Nat) (p : Int) (s : Nat) (st : RS), h.ok = true → h.isHead = false → isDone cc = false → flat p s cc = ⟨h, p, s⟩ :: flat p s r → d ≤ st.path.length → (st.waits = true → st.path.length = d) → around2 st d = some (p, s) →
      (∀ st1 : RS, st1.prog.length = st.prog.length + 1 → d ≤ st1.path.length → (st1.waits = true → st1.path.length = d) → around2 st1 d = some (p, s) → ∃ st', takes st1 (rowsAt d r) = some st' ∧ Read1 st1 st' d p s r) →
      ∃ st', takes st ((indent d ++ h.text) :: rowsAt d r) = some st' ∧ Read1 st st' d p s cc := by
    intro h r cc d p s st hk hh hc hf hd hw ha k
    have t1 := takeStmt_ok hk ha (by rw [hh]; intro z; cases z)
    have t0 := take_head hk hd hw
    rw [t1, hh] at t0
    have hl : (st.path.take d ++ ([] : List (Nat × Nat))).length = d := by simp [hd]
    have tk : (st.path.take d ++ ([] : List (Nat × Nat))).take d = st.path.take d := by rw [List.append_nil, List.take_take, Nat.min_self]
    obtain ⟨st', e, R⟩ := k ⟨st.prog ++ [⟨h, p, s⟩], st.path.take d ++ [], false⟩ (by simp) (by show d ≤ _; rw [hl]; exact Nat.le_refl d) (fun z => by cases z) (by rw [← ha]; exact around2_congr tk)
    refine ⟨st', ?_, ⟨?_, ?_, R.len, fun z => ?_, fun _ => ?_⟩⟩
    · show (match take st (indent d ++ h.text) with
        | none => none
        | some st' => takes st' (rowsAt d r)) = _
      rw [t0]
      exact e
    · rw [R.prog, hf]; simp
    · rw [R.path]; exact tk
    · rw [hc] at z; cases z
    · cases q : isDone r with
      | true => rw [R.done q]
      | false => exact R.waits q
  intro c
  induction c with
  | done =>
    intro d p s st _ _ _ hd _ _
    exact ⟨st, rfl, ⟨by simp [flat], rfl, hd, fun _ => rfl, fun z => by cases z⟩⟩
  | set m v e r ih =>
    intro d p s st hs hdp hr hd hw ha
    have hs' : (isName v && (isExpr e && areStatements r)) = true := hs
    rw [Bool.and_eq_true, Bool.and_eq_true] at hs'
    obtain ⟨_, hr'⟩ := rows_set hr
    exact simple (.set v e) r _ d p s st (by show (isName v && isExpr e) = true; rw [hs'.1, hs'.2.1]; rfl) rfl rfl rfl hd hw ha fun st1 e1 h1 h2 h3 => ih d p s st1 hs'.2.2 hdp (by rw [e1]; exact hr') h1 h2 h3
  | read m v r ih =>
    intro d p s st hs hdp hr hd hw ha
    have hs' : (isName v && areStatements r) = true := hs
    rw [Bool.and_eq_true] at hs'
    obtain ⟨_, hr'⟩ := rows_read hr
    exact simple (.read v) r _ d p s st hs'.1 rfl rfl rfl hd hw ha fun st1 e1 h1 h2 h3 => ih d p s st1 hs'.2 hdp (by rw [e1]; exact hr') h1 h2 h3
  | write m a r ih =>
    intro d p s st hs hdp hr hd hw ha
    have hs' : (isAtom a && areStatements r) = true := hs
    rw [Bool.and_eq_true] at hs'
    obtain ⟨_, hr'⟩ := rows_write hr
    exact simple (.write a) r _ d p s st hs'.1 rfl rfl rfl hd hw ha fun st1 e1 h1 h2 h3 => ih d p s st1 hs'.2 hdp (by rw [e1]; exact hr') h1 h2 h3
  | halt_ m r ih =>
    intro d p s st hs hdp hr hd hw ha
    obtain ⟨_, hr'⟩ := rows_halt hr
    exact simple .halt r _ d p s st rfl rfl rfl rfl hd hw ha fun st1 e1 h1 h2 h3 => ih d p s st1 hs hdp (by rw [e1]; exact hr') h1 h2 h3
  | ite m cc a b r iha ihb ihr =>
    intro d p s st hs hdp hr hd hw ha
    have hs' : (isCond cc && (!isDone a && (areStatements a && (areStatements b && areStatements r)))) = true := hs
    simp only [Bool.and_eq_true] at hs'
    obtain ⟨sc, sa0, sa, sb, sr⟩ := hs'
    have sa0' : isDone a = false := by simpa using sa0
    obtain ⟨rfl, ra, rb, rr⟩ := rows_ite hr
    have hdp' : d + 1 + deepOf a ≤ 3 ∧ d + 1 + deepOf b ≤ 3 ∧ d + deepOf r ≤ 3 := by
      have : deepOf (.ite st.prog.length cc a b r) = max (max (deepOf a) (deepOf b) + 1) (deepOf r) := rfl
      omega
    have t0 := take_head (st := st) (d := d) (h := .ite cc) sc hd hw
    rw [takeStmt_ok (h := .ite cc) sc ha (fun _ => by omega)] at t0
    -- behind the header
    have hl : (st.path.take d).length = d := by simp [hd]
    let st1 : RS := ⟨st.prog ++ [⟨.ite cc, p, s⟩], st.path.take d ++ [(st.prog.length, 0)], true⟩
    have l1 : st1.path.length = d + 1 := by show (st.path.take d ++ [_]).length = _; simp [hd]
    have g1 : st1.path[d]? = some (st.prog.length, 0) := by show (st.path.take d ++ [_])[d]? = _; rw [List.getElem?_append_right (by omega)]; simp [hl]
    obtain ⟨st2, e2, R2⟩ := iha (d + 1) (st.prog.length : Int) 0 st1 sa (.inr hdp'.1) (by show Rows (st.prog ++ [_]).length a; simpa using ra) (by omega) (fun _ => l1) (by unfold around2; rw [if_neg (by omega), Nat.add_sub_cancel, g1]; rfl)
    have w2 := R2.waits sa0'
    have p2 : st2.path.take d = st.path.take d := by
      have := congrArg (List.take d) R2.path
      rw [List.take_take, List.take_take] at this
      rw [show min d (d + 1) = d by omega] at this
      rw [this]
      show (st.path.take d ++ [_]).take d = _
      rw [List.take_append_of_le_length (by omega), List.take_take, Nat.min_self]
    have g2 : st2.path[d]? = some (st.prog.length, 0) := by rw [take_eq_get R2.path (by omega), g1]
    have pr2 : st2.prog = st.prog ++ (⟨.ite cc, p, s⟩ :: flat st.prog.length 0 a) := by rw [R2.prog]; show (st.prog ++ [_]) ++ _ = _; simp
    have n2 : st2.prog.length = st.prog.length + 1 + (linesOf a).length := by rw [pr2]; simp [flat_length]; omega
    -- the rest, from a state behind both blocks
    have fin : ∀ (st4 : RS), st4.prog = st2.prog ++ flat st.prog.length 1 b → st4.path.take d = st.path.take d → d ≤ st4.path.length → st4.waits = false → takes st2 ((if isDone b = true then [] else (indent d ++ elseText) :: rowsAt (d + 1) b)) = some st4 →
        ∃ st', takes st (rowsAt d (.ite st.prog.length cc a b r)) = some st' ∧ Read1 st st' d p s (.ite st.prog.length cc a b r) := by
      intro st4 pr4 p4 l4 w4 e4
      obtain ⟨st5, e5, R5⟩ := ihr d p s st4 sr (.inr hdp'.2.2) (by rw [pr4, List.length_append, flat_length, n2]; exact rr) l4 (fun z => by rw [w4] at z; cases z) (by rw [← ha]; exact around2_congr p4)
      refine ⟨st5, ?_, ⟨?_, ?_, R5.len, (fun z => by cases z), fun _ => ?_⟩⟩
      · show (match take st (indent d ++ (Head.ite cc).text) with
          | none => none
          | some st' => takes st' (rowsAt (d + 1) a ++ ((if isDone b = true then [] else (indent d ++ elseText) :: rowsAt (d + 1) b) ++ rowsAt d r))) = _
        rw [t0]
        show takes st1 _ = _
        rw [takes_append, e2]
        show takes st2 _ = _
        rw [takes_append, e4]
        exact e5
      · rw [R5.prog, pr4, pr2]; simp [flat]
      · rw [R5.path, p4]
      · cases q : isDone r with
        | true => rw [R5.done q]; exact w4
        | false => exact R5.waits q
    have l2 := R2.len
    cases hb : isDone b with
    | true =>
      have eb : b = .done := by cases b <;> first | rfl | cases hb
      refine fin st2 (by rw [eb]; simp [flat]) p2 (by omega) w2 ?_
      rw [if_pos hb]
      rfl
    | false =>
      have t3 := take_else (st := st2) (d := d) (by omega) (fun z => by rw [w2] at z; cases z)
      let st3 : RS := { st2 with path := st2.path.take d ++ [(st.prog.length, 1)], waits := true }
      have e3 : takeElse st2 d = some st3 := by
        unfold takeElse
        rw [g2]
        dsimp only
        have : st2.prog[st.prog.length]? = some ⟨.ite cc, p, s⟩ := by rw [pr2, List.getElem?_append_right (Nat.le_refl _)]; simp
        rw [this]
        rfl
      have hl3 : (st2.path.take d).length = d := by rw [p2]; exact hl
      have l3 : st3.path.length = d + 1 := by show (st2.path.take d ++ [_]).length = _; rw [List.length_append, hl3]; rfl
      have g3 : st3.path[d]? = some (st.prog.length, 1) := by show (st2.path.take d ++ [_])[d]? = _; rw [List.getElem?_append_right (by omega)]; simp [hl3]
      obtain ⟨st4, e4, R4⟩ := ihb (d + 1) (st.prog.length : Int) 1 st3 sb (.inr hdp'.2.1) (by show Rows st2.prog.length b; rw [n2]; exact rb) (by omega) (fun _ => l3) (by unfold around2; rw [if_neg (by omega), Nat.add_sub_cancel, g3]; rfl)
      have p4 : st4.path.take d = st.path.take d := by
        have := congrArg (List.take d) R4.path
        rw [List.take_take, List.take_take] at this
        rw [show min d (d + 1) = d by omega] at this
        rw [this]
        show (st2.path.take d ++ [_]).take d = _
        rw [List.take_append_of_le_length (by omega), List.take_take, Nat.min_self, p2]
      have l4 := R4.len
      refine fin st4 R4.prog p4 (by omega) (R4.waits hb) ?_
      rw [if_neg (by rw [hb]; decide)]
      show (match take st2 (indent d ++ elseText) with
        | none => none
        | some st' => takes st' (rowsAt (d + 1) b)) = _
      rw [t3, e3]
      exact e4
  | loop m cc b r ihb ihr =>
    intro d p s st hs hdp hr hd hw ha
    have hs' : (isCond cc && (!isDone b && (areStatements b && areStatements r))) = true := hs
    simp only [Bool.and_eq_true] at hs'
    obtain ⟨sc, sb0, sb, sr⟩ := hs'
    have sb0' : isDone b = false := by simpa using sb0
    obtain ⟨rfl, rb, rr⟩ := rows_loop hr
    have hdp' : d + 1 + deepOf b ≤ 3 ∧ d + deepOf r ≤ 3 := by
      have : deepOf (.loop st.prog.length cc b r) = max (deepOf b + 1) (deepOf r) := rfl
      omega
    have t0 := take_head (st := st) (d := d) (h := .loop cc) sc hd hw
    rw [takeStmt_ok (h := .loop cc) sc ha (fun _ => by omega)] at t0
    have hl : (st.path.take d).length = d := by simp [hd]
    let st1 : RS := ⟨st.prog ++ [⟨.loop cc, p, s⟩], st.path.take d ++ [(st.prog.length, 0)], true⟩
    have l1 : st1.path.length = d + 1 := by show (st.path.take d ++ [_]).length = _; simp [hd]
    have g1 : st1.path[d]? = some (st.prog.length, 0) := by show (st.path.take d ++ [_])[d]? = _; rw [List.getElem?_append_right (by omega)]; simp [hl]
    obtain ⟨st2, e2, R2⟩ := ihb (d + 1) (st.prog.length : Int) 0 st1 sb (.inr hdp'.1) (by show Rows (st.prog ++ [_]).length b; simpa using rb) (by omega) (fun _ => l1) (by unfold around2; rw [if_neg (by omega), Nat.add_sub_cancel, g1]; rfl)
    have w2 := R2.waits sb0'
    have p2 : st2.path.take d = st.path.take d := by
      have := congrArg (List.take d) R2.path
      rw [List.take_take, List.take_take] at this
      rw [show min d (d + 1) = d by omega] at this
      rw [this]
      show (st.path.take d ++ [_]).take d = _
      rw [List.take_append_of_le_length (by omega), List.take_take, Nat.min_self]
    have pr2 : st2.prog = st.prog ++ (⟨.loop cc, p, s⟩ :: flat st.prog.length 0 b) := by rw [R2.prog]; show (st.prog ++ [_]) ++ _ = _; simp
    have n2 : st2.prog.length = st.prog.length + 1 + (linesOf b).length := by rw [pr2]; simp [flat_length]; omega
    have l2 := R2.len
    obtain ⟨st5, e5, R5⟩ := ihr d p s st2 sr (.inr hdp'.2) (by rw [n2]; exact rr) (by omega) (fun z => by rw [w2] at z; cases z) (by rw [← ha]; exact around2_congr p2)
    refine ⟨st5, ?_, ⟨?_, ?_, R5.len, (fun z => by cases z), fun _ => ?_⟩⟩
    · show (match take st (indent d ++ (Head.loop cc).text) with
        | none => none
        | some st' => takes st' (rowsAt (d + 1) b ++ rowsAt d r)) = _
      rw [t0]
      show takes st1 _ = _
      rw [takes_append, e2]
      exact e5
    · rw [R5.prog, pr2]; simp [flat]
    · rw [R5.path, p2]
    · cases q : isDone r with
      | true => rw [R5.done q]; exact w2
      | false => exact R5.waits q
end Ld
end
section
set_option Elab.async false
set_option maxHeartbeats 1000000
namespace Ld
open Vaslca (Text Name Atom Expr Cond Op Rel Code Run Step Use Var Status ascii isName isAtom isExpr isCond atomText linesOf deepOf isDone areStatements exec doSet doRead doWrite doStop doTest step1 withStep withVar findVar atomValue atomUses exprValue exprUses condValue condUses held lastOf rounds STEPS only reckoned)

/-! ### a code by its statements -/
def tops : Code → List Nat
  | .done => []
  | .set n _ _ r => n :: tops r
  | .read n _ r => n :: tops r
  | .write n _ r => n :: tops r
  | .halt_ n r => n :: tops r
  | .ite n _ _ _ r => n :: tops r
  | .loop n _ _ r => n :: tops r
/-- what stands behind the first statement -/
def tl : Code → Code
  | .done => .done
  | .set _ _ _ r => r
  | .read _ _ r => r
  | .write _ _ r => r
  | .halt_ _ r => r
  | .ite _ _ _ _ r => r
  | .loop _ _ _ r => r
/-- the first statement by itself -/
def one : Code → Code
  | .done => .done
  | .set n v e _ => .set n v e .done
  | .read n v _ => .read n v .done
  | .write n a _ => .write n a .done
  | .halt_ n _ => .halt_ n .done
  | .ite n c a b _ => .ite n c a b .done
  | .loop n c b _ => .loop n c b .done
def skip : Nat → Code → Code
  | 0, c => c
  | i + 1, c => skip i (tl c)
theorem skip_succ : ∀ (i : Nat) (c : Code), skip (i + 1) c = tl (skip i c)
  | 0, _ => rfl
  | i + 1, c => skip_succ i (tl c)
theorem tops_tl : ∀ c : Code, tops (tl c) = (tops c).tail := by intro c; cases c <;> rfl
theorem tops_skip : ∀ (i : Nat) (c : Code), tops (skip i c) = (tops c).drop i
  | 0, _ => rfl
  | i + 1, c => by
    show tops (skip i (tl c)) = _
    rw [tops_skip i (tl c), tops_tl, List.drop_tail]

/-! ### runs that stand still -/
theorem step1_stop {x : Run} {f : Run → Run} (h : x.status ≠ .going) : step1 x f = x := if_pos h
theorem held_going {x : Run} (h : held x = true) : x.status = .going := by
  unfold held at h
  rw [Bool.and_eq_true] at h
  exact eq_of_beq h.1
theorem held_stop {x : Run} (h : x.status ≠ .going) : held x = false := by
  cases e : held x with
  | false => rfl
  | true => exact absurd (held_going e) h
theorem rounds_stop {body : Option Nat → Run → Run} {n : Nat} {c : Cond} {x : Run} (h : x.status ≠ .going) : ∀ (f : Nat) (k : Option Nat), rounds body n c f k x = x
  | 0, _ => rfl
  | f + 1, k => by
    have e : doTest k n c x = x := step1_stop h
    show (if held (doTest k n c x) = true then _ else doTest k n c x) = x
    rw [e, if_neg (by rw [held_stop h]; decide)]
theorem exec_stop : ∀ (c : Code) (k : Option Nat) (x : Run), x.status ≠ .going → exec c k x = x
  | .done, _, _, _ => rfl
  | .set n v e r, k, x, h => by
    show exec r k (doSet k n v e x) = x
    rw [show doSet k n v e x = x from step1_stop h]
    exact exec_stop r k x h
  | .read n v r, k, x, h => by
    show exec r k (doRead k n v x) = x
    rw [show doRead k n v x = x from step1_stop h]
    exact exec_stop r k x h
  | .write n a r, k, x, h => by
    show exec r k (doWrite k n a x) = x
    rw [show doWrite k n a x = x from step1_stop h]
    exact exec_stop r k x h
  | .halt_ n r, k, x, h => by
    show exec r k (doStop k n x) = x
    rw [show doStop k n x = x from step1_stop h]
    exact exec_stop r k x h
  | .ite n c a b r, k, x, h => by
    show exec r k (if held (doTest k n c x) = true then _ else if (doTest k n c x).status = .going then _ else doTest k n c x) = x
    rw [show doTest k n c x = x from step1_stop h, if_neg (by rw [held_stop h]; decide), if_neg h]
    exact exec_stop r k x h
  | .loop n c b r, k, x, h => by
    show exec r k (rounds (exec b) n c (STEPS + 1) k x) = x
    rw [rounds_stop h]
    exact exec_stop r k x h
theorem exec_split (l : List Nat) : ∀ (c : Code) (k : Option Nat) (x : Run), exec (only l c) k x = exec (only l (tl c)) k (exec (only l (one c)) k x)
  | .done, _, _ => rfl
  | .set n v e r, k, x => by
    show exec (if l.contains n = true then .set n v e (only l r) else only l r) k x = exec (only l r) k (exec (if l.contains n = true then .set n v e .done else .done) k x)
    split <;> rfl
  | .read n v r, k, x => by
    show exec (if l.contains n = true then .read n v (only l r) else only l r) k x = exec (only l r) k (exec (if l.contains n = true then .read n v .done else .done) k x)
    split <;> rfl
  | .write n a r, k, x => by
    show exec (if l.contains n = true then .write n a (only l r) else only l r) k x = exec (only l r) k (exec (if l.contains n = true then .write n a .done else .done) k x)
    split <;> rfl
  | .halt_ n r, k, x => by
    show exec (if l.contains n = true then .halt_ n (only l r) else only l r) k x = exec (only l r) k (exec (if l.contains n = true then .halt_ n .done else .done) k x)
    split <;> rfl
  | .ite n c a b r, k, x => by
    show exec (if l.contains n = true then .ite n c (only l a) (only l b) (only l r) else only l r) k x = exec (only l r) k (exec (if l.contains n = true then .ite n c (only l a) (only l b) .done else .done) k x)
    split <;> rfl
  | .loop n c b r, k, x => by
    show exec (if l.contains n = true then .loop n c (only l b) (only l r) else only l r) k x = exec (only l r) k (exec (if l.contains n = true then .loop n c (only l b) .done else .done) k x)
    split <;> rfl
theorem only_one_not {l : List Nat} {c : Code} {n : Nat} (h : (tops c).head? = some n) (hn : l.contains n = false) (k : Option Nat) (x : Run) : exec (only l (one c)) k x = x := by
  have hn' : ¬ n ∈ l := by simpa using hn
  cases c <;> simp [tops] at h <;> subst h <;> simp [one, only, hn', exec]

/-! ### runs that are well -/
def srcs (s : Step) : List Nat := Vaslcf.sourcesOf s
structure RunOk (x : Run) : Prop where
  len : x.steps.length ≤ 120
  val : ∀ s ∈ x.steps, s.value ≤ 999
  var : ∀ y ∈ x.vars, isName y.name = true ∧ ∃ s, x.steps[y.src]? = some s ∧ s.value = y.value
  rd : ∀ k, x.read = some k → k < x.steps.length
  src : ∀ (i : Nat) (s : Step), x.steps[i]? = some s → ∀ k ∈ srcs s, k < i
  inp : ∀ v ∈ x.input, v ≤ 999
theorem find_mem {x : Run} {v : Name} {y : Var} (h : findVar x v = some y) : y ∈ x.vars ∧ y.name = v := by
  unfold findVar at h
  exact ⟨List.mem_of_find?_eq_some h, by simpa using List.find?_some h⟩
theorem RunOk.atom {x : Run} (o : RunOk x) {a : Atom} (h : isAtom a = true) : atomValue x a ≤ 999 := by
  cases a with
  | num n =>
    have : n ≤ 99 := of_decide_eq_true h
    show n ≤ 999
    omega
  | var v =>
    show ((findVar x v).map fun y => y.value).getD 0 ≤ 999
    cases e : findVar x v with
    | none => decide
    | some y =>
      obtain ⟨hm, _⟩ := find_mem e
      obtain ⟨_, s, hs, hv⟩ := o.var y hm
      have := o.val s (List.mem_of_getElem? hs)
      show y.value ≤ 999
      omega
theorem RunOk.expr {x : Run} (o : RunOk x) {e : Expr} (h : isExpr e = true) : exprValue x e ≤ 999 := by
  have h' : (isAtom e.one && (isAtom e.two && (e.op != .alone || e.two == .num 0))) = true := h
  rw [Bool.and_eq_true] at h'
  have a1 := o.atom h'.1
  show reckoned e.op (atomValue x e.one) (atomValue x e.two) ≤ 999
  cases e.op with
  | alone => exact a1
  | add => show (_ + _) % 1000 ≤ 999; omega
  | sub => show (_ + (1000 - _ % 1000)) % 1000 ≤ 999; omega
  | mul =>
    show (_ * _) % 1000 ≤ 999
    have := Nat.mod_lt (atomValue x e.one * atomValue x e.two) (show 1000 > 0 by decide)
    omega
/-- steps from which the names come -/
def useSrc (x : Run) (as : List Atom) : List Nat := as.filterMap fun a => match a with
  | .num _ => none
  | .var v => (findVar x v).map fun y => y.src
theorem useSrc_lt {x : Run} (o : RunOk x) {as : List Atom} : ∀ k ∈ useSrc x as, k < x.steps.length := by
  intro k hk
  unfold useSrc at hk
  rw [List.mem_filterMap] at hk
  obtain ⟨a, _, ha⟩ := hk
  cases a with
  | num n => cases ha
  | var v =>
    cases e : findVar x v with
    | none => simp [e] at ha
    | some y =>
      have ha' : y.src = k := by simpa [e] using ha
      obtain ⟨hm, _⟩ := find_mem e
      obtain ⟨_, s, hs, _⟩ := o.var y hm
      rw [← ha']
      exact (List.getElem?_eq_some_iff.mp hs).1
theorem uses_src (x : Run) (a : Atom) : (atomUses x a).filterMap (fun u => u.src) = useSrc x [a] := by
  cases a with
  | num n => rfl
  | var v =>
    show [(⟨v, (findVar x v).map fun y => y.src⟩ : Use)].filterMap (fun u => u.src) = [Atom.var v].filterMap _
    simp only [List.filterMap_cons, List.filterMap_nil]
theorem mem_dup {l : List Use} {k : Nat} : k ∈ l.eraseDups.filterMap (fun u => u.src) ↔ k ∈ l.filterMap (fun u => u.src) := by
  simp [List.mem_filterMap]
theorem useSrc_app (x : Run) (a b : List Atom) : useSrc x (a ++ b) = useSrc x a ++ useSrc x b := by unfold useSrc; rw [List.filterMap_append]
theorem srcs_expr (x : Run) (e : Expr) (n v : Nat) (k : Option Nat) (m : Nat) : m ∈ srcs ⟨n, v, exprUses x e, k⟩ ↔ m ∈ useSrc x (if e.op = .alone then [e.one] else [e.one, e.two]) ++ k.toList := by
  show m ∈ (exprUses x e).filterMap (fun u => u.src) ++ k.toList ↔ _
  rw [List.mem_append, List.mem_append]
  unfold exprUses
  rw [mem_dup]
  by_cases c : e.op = .alone
  · rw [if_pos c, if_pos c, List.append_nil, uses_src]
  · rw [if_neg c, if_neg c, List.filterMap_append, uses_src, uses_src, ← useSrc_app]
    rfl
theorem srcs_cond (x : Run) (c : Cond) (n v : Nat) (k : Option Nat) (m : Nat) : m ∈ srcs ⟨n, v, condUses x c, k⟩ ↔ m ∈ useSrc x [c.one, c.two] ++ k.toList := by
  show m ∈ (condUses x c).filterMap (fun u => u.src) ++ k.toList ↔ _
  rw [List.mem_append, List.mem_append]
  unfold condUses
  rw [mem_dup, List.filterMap_append, uses_src, uses_src, ← useSrc_app]
  rfl
theorem srcs_write (x : Run) (a : Atom) (n v : Nat) (k : Option Nat) (m : Nat) : m ∈ srcs ⟨n, v, atomUses x a, k⟩ ↔ m ∈ useSrc x [a] ++ k.toList := by
  show m ∈ (atomUses x a).filterMap (fun u => u.src) ++ k.toList ↔ _
  rw [uses_src]
theorem srcs_none (n v : Nat) (k : Option Nat) : srcs ⟨n, v, [], k⟩ = k.toList := rfl
theorem srcs_read (n v : Nat) (r k : Option Nat) : srcs ⟨n, v, [⟨[], r⟩], k⟩ = r.toList ++ k.toList := by
  show [(⟨[], r⟩ : Use)].filterMap (fun u => u.src) ++ k.toList = _
  cases r <;> rfl
/-- one step more -/
theorem RunOk.step {x : Run} (o : RunOk x) {s : Step} (hl : x.steps.length < 120) (hv : s.value ≤ 999) (hs : ∀ k ∈ srcs s, k < x.steps.length) : RunOk (withStep x s) := by
  have gt : ∀ (i : Nat) (q : Step), x.steps[i]? = some q → (x.steps ++ [s])[i]? = some q := fun i q h => by
    rw [List.getElem?_append_left (List.getElem?_eq_some_iff.mp h).1]; exact h
  refine ⟨?_, fun q hq => ?_, fun y hy => ?_, fun k hk => ?_, fun i q hq k hk => ?_, o.inp⟩
  · show (x.steps ++ [s]).length ≤ 120
    rw [List.length_append]; simp; omega
  · have hq' : q ∈ x.steps ++ [s] := hq
    rcases List.mem_append.mp hq' with z | z
    · exact o.val q z
    · rw [List.mem_singleton.mp z]; exact hv
  · obtain ⟨h1, q, h2, h3⟩ := o.var y hy
    exact ⟨h1, q, gt _ _ h2, h3⟩
  · have := o.rd k hk
    show k < (x.steps ++ [s]).length
    rw [List.length_append]; omega
  · have hq' : (x.steps ++ [s])[i]? = some q := hq
    by_cases c : i < x.steps.length
    · rw [List.getElem?_append_left c] at hq'
      exact o.src i q hq' k hk
    · rw [List.getElem?_append_right (by omega)] at hq'
      have hi : i = x.steps.length := by
        have h3 := (List.getElem?_eq_some_iff.mp hq').1
        simp at h3
        omega
      subst hi
      simp at hq'
      subst hq'
      exact hs k hk
theorem RunOk.stat {x : Run} (o : RunOk x) (t : Status) : RunOk { x with status := t } := ⟨o.len, o.val, o.var, o.rd, o.src, o.inp⟩
/-- a name set by the step that is made -/
theorem RunOk.set {x : Run} (o : RunOk x) {s : Step} {v : Name} (hn : isName v = true) (hl : x.steps.length < 120) (hv : s.value ≤ 999) (hs : ∀ k ∈ srcs s, k < x.steps.length) : RunOk (withStep (withVar x v s.value) s) := by
  have o1 := o.step hl hv hs
  refine ⟨o1.len, o1.val, fun y hy => ?_, o1.rd, o1.src, o1.inp⟩
  have hy' : y ∈ (⟨v, s.value, x.steps.length⟩ : Var) :: x.vars.filter fun y => y.name != v := hy
  rcases List.mem_cons.mp hy' with rfl | hy'
  · refine ⟨hn, s, ?_, rfl⟩
    show (x.steps ++ [s])[x.steps.length]? = some s
    simp
  · exact o1.var y (List.mem_filter.mp hy').1
theorem RunOk.readd {x : Run} (o : RunOk x) (k : Nat) (inp : List Nat) (hk : k < x.steps.length) (hi : ∀ v ∈ inp, v ≤ 999) : RunOk { x with input := inp, read := some k } :=
  ⟨o.len, o.val, o.var, fun j hj => by cases Option.some.inj hj; exact hk, o.src, hi⟩
theorem find_withVar (x : Run) (v : Name) (k : Nat) (t : Name) : findVar (withVar x v k) t = if t = v then some ⟨v, k, x.steps.length⟩ else findVar x t := by
  unfold findVar withVar
  show ((⟨v, k, x.steps.length⟩ : Var) :: x.vars.filter fun y => y.name != v).find? (fun y => y.name == t) = _
  rw [List.find?_cons]
  by_cases c : t = v
  · subst c
    simp
  · have c' : (v == t) = false := by simpa using fun z : v = t => c z.symm
    rw [if_neg c]
    dsimp only
    rw [c']
    dsimp only
    induction x.vars with
    | nil => rfl
    | cons y r ih =>
      by_cases d : y.name = v
      · have d1 : (y.name != v) = false := by simp [d]
        have d2 : (y.name == t) = false := by rw [d]; exact c'
        rw [List.filter_cons, List.find?_cons, d1, d2]
        simpa using ih
      · have d1 : (y.name != v) = true := by simp [d]
        rw [List.filter_cons, d1]
        simp only [if_true]
        rw [List.find?_cons, List.find?_cons]
        cases y.name == t with
        | true => rfl
        | false => exact ih
/-! ### steps only grow -/
theorem len_step1 {x : Run} {f : Run → Run} (h : x.steps.length ≤ (f x).steps.length) : x.steps.length ≤ (step1 x f).steps.length := by
  unfold step1
  split
  · exact Nat.le_refl _
  split
  · exact Nat.le_refl _
  · exact h
theorem len_with (x : Run) (s : Step) : x.steps.length ≤ (withStep x s).steps.length := by
  show x.steps.length ≤ (x.steps ++ [s]).length
  rw [List.length_append]; omega
theorem len_set (k n v e) (x : Run) : x.steps.length ≤ (doSet k n v e x).steps.length := len_step1 (len_with (withVar x v (exprValue x e)) _)
theorem len_read (k n v) (x : Run) : x.steps.length ≤ (doRead k n v x).steps.length := len_step1 (len_with { withVar x v (x.input.headD 0) with input := x.input.drop 1, read := some x.steps.length } _)
theorem len_write (k n a) (x : Run) : x.steps.length ≤ (doWrite k n a x).steps.length := len_step1 (len_with x _)
theorem len_halt (k n) (x : Run) : x.steps.length ≤ (doStop k n x).steps.length := len_step1 (len_with x _)
theorem len_test (k n c) (x : Run) : x.steps.length ≤ (doTest k n c x).steps.length := len_step1 (len_with x _)
theorem len_rounds {body : Option Nat → Run → Run} (hb : ∀ k x, x.steps.length ≤ (body k x).steps.length) (n : Nat) (c : Cond) : ∀ (f : Nat) (k : Option Nat) (x : Run), x.steps.length ≤ (rounds body n c f k x).steps.length
  | 0, _, _ => Nat.le_refl _
  | f + 1, k, x => by
    show _ ≤ (if held (doTest k n c x) = true then rounds body n c f (lastOf (doTest k n c x)) (body (lastOf (doTest k n c x)) (doTest k n c x)) else doTest k n c x).steps.length
    split
    · exact Nat.le_trans (len_test k n c x) (Nat.le_trans (hb _ _) (len_rounds hb n c f _ _))
    · exact len_test k n c x
theorem len_exec : ∀ (c : Code) (k : Option Nat) (x : Run), x.steps.length ≤ (exec c k x).steps.length
  | .done, _, _ => Nat.le_refl _
  | .set n v e r, k, x => Nat.le_trans (len_set k n v e x) (len_exec r k _)
  | .read n v r, k, x => Nat.le_trans (len_read k n v x) (len_exec r k _)
  | .write n a r, k, x => Nat.le_trans (len_write k n a x) (len_exec r k _)
  | .halt_ n r, k, x => Nat.le_trans (len_halt k n x) (len_exec r k _)
  | .ite n c a b r, k, x => by
    refine Nat.le_trans (len_test k n c x) (Nat.le_trans ?_ (len_exec r k _))
    show _ ≤ (if held (doTest k n c x) = true then exec a (lastOf (doTest k n c x)) (doTest k n c x) else if (doTest k n c x).status = .going then exec b (lastOf (doTest k n c x)) (doTest k n c x) else doTest k n c x).steps.length
    split
    · exact len_exec a _ _
    · split
      · exact len_exec b _ _
      · exact Nat.le_refl _
  | .loop n c b r, k, x => Nat.le_trans (len_rounds (fun k x => len_exec b k x) n c _ k x) (len_exec r k _)
/-! ### a test -/
theorem test_long {x : Run} {k : Option Nat} {n : Nat} {c : Cond} (hg : x.status = .going) (h : 120 ≤ x.steps.length) : doTest k n c x = { x with status := .long } := by
  unfold doTest step1
  rw [if_neg (by rw [hg]; simp), if_pos (show STEPS ≤ x.steps.length from h)]
theorem test_step {x : Run} {k : Option Nat} {n : Nat} {c : Cond} (hg : x.status = .going) (h : x.steps.length < 120) : doTest k n c x = withStep x ⟨n, if condValue x c = true then 1 else 0, condUses x c, k⟩ := by
  unfold doTest step1
  rw [if_neg (by rw [hg]; simp), if_neg (by show ¬ 120 ≤ _; omega)]
theorem held_step {x : Run} {k : Option Nat} {n : Nat} {c : Cond} (hg : x.status = .going) (h : x.steps.length < 120) : held (doTest k n c x) = condValue x c ∧ lastOf (doTest k n c x) = some x.steps.length ∧ (doTest k n c x).status = .going ∧ (doTest k n c x).steps.length = x.steps.length + 1 := by
  rw [test_step hg h]
  refine ⟨?_, ?_, hg, ?_⟩
  · unfold held
    show (x.status == .going && ((x.steps ++ [(⟨n, if condValue x c = true then 1 else 0, condUses x c, k⟩ : Step)]).getLast?).any fun s : Step => s.value != 0) = _
    rw [hg, List.getLast?_append]
    cases condValue x c <;> simp
  · unfold lastOf
    show (if (x.steps ++ [_]).isEmpty = true then none else some ((x.steps ++ [_]).length - 1)) = _
    simp
  · show (x.steps ++ [_]).length = _
    simp
/-- a loop behind a test -/
def behindTest (body : Option Nat → Run → Run) (n : Nat) (c : Cond) (f : Nat) (y : Run) : Run := if held y = true then rounds body n c f (lastOf y) (body (lastOf y) y) else y
theorem rounds_succ (body : Option Nat → Run → Run) (n : Nat) (c : Cond) (f : Nat) (k : Option Nat) (x : Run) : rounds body n c (f + 1) k x = behindTest body n c f (doTest k n c x) := rfl
theorem begin_ok (input : List Nat) (h : ∀ v ∈ input, v ≤ 999) : RunOk (Vaslca.begin_ input) :=
  ⟨Nat.zero_le _, (fun s hs => by cases hs), (fun y hy => by cases hy), (fun k hk => by cases hk), (fun i s hs => by
    have hs' : ([] : List Step)[i]? = some s := hs
    simp at hs'), h⟩
end Ld
end
section
set_option Elab.async false
set_option maxHeartbeats 1000000
namespace Ld
open Vaslca (Text Name Atom Expr Cond Op Rel Code Run Step Use Var Status ascii isName isAtom isExpr isCond atomText linesOf deepOf isDone areStatements only indent isProgram)
/-- the lines that stand straight in a block -/
def isIn (P : List PL) (parent : Int) (side : Nat) (n : Nat) : Bool := match P[n]? with
  | some l => decide (l.parent = parent) && decide (l.side = side)
  | none => false
def insideL (P : List PL) (parent : Int) (side : Nat) : List Nat := (List.range P.length).filter (isIn P parent side)
/-- the headers around each line -/
def Arounds (P : List PL) (A : Nat → List Nat) : Prop := ∀ i l, P[i]? = some l → (l.parent = -1 ∧ A i = []) ∨ ∃ q : Nat, l.parent = (q : Int) ∧ q < i ∧ A i = A q ++ [q]
/-- a line's parent is none, or among these -/
def keepL (P : List PL) (left : List Nat) (n : Nat) : Bool := match P[n]? with
  | some l => decide (l.parent = -1) || left.any (fun m => decide ((m : Int) = l.parent))
  | none => false
def aloneL (P : List PL) (ls : List Nat) : List Nat := ls.foldl (fun left n => if keepL P left n = true then left ++ [n] else left) []
def rowText (deep : Nat) (t : Text) : Text := indent deep ++ (t ++ [10])
/-- a line's rows in a text: its own, ahead of it that of its else -/
def stepText (P : List PL) (A : Nat → List Nat) (s : Text × List Int) (n : Nat) : Text × List Int := match P[n]? with
  | some l => if l.side = 1 ∧ ¬ l.parent ∈ s.2 then (s.1 ++ rowText ((A n).length - 1) elseText ++ rowText (A n).length l.head.text, s.2 ++ [l.parent]) else (s.1 ++ rowText (A n).length l.head.text, s.2)
  | none => s
def textL (P : List PL) (A : Nat → List Nat) (ls : List Nat) : Text := (ls.foldl (stepText P A) ([], [])).1
/-- a code's lines stand in the flat program -/
def Has (P : List PL) : Int → Nat → Code → Prop
  | _, _, .done => True
  | p, s, .set n v e r => P[n]? = some ⟨.set v e, p, s⟩ ∧ Has P p s r
  | p, s, .read n v r => P[n]? = some ⟨.read v, p, s⟩ ∧ Has P p s r
  | p, s, .write n a r => P[n]? = some ⟨.write a, p, s⟩ ∧ Has P p s r
  | p, s, .halt_ n r => P[n]? = some ⟨.halt, p, s⟩ ∧ Has P p s r
  | p, s, .ite n c a b r => P[n]? = some ⟨.ite c, p, s⟩ ∧ insideL P n 0 = tops a ∧ insideL P n 1 = tops b ∧ Has P n 0 a ∧ Has P n 1 b ∧ Has P p s r
  | p, s, .loop n c b r => P[n]? = some ⟨.loop c, p, s⟩ ∧ insideL P n 0 = tops b ∧ Has P n 0 b ∧ Has P p s r
theorem Has.tl {P : List PL} {p : Int} {s : Nat} : ∀ {c : Code}, Has P p s c → Has P p s (tl c)
  | .done, _ => trivial
  | .set _ _ _ _, h => h.2
  | .read _ _ _, h => h.2
  | .write _ _ _, h => h.2
  | .halt_ _ _, h => h.2
  | .ite _ _ _ _ _, h => h.2.2.2.2.2
  | .loop _ _ _ _, h => h.2.2.2
theorem Has.one {P : List PL} {p : Int} {s : Nat} : ∀ {c : Code}, Has P p s c → Has P p s (one c)
  | .done, _ => trivial
  | .set _ _ _ _, h => ⟨h.1, trivial⟩
  | .read _ _ _, h => ⟨h.1, trivial⟩
  | .write _ _ _, h => ⟨h.1, trivial⟩
  | .halt_ _ _, h => ⟨h.1, trivial⟩
  | .ite _ _ _ _ _, h => ⟨h.1, h.2.1, h.2.2.1, h.2.2.2.1, h.2.2.2.2.1, trivial⟩
  | .loop _ _ _ _, h => ⟨h.1, h.2.1, h.2.2.1, trivial⟩
theorem Has.skip {P : List PL} {p : Int} {s : Nat} : ∀ (i : Nat) {c : Code}, Has P p s c → Has P p s (skip i c)
  | 0, _, h => h
  | i + 1, _, h => Has.skip i h.tl
theorem deep_tl : ∀ c : Code, deepOf (tl c) ≤ deepOf c := by
  intro c
  cases c <;> simp only [tl, deepOf] <;> omega
theorem deep_skip : ∀ (i : Nat) (c : Code), deepOf (skip i c) ≤ deepOf c
  | 0, _ => Nat.le_refl _
  | i + 1, c => Nat.le_trans (deep_skip i (tl c)) (deep_tl c)
theorem deep_one : ∀ c : Code, deepOf (one c) ≤ deepOf c := by
  intro c
  cases c <;> simp only [one, deepOf] <;> omega
/-- a flat program and its code -/
structure Good (P : List PL) (c : Code) : Prop where
  has : Has P (-1) 0 c
  ins : insideL P (-1) 0 = tops c
  deep : deepOf c ≤ 3
  lines : linesOf c = List.range P.length
  len : P.length ≤ 14
theorem only_all : ∀ (l : List Nat) (c : Code), (∀ n ∈ linesOf c, l.contains n = true) → only l c = c
  | _, .done, _ => rfl
  | l, .set n v e r, h => by
    show (if l.contains n = true then _ else _) = _
    rw [if_pos (h n (by simp [linesOf])), only_all l r fun m hm => h m (by simp [linesOf, hm])]
  | l, .read n v r, h => by
    show (if l.contains n = true then _ else _) = _
    rw [if_pos (h n (by simp [linesOf])), only_all l r fun m hm => h m (by simp [linesOf, hm])]
  | l, .write n a r, h => by
    show (if l.contains n = true then _ else _) = _
    rw [if_pos (h n (by simp [linesOf])), only_all l r fun m hm => h m (by simp [linesOf, hm])]
  | l, .halt_ n r, h => by
    show (if l.contains n = true then _ else _) = _
    rw [if_pos (h n (by simp [linesOf])), only_all l r fun m hm => h m (by simp [linesOf, hm])]
  | l, .ite n c a b r, h => by
    show (if l.contains n = true then _ else _) = _
    rw [if_pos (h n (by simp [linesOf])), only_all l a fun m hm => h m (by simp [linesOf, hm]), only_all l b fun m hm => h m (by simp [linesOf, hm]), only_all l r fun m hm => h m (by simp [linesOf, hm])]
  | l, .loop n c b r, h => by
    show (if l.contains n = true then _ else _) = _
    rw [if_pos (h n (by simp [linesOf])), only_all l b fun m hm => h m (by simp [linesOf, hm]), only_all l r fun m hm => h m (by simp [linesOf, hm])]
theorem only_range {P : List PL} {c : Code} (g : Good P c) : only (List.range P.length) c = c := only_all _ c fun n hn => by
  rw [g.lines] at hn
  rw [List.contains_iff_mem]
  exact hn
end Ld
end
section
set_option Elab.async false
set_option maxRecDepth 100000
set_option maxHeartbeats 4000000
namespace Ld
open PySem PySem.Spec PyProof.Rows L2
/-- the i-th statement of the program -/
def top (i : Nat) : Stmt := PySem.Challenge.pw_leastlinesdesk_s01_answers.main.body.getD i (.Pass ⟨0, 0, 0, 0⟩)
/-- the classes' places -/
structure Cs where
  run : Addr
  stm : Addr
  prg : Addr
  rdr : Addr
  msr : Addr
  dsk : Addr
section
variable (P : Program) (w : World) (K : PySem.W.Frag) (mg : Str → Option Value) (base : Heap)
/-- a def, a method, a class with its __init__, as the top leaves them -/
def DefF (nm : Str) (st : Stmt) (ps : List Str) : Prop := ∃ f fd, mg nm = some (.ref f) ∧ Fun K nm nm st f fd ∧ Binds K fd ps []
def DefM (C : Addr) (m qual : Str) (st : Stmt) (ps : List Str) : Prop := ∃ f fd, Meth K C m f ∧ Fun K m qual st f fd ∧ Binds K fd ps []
def DefI (C : Addr) (qual : Str) (st : Stmt) (ps : List Str) : Prop := ∃ f fd, Mk K C f ∧ Fun K "__init__" qual st f fd ∧ Binds K fd ps []
/-- and that they keep their promises -/
def OkF (k : Nat) (nm : Str) (ps : List Str) (sp : Sp) : Prop := ∃ f fd, mg nm = some (.ref f) ∧ PySem.W.keepIn K (.ref f) = true ∧ Binds K fd ps [] ∧ FnOk P w K mg base CX0 k f fd ps sp
def OkM (C : Addr) (k : Nat) (m : Str) (ps : List Str) (sp : Sp) : Prop := ∃ f fd, Meth K C m f ∧ Binds K fd ps [] ∧ FnOk P w K mg base CX0 k f fd ps sp
def OkI (C : Addr) (k : Nat) (ps : List Str) (sp : Sp) : Prop := ∃ f fd, Mk K C f ∧ Binds K fd ps [] ∧ FnOk P w K mg base CX0 k f fd ps sp
end
section
variable {X : Cx} {k : Nat} {C : Addr} {ps : List Str} {sp : Sp} {x m : Str} {p pos apos : Pos} {e o : Expr} {es : List Expr} {ta : TE} {t : TA}
theorem pe_cf (h : OkF X.prog X.w X.K X.mg X.base k x ps sp) (hr : Room k X.A) (hg : Gl X x) (ha : PA X (e :: es) t) (hdb : (x == ("__debug__" : Str)) = false := by decide)
    (he : starEach (e :: es) X.env = (false, eval e X.env) :: starEach es X.env := by rfl) (hpl : (backTo pos (starEach es X.env)).any (·.1) = false := by rfl) :
    PE X (.Call (.Name x p) (e :: es) [] pos) (tCall sp [] E0 t) := by
  obtain ⟨f, fd, hm, hk, hb, F⟩ := h
  exact pe_call F hr hg hm hk hb .nil pass0 ha hdb he hpl
theorem pe_cf0 (h : OkF X.prog X.w X.K X.mg X.base k x ps sp) (hr : Room k X.A) (hg : Gl X x) (hdb : (x == ("__debug__" : Str)) = false := by decide) :
    PE X (.Call (.Name x p) [] [] pos) (tCall sp [] E0 tNil) := by
  obtain ⟨f, fd, hm, hk, hb, F⟩ := h
  exact pe_call0 F hr hg hm hk hb .nil pass0 hdb
theorem pe_cm {pl : Sem Bool} (he : PE X o ta) (c : Cls X.K C) (h : OkM X.prog X.w X.K X.mg X.base C k m ps sp) (hr : Room k X.A) (ha : PA X (e :: es) t)
    (hst : starEach (e :: es) X.env = (false, eval e X.env) :: starEach es X.env := by rfl) (hpl : (backTo pos (starEach es X.env)).any (·.1) = false := by rfl)
    (ht : eval (.Call (.Attribute o m apos) (e :: es) [] pos) X.env = (do
      let ov ← eval o X.env
      standAt apos.atName
      let (f, first) ← holding [ov] (getMethod ov m pl)
      callWith pos f first (backTo pos (starEach (e :: es) X.env)) (backToKw pos (keywordEach [] X.env))) := by rfl) :
    PE X (.Call (.Attribute o m apos) (e :: es) [] pos) (tMeth C m sp [] E0 ta t) := by
  obtain ⟨f, fd, hm, hb, F⟩ := h
  exact pe_meth he c hm F hr hb .nil pass0 ha hst hpl ht
theorem pe_cm0 {pl : Sem Bool} (he : PE X o ta) (c : Cls X.K C) (h : OkM X.prog X.w X.K X.mg X.base C k m ps sp) (hr : Room k X.A)
    (ht : eval (.Call (.Attribute o m apos) [] [] pos) X.env = (do
      let ov ← eval o X.env
      standAt apos.atName
      let (f, first) ← holding [ov] (getMethod ov m pl)
      callWith pos f first (backTo pos (starEach [] X.env)) (backToKw pos (keywordEach [] X.env))) := by rfl) :
    PE X (.Call (.Attribute o m apos) [] [] pos) (tMeth C m sp [] E0 ta tNil) := by
  obtain ⟨f, fd, hm, hb, F⟩ := h
  exact pe_meth0 he c hm F hr hb .nil pass0 ht
theorem pe_mk (h : OkI X.prog X.w X.K X.mg X.base C k ps sp) (hr : Room (k + 1) X.A) (hg : Gl X x) (hm : X.mg x = some (.ref C)) (ha : PA X (e :: es) t) (hdb : (x == ("__debug__" : Str)) = false := by decide)
    (he : starEach (e :: es) X.env = (false, eval e X.env) :: starEach es X.env := by rfl) (hpl : (backTo pos (starEach es X.env)).any (·.1) = false := by rfl) :
    PE X (.Call (.Name x p) (e :: es) [] pos) (tMake C sp [] E0 t) := by
  obtain ⟨f, fd, M, hb, F⟩ := h
  exact pe_make M F hr hg hm hb .nil pass0 ha hdb he hpl
theorem pe_mk0 (h : OkI X.prog X.w X.K X.mg X.base C k ps sp) (hr : Room (k + 1) X.A) (hg : Gl X x) (hm : X.mg x = some (.ref C)) (hdb : (x == ("__debug__" : Str)) = false := by decide) :
    PE X (.Call (.Name x p) [] [] pos) (tMake C sp [] E0 tNil) := by
  obtain ⟨f, fd, M, hb, F⟩ := h
  exact pe_make0 M F hr hg hm hb .nil pass0 hdb
theorem pe_gi {n : Int} (hg : Gl X x) (h : ∃ t, X.mg x = some (.int n t)) (hd : (x == ("__debug__" : Str)) = false := by decide) : PE X (.Name x pos) (tC (.int n)) := by
  obtain ⟨t, h⟩ := h
  exact pe_glob hg h ⟨t, rfl⟩ hd
end
section
variable {X : Cx} {K : PySem.W.Frag} {e : Expr} {ta : TE} {f : Str} {pos : Pos}
/-- the same, the written part by its own name (within a comprehension) -/
theorem pe_fldK (he : PE X e ta) (hb : attributeBase e f X.env (eval e X.env) = eval e X.env) (hK : X.K = K) : PE X (.Attribute e f pos) (tFld K ta f) := by subst hK; exact pe_fld he hb
theorem ix_listK (hK : X.K = K) : IxR X (rIxL K) := by subst hK; exact ix_list
theorem ix_tupK (hK : X.K = K) : IxR X (rIxT K) := by subst hK; exact ix_tup
theorem op_in_seqK (hK : X.K = K) : OpR X (compareOp .In) (rIn K false) := by subst hK; exact op_in_seq
theorem op_notIn_seqK (hK : X.K = K) : OpR X (compareOp .NotIn) (rIn K true) := by subst hK; exact op_notIn_seq
end
structure Txt (K : PySem.W.Frag) (mg : Str → Option Value) (C : Cs) : Prop where
  cl_run : Cls K C.run
  g_Run : mg "Run" = some (.ref C.run)
  n_run_program : NoAttr K C.run "program"
  n_run_data : NoAttr K C.run "data"
  n_run_lines : NoAttr K C.run "lines"
  n_run_steps : NoAttr K C.run "steps"
  n_run_came : NoAttr K C.run "came"
  n_run_reads : NoAttr K C.run "reads"
  n_run_how : NoAttr K C.run "how"
  cl_stm : Cls K C.stm
  g_Statement : mg "Statement" = some (.ref C.stm)
  n_stm_kind : NoAttr K C.stm "kind"
  n_stm_written : NoAttr K C.stm "written"
  n_stm_name : NoAttr K C.stm "name"
  n_stm_atoms : NoAttr K C.stm "atoms"
  n_stm_sign : NoAttr K C.stm "sign"
  cl_prg : Cls K C.prg
  g_Program : mg "Program" = some (.ref C.prg)
  n_prg_statements : NoAttr K C.prg "statements"
  n_prg_parents : NoAttr K C.prg "parents"
  n_prg_sides : NoAttr K C.prg "sides"
  cl_rdr : Cls K C.rdr
  g_Reader : mg "Reader" = some (.ref C.rdr)
  n_rdr_program : NoAttr K C.rdr "program"
  n_rdr_path : NoAttr K C.rdr "path"
  n_rdr_waits : NoAttr K C.rdr "waits"
  cl_msr : Cls K C.msr
  g_Measure : mg "Measure" = some (.ref C.msr)
  n_msr_program : NoAttr K C.msr "program"
  n_msr_places : NoAttr K C.msr "places"
  n_msr_wanted : NoAttr K C.msr "wanted"
  cl_dsk : Cls K C.dsk
  g_Desk : mg "Desk" = some (.ref C.dsk)
  n_dsk_program : NoAttr K C.dsk "program"
  n_dsk_givens : NoAttr K C.dsk "givens"
  n_dsk_places : NoAttr K C.dsk "places"
  len : mg "len" = none
  ord : mg "ord" = none
  range : mg "range" = none
  list : mg "list" = none
  tuple : mg "tuple" = none
  str : mg "str" = none
  reversed : mg "reversed" = none
  c_END : ∃ t, mg "END" = some (.int 10 t)
  c_BLANK : ∃ t, mg "BLANK" = some (.int 32 t)
  c_COLON : ∃ t, mg "COLON" = some (.int 58 t)
  c_ZERO : ∃ t, mg "ZERO" = some (.int 48 t)
  c_SMALL_A : ∃ t, mg "SMALL_A" = some (.int 97 t)
  c_SMALL_Z : ∃ t, mg "SMALL_Z" = some (.int 122 t)
  c_MOST_STEPS : ∃ t, mg "MOST_STEPS" = some (.int 120 t)
  c_ENDED : ∃ t, mg "ENDED" = some (.int 0 t)
  c_STOPPED : ∃ t, mg "STOPPED" = some (.int 1 t)
  c_LONG : ∃ t, mg "LONG" = some (.int 2 t)
  c_MOST_LINES : ∃ t, mg "MOST_LINES" = some (.int 14 t)
  c_MOST_DEEP : ∃ t, mg "MOST_DEEP" = some (.int 3 t)
  c_MOST_INPUTS : ∃ t, mg "MOST_INPUTS" = some (.int 4 t)
  c_MOST_GIVEN : ∃ t, mg "MOST_GIVEN" = some (.int 6 t)
  c_MOST_PLACES : ∃ t, mg "MOST_PLACES" = some (.int 3 t)
  c_MOST_FOR_LEAST : ∃ t, mg "MOST_FOR_LEAST" = some (.int 10 t)
  f_codes : DefF K mg "codes" (top 7) ["word"]
  f_which : DefF K mg "which" (top 8) ["word", "choices"]
  f_is_digit : DefF K mg "is_digit" (top 9) ["byte"]
  f_all_small : DefF K mg "all_small" (top 10) ["word"]
  f_is_name : DefF K mg "is_name" (top 11) ["word"]
  f_is_number : DefF K mg "is_number" (top 12) ["word"]
  f_is_atom : DefF K mg "is_atom" (top 13) ["word"]
  f_number_of : DefF K mg "number_of" (top 14) ["word"]
  f_run_lines : DefF K mg "run_lines" (top 21) ["program", "data", "lines"]
  f_run_all : DefF K mg "run_all" (top 22) ["program", "data"]
  f_ends_well : DefF K mg "ends_well" (top 24) ["text"]
  f_rows_of : DefF K mg "rows_of" (top 25) ["text"]
  f_blanks_ahead : DefF K mg "blanks_ahead" (top 26) ["row"]
  f_words_of : DefF K mg "words_of" (top 27) ["row"]
  f_read_statement : DefF K mg "read_statement" (top 30) ["row"]
  f_read_stop : DefF K mg "read_stop" (top 31) ["row", "words"]
  f_read_read : DefF K mg "read_read" (top 32) ["row", "words"]
  f_read_write : DefF K mg "read_write" (top 33) ["row", "words"]
  f_read_test : DefF K mg "read_test" (top 34) ["kind", "row", "words"]
  f_read_set : DefF K mg "read_set" (top 35) ["row", "words"]
  f_read_program : DefF K mg "read_program" (top 41) ["text"]
  f_alone : DefF K mg "alone" (top 42) ["program", "lines"]
  f_one_row : DefF K mg "one_row" (top 43) ["deep", "written"]
  f_text_of : DefF K mg "text_of" (top 44) ["program", "lines"]
  f_rows_at : DefF K mg "rows_at" (top 46) ["run", "places"]
  f_wanted_rows : DefF K mg "wanted_rows" (top 47) ["program", "givens", "places"]
  f_go_through : DefF K mg "go_through" (top 49) ["measure", "lines"]
  f_one_by_one : DefF K mg "one_by_one" (top 50) ["measure"]
  f_one_longer : DefF K mg "one_longer" (top 51) ["program", "choices"]
  f_all_least : DefF K mg "all_least" (top 52) ["measure"]
  f_joined_lines : DefF K mg "joined_lines" (top 53) ["program", "givens", "places"]
  f_steps_behind : DefF K mg "steps_behind" (top 55) ["steps", "number"]
  f_in_words : DefF K mg "in_words" (top 56) ["program", "step"]
  f_counted : DefF K mg "counted" (top 62) ["things"]
  f_all_values : DefF K mg "all_values" (top 63) ["numbers"]
  f_rising_lines : DefF K mg "rising_lines" (top 64) ["numbers", "many"]
  f_has_row : DefF K mg "has_row" (top 67) ["op"]
  f_how_many_numbers : DefF K mg "how_many_numbers" (top 68) ["op"]
  f_call_end : DefF K mg "call_end" (top 69) ["calls", "at"]
  f_answer_row : DefF K mg "answer_row" (top 70) ["desk", "op", "row"]
  f_answer_plain : DefF K mg "answer_plain" (top 71) ["desk", "op"]
  f_answer_call : DefF K mg "answer_call" (top 72) ["desk", "calls", "at"]
  f_answers : DefF K mg "answers" (top 73) ["calls"]
  m_Run_init : DefI K C.run "Run.__init__" (inClass (top 20) 0) ["self", "program", "data", "lines"]
  m_Run_value : DefM K C.run "value" "Run.value" (inClass (top 20) 1) ["self", "atom"]
  m_Run_sources : DefM K C.run "sources" "Run.sources" (inClass (top 20) 2) ["self", "line", "let"]
  m_Run_make_step : DefM K C.run "make_step" "Run.make_step" (inClass (top 20) 3) ["self", "line", "value", "froms"]
  m_Run_reckon : DefM K C.run "reckon" "Run.reckon" (inClass (top 20) 4) ["self", "statement"]
  m_Run_holds : DefM K C.run "holds" "Run.holds" (inClass (top 20) 5) ["self", "statement"]
  m_Run_do_block : DefM K C.run "do_block" "Run.do_block" (inClass (top 20) 6) ["self", "parent", "side", "let"]
  m_Run_do_line : DefM K C.run "do_line" "Run.do_line" (inClass (top 20) 7) ["self", "line", "let"]
  m_Run_do_set : DefM K C.run "do_set" "Run.do_set" (inClass (top 20) 8) ["self", "line", "let"]
  m_Run_do_read : DefM K C.run "do_read" "Run.do_read" (inClass (top 20) 9) ["self", "line", "let"]
  m_Run_do_write : DefM K C.run "do_write" "Run.do_write" (inClass (top 20) 10) ["self", "line", "let"]
  m_Run_do_stop : DefM K C.run "do_stop" "Run.do_stop" (inClass (top 20) 11) ["self", "line", "let"]
  m_Run_do_test : DefM K C.run "do_test" "Run.do_test" (inClass (top 20) 12) ["self", "line", "let"]
  m_Run_do_if : DefM K C.run "do_if" "Run.do_if" (inClass (top 20) 13) ["self", "line", "let"]
  m_Run_do_while : DefM K C.run "do_while" "Run.do_while" (inClass (top 20) 14) ["self", "line", "let"]
  m_Run_ask_again : DefM K C.run "ask_again" "Run.ask_again" (inClass (top 20) 15) ["self", "line", "last"]
  m_Run_row : DefM K C.run "row" "Run.row" (inClass (top 20) 16) ["self", "line"]
  m_Run_numbers_at : DefM K C.run "numbers_at" "Run.numbers_at" (inClass (top 20) 17) ["self", "line"]
  m_Statement_init : DefI K C.stm "Statement.__init__" (inClass (top 29) 0) ["self", "kind", "written", "name", "atoms", "sign"]
  m_Statement_is_header : DefM K C.stm "is_header" "Statement.is_header" (inClass (top 29) 1) ["self"]
  m_Program_init : DefI K C.prg "Program.__init__" (inClass (top 39) 0) ["self"]
  m_Program_join_line : DefM K C.prg "join_line" "Program.join_line" (inClass (top 39) 1) ["self", "statement", "parent", "side"]
  m_Program_many : DefM K C.prg "many" "Program.many" (inClass (top 39) 2) ["self"]
  m_Program_inside : DefM K C.prg "inside" "Program.inside" (inClass (top 39) 3) ["self", "parent", "side"]
  m_Program_depth : DefM K C.prg "depth" "Program.depth" (inClass (top 39) 4) ["self", "line"]
  m_Reader_init : DefI K C.rdr "Reader.__init__" (inClass (top 40) 0) ["self"]
  m_Reader_take : DefM K C.rdr "take" "Reader.take" (inClass (top 40) 1) ["self", "row"]
  m_Reader_take_else : DefM K C.rdr "take_else" "Reader.take_else" (inClass (top 40) 2) ["self", "deep"]
  m_Reader_take_statement : DefM K C.rdr "take_statement" "Reader.take_statement" (inClass (top 40) 3) ["self", "deep", "rest"]
  m_Measure_init : DefI K C.msr "Measure.__init__" (inClass (top 48) 0) ["self", "program", "givens", "places"]
  m_Measure_is_enough : DefM K C.msr "is_enough" "Measure.is_enough" (inClass (top 48) 1) ["self", "lines"]
  m_Desk_init : DefI K C.dsk "Desk.__init__" (inClass (top 65) 0) ["self"]
  m_Desk_has_line : DefM K C.dsk "has_line" "Desk.has_line" (inClass (top 65) 1) ["self", "line"]
  m_Desk_has_given : DefM K C.dsk "has_given" "Desk.has_given" (inClass (top 65) 2) ["self", "i"]
  m_Desk_measure : DefM K C.dsk "measure" "Desk.measure" (inClass (top 65) 3) ["self"]
  m_Desk_answer_program : DefM K C.dsk "answer_program" "Desk.answer_program" (inClass (top 65) 4) ["self", "text"]
  m_Desk_answer_given : DefM K C.dsk "answer_given" "Desk.answer_given" (inClass (top 65) 5) ["self", "given"]
  m_Desk_answer_place : DefM K C.dsk "answer_place" "Desk.answer_place" (inClass (top 65) 6) ["self", "line"]
  m_Desk_answer_clear : DefM K C.dsk "answer_clear" "Desk.answer_clear" (inClass (top 65) 7) ["self"]
  m_Desk_answer_enough : DefM K C.dsk "answer_enough" "Desk.answer_enough" (inClass (top 65) 8) ["self", "kept"]
  m_Desk_answer_byone : DefM K C.dsk "answer_byone" "Desk.answer_byone" (inClass (top 65) 9) ["self"]
  m_Desk_answer_least : DefM K C.dsk "answer_least" "Desk.answer_least" (inClass (top 65) 10) ["self"]
  m_Desk_answer_joined : DefM K C.dsk "answer_joined" "Desk.answer_joined" (inClass (top 65) 11) ["self"]
  m_Desk_answer_rows : DefM K C.dsk "answer_rows" "Desk.answer_rows" (inClass (top 65) 12) ["self", "i"]
  m_Desk_refuse_value : DefM K C.dsk "refuse_value" "Desk.refuse_value" (inClass (top 65) 13) ["self", "i", "line", "k"]
  m_Desk_answer_explain : DefM K C.dsk "answer_explain" "Desk.answer_explain" (inClass (top 65) 14) ["self", "i", "line", "k"]
  m_Desk_answer_chain : DefM K C.dsk "answer_chain" "Desk.answer_chain" (inClass (top 65) 15) ["self", "i", "line", "k"]
  m_Desk_answer_size : DefM K C.dsk "answer_size" "Desk.answer_size" (inClass (top 65) 16) ["self"]
theorem lk_here {k : Str} {v : V} {r : List (Str × V)} : List.lookup k ((k, v) :: r) = some v := by
  have e : (k == k) = true := beq_self_eq_true k
  simp only [List.lookup, e]
theorem lk_past {k g : Str} {v : V} {r : List (Str × V)} (h : (k == g) = false) : List.lookup k ((g, v) :: r) = List.lookup k r := by
  simp only [List.lookup, h]
theorem put_here {f : Str} {v x : V} {r : List (Str × V)} : putF f v ((f, x) :: r) = (f, v) :: r := if_pos rfl
theorem put_past {f g : Str} {v x : V} {r : List (Str × V)} (h : ¬ g = f) : putF f v ((g, x) :: r) = (g, x) :: putF f v r := if_neg h
theorem lookup_no : ∀ {l : List (Str × V)} {ns : List Str} {m : Str}, l.map Prod.fst = ns → (ns.all fun x => !(m == x)) = true → l.lookup m = none
  | [], _, _, _, _ => rfl
  | (f, v) :: l, ns, m, e, h => by
    subst e
    rw [List.map_cons, List.all_cons, Bool.and_eq_true] at h
    have h1 : (m == f) = false := by simpa using h.1
    rw [lk_past h1]
    exact lookup_no rfl h.2
/-- a Run's attributes -/
def fs_run (v0 v1 v2 v3 v4 v5 v6 : V) : List (Str × V) := [("program", v0), ("data", v1), ("lines", v2), ("steps", v3), ("came", v4), ("reads", v5), ("how", v6)]
section
variable {v0 v1 v2 v3 v4 v5 v6 y : V}
theorem fs_run_program : (fs_run v0 v1 v2 v3 v4 v5 v6).lookup ("program" : Str) = some v0 := lk_here
theorem fs_run_put_program : putF "program" y (fs_run v0 v1 v2 v3 v4 v5 v6) = fs_run y v1 v2 v3 v4 v5 v6 := put_here
theorem fs_run_data : (fs_run v0 v1 v2 v3 v4 v5 v6).lookup ("data" : Str) = some v1 := (lk_past (by decide +kernel)).trans (lk_here)
theorem fs_run_put_data : putF "data" y (fs_run v0 v1 v2 v3 v4 v5 v6) = fs_run v0 y v2 v3 v4 v5 v6 := (put_past (by decide +kernel)).trans (congrArg _ (put_here))
theorem fs_run_lines : (fs_run v0 v1 v2 v3 v4 v5 v6).lookup ("lines" : Str) = some v2 := (lk_past (by decide +kernel)).trans ((lk_past (by decide +kernel)).trans (lk_here))
theorem fs_run_put_lines : putF "lines" y (fs_run v0 v1 v2 v3 v4 v5 v6) = fs_run v0 v1 y v3 v4 v5 v6 := (put_past (by decide +kernel)).trans (congrArg _ ((put_past (by decide +kernel)).trans (congrArg _ (put_here))))
theorem fs_run_steps : (fs_run v0 v1 v2 v3 v4 v5 v6).lookup ("steps" : Str) = some v3 := (lk_past (by decide +kernel)).trans ((lk_past (by decide +kernel)).trans ((lk_past (by decide +kernel)).trans (lk_here)))
theorem fs_run_put_steps : putF "steps" y (fs_run v0 v1 v2 v3 v4 v5 v6) = fs_run v0 v1 v2 y v4 v5 v6 := (put_past (by decide +kernel)).trans (congrArg _ ((put_past (by decide +kernel)).trans (congrArg _ ((put_past (by decide +kernel)).trans (congrArg _ (put_here))))))
theorem fs_run_came : (fs_run v0 v1 v2 v3 v4 v5 v6).lookup ("came" : Str) = some v4 := (lk_past (by decide +kernel)).trans ((lk_past (by decide +kernel)).trans ((lk_past (by decide +kernel)).trans ((lk_past (by decide +kernel)).trans (lk_here))))
theorem fs_run_put_came : putF "came" y (fs_run v0 v1 v2 v3 v4 v5 v6) = fs_run v0 v1 v2 v3 y v5 v6 := (put_past (by decide +kernel)).trans (congrArg _ ((put_past (by decide +kernel)).trans (congrArg _ ((put_past (by decide +kernel)).trans (congrArg _ ((put_past (by decide +kernel)).trans (congrArg _ (put_here))))))))
theorem fs_run_reads : (fs_run v0 v1 v2 v3 v4 v5 v6).lookup ("reads" : Str) = some v5 := (lk_past (by decide +kernel)).trans ((lk_past (by decide +kernel)).trans ((lk_past (by decide +kernel)).trans ((lk_past (by decide +kernel)).trans ((lk_past (by decide +kernel)).trans (lk_here)))))
theorem fs_run_put_reads : putF "reads" y (fs_run v0 v1 v2 v3 v4 v5 v6) = fs_run v0 v1 v2 v3 v4 y v6 := (put_past (by decide +kernel)).trans (congrArg _ ((put_past (by decide +kernel)).trans (congrArg _ ((put_past (by decide +kernel)).trans (congrArg _ ((put_past (by decide +kernel)).trans (congrArg _ ((put_past (by decide +kernel)).trans (congrArg _ (put_here))))))))))
theorem fs_run_how : (fs_run v0 v1 v2 v3 v4 v5 v6).lookup ("how" : Str) = some v6 := (lk_past (by decide +kernel)).trans ((lk_past (by decide +kernel)).trans ((lk_past (by decide +kernel)).trans ((lk_past (by decide +kernel)).trans ((lk_past (by decide +kernel)).trans ((lk_past (by decide +kernel)).trans (lk_here))))))
theorem fs_run_put_how : putF "how" y (fs_run v0 v1 v2 v3 v4 v5 v6) = fs_run v0 v1 v2 v3 v4 v5 y := (put_past (by decide +kernel)).trans (congrArg _ ((put_past (by decide +kernel)).trans (congrArg _ ((put_past (by decide +kernel)).trans (congrArg _ ((put_past (by decide +kernel)).trans (congrArg _ ((put_past (by decide +kernel)).trans (congrArg _ ((put_past (by decide +kernel)).trans (congrArg _ (put_here))))))))))))
theorem fs_run_new : putF "how" v6 (putF "reads" v5 (putF "came" v4 (putF "steps" v3 (putF "lines" v2 (putF "data" v1 (putF "program" v0 ([]))))))) = fs_run v0 v1 v2 v3 v4 v5 v6 := by
  rw [show putF "program" v0 (([] : List (Str × V))) = ([("program", v0)] : List (Str × V)) from rfl,
    show putF "data" v1 (([("program", v0)] : List (Str × V))) = ([("program", v0), ("data", v1)] : List (Str × V)) from (put_past (by decide +kernel)).trans (congrArg _ (rfl)),
    show putF "lines" v2 (([("program", v0), ("data", v1)] : List (Str × V))) = ([("program", v0), ("data", v1), ("lines", v2)] : List (Str × V)) from (put_past (by decide +kernel)).trans (congrArg _ ((put_past (by decide +kernel)).trans (congrArg _ (rfl)))),
    show putF "steps" v3 (([("program", v0), ("data", v1), ("lines", v2)] : List (Str × V))) = ([("program", v0), ("data", v1), ("lines", v2), ("steps", v3)] : List (Str × V)) from (put_past (by decide +kernel)).trans (congrArg _ ((put_past (by decide +kernel)).trans (congrArg _ ((put_past (by decide +kernel)).trans (congrArg _ (rfl)))))),
    show putF "came" v4 (([("program", v0), ("data", v1), ("lines", v2), ("steps", v3)] : List (Str × V))) = ([("program", v0), ("data", v1), ("lines", v2), ("steps", v3), ("came", v4)] : List (Str × V)) from (put_past (by decide +kernel)).trans (congrArg _ ((put_past (by decide +kernel)).trans (congrArg _ ((put_past (by decide +kernel)).trans (congrArg _ ((put_past (by decide +kernel)).trans (congrArg _ (rfl)))))))),
    show putF "reads" v5 (([("program", v0), ("data", v1), ("lines", v2), ("steps", v3), ("came", v4)] : List (Str × V))) = ([("program", v0), ("data", v1), ("lines", v2), ("steps", v3), ("came", v4), ("reads", v5)] : List (Str × V)) from (put_past (by decide +kernel)).trans (congrArg _ ((put_past (by decide +kernel)).trans (congrArg _ ((put_past (by decide +kernel)).trans (congrArg _ ((put_past (by decide +kernel)).trans (congrArg _ ((put_past (by decide +kernel)).trans (congrArg _ (rfl)))))))))),
    show putF "how" v6 (([("program", v0), ("data", v1), ("lines", v2), ("steps", v3), ("came", v4), ("reads", v5)] : List (Str × V))) = ([("program", v0), ("data", v1), ("lines", v2), ("steps", v3), ("came", v4), ("reads", v5), ("how", v6)] : List (Str × V)) from (put_past (by decide +kernel)).trans (congrArg _ ((put_past (by decide +kernel)).trans (congrArg _ ((put_past (by decide +kernel)).trans (congrArg _ ((put_past (by decide +kernel)).trans (congrArg _ ((put_past (by decide +kernel)).trans (congrArg _ ((put_past (by decide +kernel)).trans (congrArg _ (rfl))))))))))))]
  rfl
theorem fs_run_len : (fs_run v0 v1 v2 v3 v4 v5 v6).length = 7 := rfl
theorem fs_run_no_value : (fs_run v0 v1 v2 v3 v4 v5 v6).lookup ("value" : Str) = none := lookup_no (ns := ["program", "data", "lines", "steps", "came", "reads", "how"]) rfl (by decide +kernel)
theorem fs_run_no_sources : (fs_run v0 v1 v2 v3 v4 v5 v6).lookup ("sources" : Str) = none := lookup_no (ns := ["program", "data", "lines", "steps", "came", "reads", "how"]) rfl (by decide +kernel)
theorem fs_run_no_make_step : (fs_run v0 v1 v2 v3 v4 v5 v6).lookup ("make_step" : Str) = none := lookup_no (ns := ["program", "data", "lines", "steps", "came", "reads", "how"]) rfl (by decide +kernel)
theorem fs_run_no_reckon : (fs_run v0 v1 v2 v3 v4 v5 v6).lookup ("reckon" : Str) = none := lookup_no (ns := ["program", "data", "lines", "steps", "came", "reads", "how"]) rfl (by decide +kernel)
theorem fs_run_no_holds : (fs_run v0 v1 v2 v3 v4 v5 v6).lookup ("holds" : Str) = none := lookup_no (ns := ["program", "data", "lines", "steps", "came", "reads", "how"]) rfl (by decide +kernel)
theorem fs_run_no_do_block : (fs_run v0 v1 v2 v3 v4 v5 v6).lookup ("do_block" : Str) = none := lookup_no (ns := ["program", "data", "lines", "steps", "came", "reads", "how"]) rfl (by decide +kernel)
theorem fs_run_no_do_line : (fs_run v0 v1 v2 v3 v4 v5 v6).lookup ("do_line" : Str) = none := lookup_no (ns := ["program", "data", "lines", "steps", "came", "reads", "how"]) rfl (by decide +kernel)
theorem fs_run_no_do_set : (fs_run v0 v1 v2 v3 v4 v5 v6).lookup ("do_set" : Str) = none := lookup_no (ns := ["program", "data", "lines", "steps", "came", "reads", "how"]) rfl (by decide +kernel)
theorem fs_run_no_do_read : (fs_run v0 v1 v2 v3 v4 v5 v6).lookup ("do_read" : Str) = none := lookup_no (ns := ["program", "data", "lines", "steps", "came", "reads", "how"]) rfl (by decide +kernel)
theorem fs_run_no_do_write : (fs_run v0 v1 v2 v3 v4 v5 v6).lookup ("do_write" : Str) = none := lookup_no (ns := ["program", "data", "lines", "steps", "came", "reads", "how"]) rfl (by decide +kernel)
theorem fs_run_no_do_stop : (fs_run v0 v1 v2 v3 v4 v5 v6).lookup ("do_stop" : Str) = none := lookup_no (ns := ["program", "data", "lines", "steps", "came", "reads", "how"]) rfl (by decide +kernel)
theorem fs_run_no_do_test : (fs_run v0 v1 v2 v3 v4 v5 v6).lookup ("do_test" : Str) = none := lookup_no (ns := ["program", "data", "lines", "steps", "came", "reads", "how"]) rfl (by decide +kernel)
theorem fs_run_no_do_if : (fs_run v0 v1 v2 v3 v4 v5 v6).lookup ("do_if" : Str) = none := lookup_no (ns := ["program", "data", "lines", "steps", "came", "reads", "how"]) rfl (by decide +kernel)
theorem fs_run_no_do_while : (fs_run v0 v1 v2 v3 v4 v5 v6).lookup ("do_while" : Str) = none := lookup_no (ns := ["program", "data", "lines", "steps", "came", "reads", "how"]) rfl (by decide +kernel)
theorem fs_run_no_ask_again : (fs_run v0 v1 v2 v3 v4 v5 v6).lookup ("ask_again" : Str) = none := lookup_no (ns := ["program", "data", "lines", "steps", "came", "reads", "how"]) rfl (by decide +kernel)
theorem fs_run_no_row : (fs_run v0 v1 v2 v3 v4 v5 v6).lookup ("row" : Str) = none := lookup_no (ns := ["program", "data", "lines", "steps", "came", "reads", "how"]) rfl (by decide +kernel)
theorem fs_run_no_numbers_at : (fs_run v0 v1 v2 v3 v4 v5 v6).lookup ("numbers_at" : Str) = none := lookup_no (ns := ["program", "data", "lines", "steps", "came", "reads", "how"]) rfl (by decide +kernel)
end
/-- a Statement's attributes -/
def fs_stm (v0 v1 v2 v3 v4 : V) : List (Str × V) := [("kind", v0), ("written", v1), ("name", v2), ("atoms", v3), ("sign", v4)]
section
variable {v0 v1 v2 v3 v4 y : V}
theorem fs_stm_kind : (fs_stm v0 v1 v2 v3 v4).lookup ("kind" : Str) = some v0 := lk_here
theorem fs_stm_put_kind : putF "kind" y (fs_stm v0 v1 v2 v3 v4) = fs_stm y v1 v2 v3 v4 := put_here
theorem fs_stm_written : (fs_stm v0 v1 v2 v3 v4).lookup ("written" : Str) = some v1 := (lk_past (by decide +kernel)).trans (lk_here)
theorem fs_stm_put_written : putF "written" y (fs_stm v0 v1 v2 v3 v4) = fs_stm v0 y v2 v3 v4 := (put_past (by decide +kernel)).trans (congrArg _ (put_here))
theorem fs_stm_name : (fs_stm v0 v1 v2 v3 v4).lookup ("name" : Str) = some v2 := (lk_past (by decide +kernel)).trans ((lk_past (by decide +kernel)).trans (lk_here))
theorem fs_stm_put_name : putF "name" y (fs_stm v0 v1 v2 v3 v4) = fs_stm v0 v1 y v3 v4 := (put_past (by decide +kernel)).trans (congrArg _ ((put_past (by decide +kernel)).trans (congrArg _ (put_here))))
theorem fs_stm_atoms : (fs_stm v0 v1 v2 v3 v4).lookup ("atoms" : Str) = some v3 := (lk_past (by decide +kernel)).trans ((lk_past (by decide +kernel)).trans ((lk_past (by decide +kernel)).trans (lk_here)))
theorem fs_stm_put_atoms : putF "atoms" y (fs_stm v0 v1 v2 v3 v4) = fs_stm v0 v1 v2 y v4 := (put_past (by decide +kernel)).trans (congrArg _ ((put_past (by decide +kernel)).trans (congrArg _ ((put_past (by decide +kernel)).trans (congrArg _ (put_here))))))
theorem fs_stm_sign : (fs_stm v0 v1 v2 v3 v4).lookup ("sign" : Str) = some v4 := (lk_past (by decide +kernel)).trans ((lk_past (by decide +kernel)).trans ((lk_past (by decide +kernel)).trans ((lk_past (by decide +kernel)).trans (lk_here))))
theorem fs_stm_put_sign : putF "sign" y (fs_stm v0 v1 v2 v3 v4) = fs_stm v0 v1 v2 v3 y := (put_past (by decide +kernel)).trans (congrArg _ ((put_past (by decide +kernel)).trans (congrArg _ ((put_past (by decide +kernel)).trans (congrArg _ ((put_past (by decide +kernel)).trans (congrArg _ (put_here))))))))
theorem fs_stm_new : putF "sign" v4 (putF "atoms" v3 (putF "name" v2 (putF "written" v1 (putF "kind" v0 ([]))))) = fs_stm v0 v1 v2 v3 v4 := by
  rw [show putF "kind" v0 (([] : List (Str × V))) = ([("kind", v0)] : List (Str × V)) from rfl,
    show putF "written" v1 (([("kind", v0)] : List (Str × V))) = ([("kind", v0), ("written", v1)] : List (Str × V)) from (put_past (by decide +kernel)).trans (congrArg _ (rfl)),
    show putF "name" v2 (([("kind", v0), ("written", v1)] : List (Str × V))) = ([("kind", v0), ("written", v1), ("name", v2)] : List (Str × V)) from (put_past (by decide +kernel)).trans (congrArg _ ((put_past (by decide +kernel)).trans (congrArg _ (rfl)))),
    show putF "atoms" v3 (([("kind", v0), ("written", v1), ("name", v2)] : List (Str × V))) = ([("kind", v0), ("written", v1), ("name", v2), ("atoms", v3)] : List (Str × V)) from (put_past (by decide +kernel)).trans (congrArg _ ((put_past (by decide +kernel)).trans (congrArg _ ((put_past (by decide +kernel)).trans (congrArg _ (rfl)))))),
    show putF "sign" v4 (([("kind", v0), ("written", v1), ("name", v2), ("atoms", v3)] : List (Str × V))) = ([("kind", v0), ("written", v1), ("name", v2), ("atoms", v3), ("sign", v4)] : List (Str × V)) from (put_past (by decide +kernel)).trans (congrArg _ ((put_past (by decide +kernel)).trans (congrArg _ ((put_past (by decide +kernel)).trans (congrArg _ ((put_past (by decide +kernel)).trans (congrArg _ (rfl))))))))]
  rfl
theorem fs_stm_len : (fs_stm v0 v1 v2 v3 v4).length = 5 := rfl
theorem fs_stm_no_is_header : (fs_stm v0 v1 v2 v3 v4).lookup ("is_header" : Str) = none := lookup_no (ns := ["kind", "written", "name", "atoms", "sign"]) rfl (by decide +kernel)
end
/-- a Program's attributes -/
def fs_prg (v0 v1 v2 : V) : List (Str × V) := [("statements", v0), ("parents", v1), ("sides", v2)]
section
variable {v0 v1 v2 y : V}
theorem fs_prg_statements : (fs_prg v0 v1 v2).lookup ("statements" : Str) = some v0 := lk_here
theorem fs_prg_put_statements : putF "statements" y (fs_prg v0 v1 v2) = fs_prg y v1 v2 := put_here
theorem fs_prg_parents : (fs_prg v0 v1 v2).lookup ("parents" : Str) = some v1 := (lk_past (by decide +kernel)).trans (lk_here)
theorem fs_prg_put_parents : putF "parents" y (fs_prg v0 v1 v2) = fs_prg v0 y v2 := (put_past (by decide +kernel)).trans (congrArg _ (put_here))
theorem fs_prg_sides : (fs_prg v0 v1 v2).lookup ("sides" : Str) = some v2 := (lk_past (by decide +kernel)).trans ((lk_past (by decide +kernel)).trans (lk_here))
theorem fs_prg_put_sides : putF "sides" y (fs_prg v0 v1 v2) = fs_prg v0 v1 y := (put_past (by decide +kernel)).trans (congrArg _ ((put_past (by decide +kernel)).trans (congrArg _ (put_here))))
theorem fs_prg_new : putF "sides" v2 (putF "parents" v1 (putF "statements" v0 ([]))) = fs_prg v0 v1 v2 := by
  rw [show putF "statements" v0 (([] : List (Str × V))) = ([("statements", v0)] : List (Str × V)) from rfl,
    show putF "parents" v1 (([("statements", v0)] : List (Str × V))) = ([("statements", v0), ("parents", v1)] : List (Str × V)) from (put_past (by decide +kernel)).trans (congrArg _ (rfl)),
    show putF "sides" v2 (([("statements", v0), ("parents", v1)] : List (Str × V))) = ([("statements", v0), ("parents", v1), ("sides", v2)] : List (Str × V)) from (put_past (by decide +kernel)).trans (congrArg _ ((put_past (by decide +kernel)).trans (congrArg _ (rfl))))]
  rfl
theorem fs_prg_len : (fs_prg v0 v1 v2).length = 3 := rfl
theorem fs_prg_no_join_line : (fs_prg v0 v1 v2).lookup ("join_line" : Str) = none := lookup_no (ns := ["statements", "parents", "sides"]) rfl (by decide +kernel)
theorem fs_prg_no_many : (fs_prg v0 v1 v2).lookup ("many" : Str) = none := lookup_no (ns := ["statements", "parents", "sides"]) rfl (by decide +kernel)
theorem fs_prg_no_inside : (fs_prg v0 v1 v2).lookup ("inside" : Str) = none := lookup_no (ns := ["statements", "parents", "sides"]) rfl (by decide +kernel)
theorem fs_prg_no_depth : (fs_prg v0 v1 v2).lookup ("depth" : Str) = none := lookup_no (ns := ["statements", "parents", "sides"]) rfl (by decide +kernel)
end
/-- a Reader's attributes -/
def fs_rdr (v0 v1 v2 : V) : List (Str × V) := [("program", v0), ("path", v1), ("waits", v2)]
section
variable {v0 v1 v2 y : V}
theorem fs_rdr_program : (fs_rdr v0 v1 v2).lookup ("program" : Str) = some v0 := lk_here
theorem fs_rdr_put_program : putF "program" y (fs_rdr v0 v1 v2) = fs_rdr y v1 v2 := put_here
theorem fs_rdr_path : (fs_rdr v0 v1 v2).lookup ("path" : Str) = some v1 := (lk_past (by decide +kernel)).trans (lk_here)
theorem fs_rdr_put_path : putF "path" y (fs_rdr v0 v1 v2) = fs_rdr v0 y v2 := (put_past (by decide +kernel)).trans (congrArg _ (put_here))
theorem fs_rdr_waits : (fs_rdr v0 v1 v2).lookup ("waits" : Str) = some v2 := (lk_past (by decide +kernel)).trans ((lk_past (by decide +kernel)).trans (lk_here))
theorem fs_rdr_put_waits : putF "waits" y (fs_rdr v0 v1 v2) = fs_rdr v0 v1 y := (put_past (by decide +kernel)).trans (congrArg _ ((put_past (by decide +kernel)).trans (congrArg _ (put_here))))
theorem fs_rdr_new : putF "waits" v2 (putF "path" v1 (putF "program" v0 ([]))) = fs_rdr v0 v1 v2 := by
  rw [show putF "program" v0 (([] : List (Str × V))) = ([("program", v0)] : List (Str × V)) from rfl,
    show putF "path" v1 (([("program", v0)] : List (Str × V))) = ([("program", v0), ("path", v1)] : List (Str × V)) from (put_past (by decide +kernel)).trans (congrArg _ (rfl)),
    show putF "waits" v2 (([("program", v0), ("path", v1)] : List (Str × V))) = ([("program", v0), ("path", v1), ("waits", v2)] : List (Str × V)) from (put_past (by decide +kernel)).trans (congrArg _ ((put_past (by decide +kernel)).trans (congrArg _ (rfl))))]
  rfl
theorem fs_rdr_len : (fs_rdr v0 v1 v2).length = 3 := rfl
theorem fs_rdr_no_take : (fs_rdr v0 v1 v2).lookup ("take" : Str) = none := lookup_no (ns := ["program", "path", "waits"]) rfl (by decide +kernel)
theorem fs_rdr_no_take_else : (fs_rdr v0 v1 v2).lookup ("take_else" : Str) = none := lookup_no (ns := ["program", "path", "waits"]) rfl (by decide +kernel)
theorem fs_rdr_no_take_statement : (fs_rdr v0 v1 v2).lookup ("take_statement" : Str) = none := lookup_no (ns := ["program", "path", "waits"]) rfl (by decide +kernel)
end
/-- a Measure's attributes -/
def fs_msr (v0 v1 v2 : V) : List (Str × V) := [("program", v0), ("places", v1), ("wanted", v2)]
section
variable {v0 v1 v2 y : V}
theorem fs_msr_program : (fs_msr v0 v1 v2).lookup ("program" : Str) = some v0 := lk_here
theorem fs_msr_put_program : putF "program" y (fs_msr v0 v1 v2) = fs_msr y v1 v2 := put_here
theorem fs_msr_places : (fs_msr v0 v1 v2).lookup ("places" : Str) = some v1 := (lk_past (by decide +kernel)).trans (lk_here)
theorem fs_msr_put_places : putF "places" y (fs_msr v0 v1 v2) = fs_msr v0 y v2 := (put_past (by decide +kernel)).trans (congrArg _ (put_here))
theorem fs_msr_wanted : (fs_msr v0 v1 v2).lookup ("wanted" : Str) = some v2 := (lk_past (by decide +kernel)).trans ((lk_past (by decide +kernel)).trans (lk_here))
theorem fs_msr_put_wanted : putF "wanted" y (fs_msr v0 v1 v2) = fs_msr v0 v1 y := (put_past (by decide +kernel)).trans (congrArg _ ((put_past (by decide +kernel)).trans (congrArg _ (put_here))))
theorem fs_msr_new : putF "wanted" v2 (putF "places" v1 (putF "program" v0 ([]))) = fs_msr v0 v1 v2 := by
  rw [show putF "program" v0 (([] : List (Str × V))) = ([("program", v0)] : List (Str × V)) from rfl,
    show putF "places" v1 (([("program", v0)] : List (Str × V))) = ([("program", v0), ("places", v1)] : List (Str × V)) from (put_past (by decide +kernel)).trans (congrArg _ (rfl)),
    show putF "wanted" v2 (([("program", v0), ("places", v1)] : List (Str × V))) = ([("program", v0), ("places", v1), ("wanted", v2)] : List (Str × V)) from (put_past (by decide +kernel)).trans (congrArg _ ((put_past (by decide +kernel)).trans (congrArg _ (rfl))))]
  rfl
theorem fs_msr_len : (fs_msr v0 v1 v2).length = 3 := rfl
theorem fs_msr_no_is_enough : (fs_msr v0 v1 v2).lookup ("is_enough" : Str) = none := lookup_no (ns := ["program", "places", "wanted"]) rfl (by decide +kernel)
end
/-- a Desk's attributes -/
def fs_dsk (v0 v1 v2 : V) : List (Str × V) := [("program", v0), ("givens", v1), ("places", v2)]
section
variable {v0 v1 v2 y : V}
theorem fs_dsk_program : (fs_dsk v0 v1 v2).lookup ("program" : Str) = some v0 := lk_here
theorem fs_dsk_put_program : putF "program" y (fs_dsk v0 v1 v2) = fs_dsk y v1 v2 := put_here
theorem fs_dsk_givens : (fs_dsk v0 v1 v2).lookup ("givens" : Str) = some v1 := (lk_past (by decide +kernel)).trans (lk_here)
theorem fs_dsk_put_givens : putF "givens" y (fs_dsk v0 v1 v2) = fs_dsk v0 y v2 := (put_past (by decide +kernel)).trans (congrArg _ (put_here))
theorem fs_dsk_places : (fs_dsk v0 v1 v2).lookup ("places" : Str) = some v2 := (lk_past (by decide +kernel)).trans ((lk_past (by decide +kernel)).trans (lk_here))
theorem fs_dsk_put_places : putF "places" y (fs_dsk v0 v1 v2) = fs_dsk v0 v1 y := (put_past (by decide +kernel)).trans (congrArg _ ((put_past (by decide +kernel)).trans (congrArg _ (put_here))))
theorem fs_dsk_new : putF "places" v2 (putF "givens" v1 (putF "program" v0 ([]))) = fs_dsk v0 v1 v2 := by
  rw [show putF "program" v0 (([] : List (Str × V))) = ([("program", v0)] : List (Str × V)) from rfl,
    show putF "givens" v1 (([("program", v0)] : List (Str × V))) = ([("program", v0), ("givens", v1)] : List (Str × V)) from (put_past (by decide +kernel)).trans (congrArg _ (rfl)),
    show putF "places" v2 (([("program", v0), ("givens", v1)] : List (Str × V))) = ([("program", v0), ("givens", v1), ("places", v2)] : List (Str × V)) from (put_past (by decide +kernel)).trans (congrArg _ ((put_past (by decide +kernel)).trans (congrArg _ (rfl))))]
  rfl
theorem fs_dsk_len : (fs_dsk v0 v1 v2).length = 3 := rfl
theorem fs_dsk_no_has_line : (fs_dsk v0 v1 v2).lookup ("has_line" : Str) = none := lookup_no (ns := ["program", "givens", "places"]) rfl (by decide +kernel)
theorem fs_dsk_no_has_given : (fs_dsk v0 v1 v2).lookup ("has_given" : Str) = none := lookup_no (ns := ["program", "givens", "places"]) rfl (by decide +kernel)
theorem fs_dsk_no_measure : (fs_dsk v0 v1 v2).lookup ("measure" : Str) = none := lookup_no (ns := ["program", "givens", "places"]) rfl (by decide +kernel)
theorem fs_dsk_no_answer_program : (fs_dsk v0 v1 v2).lookup ("answer_program" : Str) = none := lookup_no (ns := ["program", "givens", "places"]) rfl (by decide +kernel)
theorem fs_dsk_no_answer_given : (fs_dsk v0 v1 v2).lookup ("answer_given" : Str) = none := lookup_no (ns := ["program", "givens", "places"]) rfl (by decide +kernel)
theorem fs_dsk_no_answer_place : (fs_dsk v0 v1 v2).lookup ("answer_place" : Str) = none := lookup_no (ns := ["program", "givens", "places"]) rfl (by decide +kernel)
theorem fs_dsk_no_answer_clear : (fs_dsk v0 v1 v2).lookup ("answer_clear" : Str) = none := lookup_no (ns := ["program", "givens", "places"]) rfl (by decide +kernel)
theorem fs_dsk_no_answer_enough : (fs_dsk v0 v1 v2).lookup ("answer_enough" : Str) = none := lookup_no (ns := ["program", "givens", "places"]) rfl (by decide +kernel)
theorem fs_dsk_no_answer_byone : (fs_dsk v0 v1 v2).lookup ("answer_byone" : Str) = none := lookup_no (ns := ["program", "givens", "places"]) rfl (by decide +kernel)
theorem fs_dsk_no_answer_least : (fs_dsk v0 v1 v2).lookup ("answer_least" : Str) = none := lookup_no (ns := ["program", "givens", "places"]) rfl (by decide +kernel)
theorem fs_dsk_no_answer_joined : (fs_dsk v0 v1 v2).lookup ("answer_joined" : Str) = none := lookup_no (ns := ["program", "givens", "places"]) rfl (by decide +kernel)
theorem fs_dsk_no_answer_rows : (fs_dsk v0 v1 v2).lookup ("answer_rows" : Str) = none := lookup_no (ns := ["program", "givens", "places"]) rfl (by decide +kernel)
theorem fs_dsk_no_refuse_value : (fs_dsk v0 v1 v2).lookup ("refuse_value" : Str) = none := lookup_no (ns := ["program", "givens", "places"]) rfl (by decide +kernel)
theorem fs_dsk_no_answer_explain : (fs_dsk v0 v1 v2).lookup ("answer_explain" : Str) = none := lookup_no (ns := ["program", "givens", "places"]) rfl (by decide +kernel)
theorem fs_dsk_no_answer_chain : (fs_dsk v0 v1 v2).lookup ("answer_chain" : Str) = none := lookup_no (ns := ["program", "givens", "places"]) rfl (by decide +kernel)
theorem fs_dsk_no_answer_size : (fs_dsk v0 v1 v2).lookup ("answer_size" : Str) = none := lookup_no (ns := ["program", "givens", "places"]) rfl (by decide +kernel)
end
/-! ### heaps -/
theorem _root_.L2.Same.new {H : Hp} {p : Addr} (h : H p = none) (o : HO) : Same H (upd H p o) := fun b u q => by rw [upd_ne (ne_of_none q h)]; exact q
theorem _root_.L2.Same.put {B H : Hp} (s : Same B H) {p : Addr} (h : B p = none) (o : HO) : Same B (upd H p o) := fun b u q => by rw [upd_ne (ne_of_none q h)]; exact s b u q
/-- a list that is made by a loop over signs, ints, ..: each item's value is known and the heap is left -/
theorem lc_all {K : PySem.W.Frag} {a : Addr} {xs : List V} {i : Nat} {tl : TE} {tt : TT} {te : TE} {σ : L2.St} {H : Hp} {Q : VK} (f : V → V) (keep : V → Bool)
    (hl : Val tl σ H (.ref a)) (hq : SqL K H a xs) (hz : xs.length ≤ sizeLine) (hi : ∀ v, wipe ((wipe σ [i]).set i (some v)) [i] = wipe σ [i])
    (ht : ∀ x ∈ xs, ∀ H', Same H H' → Ans tt ((wipe σ [i]).set i (some x)) H' (keep x)) (he : ∀ x ∈ xs, keep x = true → ∀ H', Same H H' → Val te ((wipe σ [i]).set i (some x)) H' (f x))
    (q : ∀ D, H D = none → Q (.ref D) (upd H D (.lst ((xs.filter keep).map f)))) : tLc (iList K tl) (gName i) tt te [i] σ H Q := by
  refine hl _ ?_
  refine ⟨a, rfl, ⟨_, hq⟩, fun D hD => ?_⟩
  refine lc_list (K := K) (a := a) (xs := xs) (fun n H' => H' = upd H D (.lst (((xs.take n).filter keep).map f))) rfl (fun n H' _ e => by subst e; exact (Same.new hD _).seq hq) ?_ (fun H' e => by subst e; rw [List.take_length]; exact q D hD)
  rintro n x H' hx rfl
  have hm : x ∈ xs := List.mem_of_getElem? hx
  have tk : xs.take (n + 1) = xs.take n ++ [x] := by rw [List.take_add_one, hx]; rfl
  refine ⟨hi x, ht x hm _ (Same.new hD _) _ ?_⟩
  cases hk : keep x with
  | true =>
    rw [if_pos rfl]
    refine he x hm hk _ (Same.new hD _) _ ⟨_, upd_same, ?_, ?_⟩
    · rw [List.length_map]
      have h1 := List.length_filter_le keep (xs.take n)
      have h2 : n < xs.length := (List.getElem?_eq_some_iff.mp hx).1
      rw [List.length_take] at h1
      omega
    · rw [upd_upd, tk, List.filter_append, List.map_append]
      simp [hk]
  | false =>
    rw [if_neg Bool.false_ne_true, tk, List.filter_append]
    simp [hk]
/-- the same over range(n) -/
theorem lc_rg {n : Nat} {i : Nat} {ta : TA} {tt : TT} {te : TE} {σ : L2.St} {H : Hp} {Q : VK} (f : Nat → V) (keep : Nat → Bool)
    (hl : ∀ Q' : List V → Hp → Prop, Q' [.int (n : Int)] H → ta σ H Q') (hz : n ≤ sizeLine) (hi : ∀ v, wipe ((wipe σ [i]).set i (some v)) [i] = wipe σ [i])
    (ht : ∀ x, x < n → ∀ H', Same H H' → Ans tt ((wipe σ [i]).set i (some (.int x))) H' (keep x)) (he : ∀ x, x < n → keep x = true → ∀ H', Same H H' → Val te ((wipe σ [i]).set i (some (.int x))) H' (f x))
    (q : ∀ D, H D = none → Q (.ref D) (upd H D (.lst (((List.range n).filter keep).map f)))) : tLc (iRng1 ta) (gName i) tt te [i] σ H Q := by
  refine hl _ ?_
  have hs : sizeLine = 16777216 := by decide
  refine ⟨n, rfl, by omega, by omega, fun D hD => ?_⟩
  rw [Int.toNat_natCast]
  refine lc_range (lo := 0) (n := n) (fun k H' => H' = upd H D (.lst (((List.range k).filter keep).map f))) rfl ?_ (fun H' e => by subst e; exact q D hD)
  rintro k H' hk rfl
  have e0 : (0 : Int) + (k : Int) = k := by omega
  rw [e0]
  refine ⟨hi _, ht k hk _ (Same.new hD _) _ ?_⟩
  cases hb : keep k with
  | true =>
    rw [if_pos rfl]
    refine he k hk hb _ (Same.new hD _) _ ⟨_, upd_same, ?_, ?_⟩
    · rw [List.length_map]
      have h1 := List.length_filter_le keep (List.range k)
      rw [List.length_range] at h1
      omega
    · rw [upd_upd, List.range_succ, List.filter_append, List.map_append]
      simp [hb]
  | false =>
    rw [if_neg Bool.false_ne_true, List.range_succ, List.filter_append]
    simp [hb]
/-! ### bytes, ints -/
def bV (t : List UInt8) : List V := t.map fun b : UInt8 => V.int (b.toNat : Int)
def nV (l : List Nat) : List V := l.map fun n : Nat => V.int (n : Int)
def iV (l : List Int) : List V := l.map V.int
theorem eqvAll_ints : ∀ ns ms : List Int, PyData.eqvAll (ns.map PyData.int) (ms.map PyData.int) = decide (ns = ms)
  | [], [] => by simp [PyData.eqvAll]
  | [], _ :: _ => by simp [PyData.eqvAll]
  | _ :: _, [] => by simp [PyData.eqvAll]
  | a :: r, b :: t => by
    simp only [List.map_cons, PyData.eqvAll, PyData.eqv, eqvAll_ints r t]
    by_cases h : a = b <;> by_cases h' : r = t <;> simp [h, h']
theorem dpAll_ints {K : PySem.W.Frag} {H : Hp} : ∀ ns : List Int, DpAll K H (iV ns) (ns.map PyData.int)
  | [] => .nil
  | n :: r => .cons (.int n) (dpAll_ints r)
theorem dp_ints {K : PySem.W.Frag} {H : Hp} {a : Addr} {ns : List Int} (h : SqL K H a (iV ns)) : Dp K H (.ref a) (.list (ns.map PyData.int)) := .lst h (dpAll_ints ns)
theorem shaped_ints (ns : List Int) : SeqAt.shaped (.list (ns.map PyData.int)) = true := PySem.W.shaped_ints ns
theorem bV_iV (t : List UInt8) : bV t = iV (t.map fun b : UInt8 => (b.toNat : Int)) := by unfold bV iV; rw [List.map_map]; rfl
theorem nV_iV (t : List Nat) : nV t = iV (t.map fun b : Nat => (b : Int)) := by unfold nV iV; rw [List.map_map]; rfl
theorem bytes_inj : ∀ {s t : List UInt8}, (s.map fun b : UInt8 => (b.toNat : Int)) = (t.map fun b : UInt8 => (b.toNat : Int)) ↔ s = t
  | [], [] => by simp
  | [], _ :: _ => by simp
  | _ :: _, [] => by simp
  | a :: s, b :: t => by
    simp only [List.map_cons, List.cons.injEq, bytes_inj (s := s) (t := t)]
    constructor
    · rintro ⟨h, rfl⟩
      refine ⟨UInt8.toNat.inj (by omega), rfl⟩
    · rintro ⟨rfl, rfl⟩
      exact ⟨rfl, rfl⟩
theorem nats_inj : ∀ {s t : List Nat}, (s.map fun b : Nat => (b : Int)) = (t.map fun b : Nat => (b : Int)) ↔ s = t
  | [], [] => by simp
  | [], _ :: _ => by simp
  | _ :: _, [] => by simp
  | a :: s, b :: t => by
    simp only [List.map_cons, List.cons.injEq, nats_inj (s := s) (t := t)]
    constructor
    · rintro ⟨h, rfl⟩
      exact ⟨by omega, rfl⟩
    · rintro ⟨rfl, rfl⟩
      exact ⟨rfl, rfl⟩
/-- == of two lists of bytes -/
theorem eq_bytes {K : PySem.W.Frag} {H : Hp} {a b : Addr} {s t : List UInt8} {Q : VK} (ha : SqL K H a (bV s)) (hb : SqL K H b (bV t)) (q : Q (.bl (decide (s = t))) H) : rEqD K (.ref a) (.ref b) H Q := by
  rw [bV_iV] at ha hb
  refine ⟨_, _, dp_ints ha, dp_ints hb, shaped_ints _, shaped_ints _, ?_⟩
  rw [PyData.eqv, eqvAll_ints]
  have e : decide ((s.map fun b : UInt8 => (b.toNat : Int)) = (t.map fun b : UInt8 => (b.toNat : Int))) = decide (s = t) := decide_eq_decide.mpr bytes_inj
  rw [e]
  exact q
theorem ne_bytes {K : PySem.W.Frag} {H : Hp} {a b : Addr} {s t : List UInt8} {Q : VK} (ha : SqL K H a (bV s)) (hb : SqL K H b (bV t)) (q : Q (.bl (!decide (s = t))) H) : rNeD K (.ref a) (.ref b) H Q := by
  rw [bV_iV] at ha hb
  refine ⟨_, _, dp_ints ha, dp_ints hb, shaped_ints _, shaped_ints _, ?_⟩
  rw [PyData.eqv, eqvAll_ints]
  have e : decide ((s.map fun b : UInt8 => (b.toNat : Int)) = (t.map fun b : UInt8 => (b.toNat : Int))) = decide (s = t) := decide_eq_decide.mpr bytes_inj
  rw [e]
  exact q
theorem bV_length (t : List UInt8) : (bV t).length = t.length := List.length_map _
theorem nV_length (t : List Nat) : (nV t).length = t.length := List.length_map _
theorem bV_get {t : List UInt8} {i : Nat} {x : V} (h : (bV t)[i]? = some x) : ∃ b, t[i]? = some b ∧ x = .int (b.toNat : Int) := by
  unfold bV at h
  rw [List.getElem?_map] at h
  cases e : t[i]? with
  | none => rw [e] at h; cases h
  | some b => rw [e] at h; exact ⟨b, rfl, (Option.some.inj h).symm⟩
theorem nV_get {t : List Nat} {i : Nat} {x : V} (h : (nV t)[i]? = some x) : ∃ b, t[i]? = some b ∧ x = .int (b : Int) := by
  unfold nV at h
  rw [List.getElem?_map] at h
  cases e : t[i]? with
  | none => rw [e] at h; cases h
  | some b => rw [e] at h; exact ⟨b, rfl, (Option.some.inj h).symm⟩
theorem take_more {α : Type} {l : List α} {i : Nat} {x : α} (h : l[i]? = some x) : l.take (i + 1) = l.take i ++ [x] := by rw [List.take_add_one, h]; rfl
theorem small {n : Nat} (h : n ≤ 16777216) : n ≤ sizeLine := h
theorem bV_nV (t : List UInt8) : bV t = nV (t.map UInt8.toNat) := by unfold bV nV; rw [List.map_map]; rfl
theorem eq_ints {K : PySem.W.Frag} {H : Hp} {a b : Addr} {s t : List Int} {Q : VK} (ha : SqL K H a (iV s)) (hb : SqL K H b (iV t)) (q : Q (.bl (decide (s = t))) H) : rEqD K (.ref a) (.ref b) H Q := by
  refine ⟨_, _, dp_ints ha, dp_ints hb, shaped_ints _, shaped_ints _, ?_⟩
  rw [PyData.eqv, eqvAll_ints]
  exact q
theorem ne_ints {K : PySem.W.Frag} {H : Hp} {a b : Addr} {s t : List Int} {Q : VK} (ha : SqL K H a (iV s)) (hb : SqL K H b (iV t)) (q : Q (.bl (!decide (s = t))) H) : rNeD K (.ref a) (.ref b) H Q := by
  refine ⟨_, _, dp_ints ha, dp_ints hb, shaped_ints _, shaped_ints _, ?_⟩
  rw [PyData.eqv, eqvAll_ints]
  exact q
theorem eq_nats {K : PySem.W.Frag} {H : Hp} {a b : Addr} {s t : List Nat} {Q : VK} (ha : SqL K H a (nV s)) (hb : SqL K H b (nV t)) (q : Q (.bl (decide (s = t))) H) : rEqD K (.ref a) (.ref b) H Q := by
  rw [nV_iV] at ha hb
  refine eq_ints ha hb ?_
  rw [decide_eq_decide.mpr nats_inj]
  exact q
theorem ne_nats {K : PySem.W.Frag} {H : Hp} {a b : Addr} {s t : List Nat} {Q : VK} (ha : SqL K H a (nV s)) (hb : SqL K H b (nV t)) (q : Q (.bl (!decide (s = t))) H) : rNeD K (.ref a) (.ref b) H Q := by
  rw [nV_iV] at ha hb
  refine ne_ints ha hb ?_
  rw [decide_eq_decide.mpr nats_inj]
  exact q
theorem yes_if {A B : Hp → Prop} {σ : L2.St} {H : Hp} (h : A H) : tYes σ H (fun b H3 => if b = true then A H3 else B H3) := by
  show (if true = true then A H else B H)
  rw [if_pos rfl]
  exact h
/-- tests: what follows by a known truth -/
theorem if_t {b : Bool} {A B : Prop} (hb : b = true) (h : A) : if b = true then A else B := by rw [if_pos hb]; exact h
theorem if_f {b : Bool} {A B : Prop} (hb : b = false) (h : B) : if b = true then A else B := by rw [if_neg (by rw [hb]; decide)]; exact h
theorem if_b {b : Bool} {A B : Prop} (h1 : b = true → A) (h2 : b = false → B) : if b = true then A else B := by
  cases hb : b with
  | true => rw [if_pos rfl]; exact h1 hb
  | false => rw [if_neg (by decide)]; exact h2 hb
theorem if_d {p : Prop} [Decidable p] {A B : Prop} (h1 : p → A) (h2 : ¬ p → B) : if decide p = true then A else B := if_b (fun e => h1 (of_decide_eq_true e)) fun e => h2 (of_decide_eq_false e)
theorem if_nd {p : Prop} [Decidable p] {A B : Prop} (h1 : ¬ p → A) (h2 : p → B) : if (!decide p) = true then A else B := if_b (fun e => h1 (of_decide_eq_false (by simpa using e))) fun e => h2 (of_decide_eq_true (by simpa using e))
/-! ### rows of addresses -/
def AllAt {α : Type} (R : Addr → α → Prop) : List Addr → List α → Prop
  | [], [] => True
  | a :: as, x :: xs => R a x ∧ AllAt R as xs
  | _, _ => False
namespace AllAt
variable {α : Type} {R S : Addr → α → Prop}
theorem mono (f : ∀ a x, R a x → S a x) : ∀ {as : List Addr} {xs : List α}, AllAt R as xs → AllAt S as xs
  | [], [], _ => trivial
  | _ :: _, _ :: _, h => ⟨f _ _ h.1, mono f h.2⟩
theorem len : ∀ {as : List Addr} {xs : List α}, AllAt R as xs → as.length = xs.length
  | [], [], _ => rfl
  | _ :: _, _ :: _, h => congrArg (· + 1) (len h.2)
theorem app : ∀ {as bs : List Addr} {xs ys : List α}, AllAt R as xs → AllAt R bs ys → AllAt R (as ++ bs) (xs ++ ys)
  | [], _, [], _, _, h => h
  | _ :: _, _, _ :: _, _, h, k => ⟨h.1, app h.2 k⟩
theorem one {a : Addr} {x : α} (h : R a x) : AllAt R [a] [x] := ⟨h, trivial⟩
theorem get : ∀ {as : List Addr} {xs : List α} {i : Nat} {x : α}, AllAt R as xs → xs[i]? = some x → ∃ a, as[i]? = some a ∧ R a x
  | [], [], _, _, _, e => by simp at e
  | [], _ :: _, _, _, h, _ => h.elim
  | _ :: _, [], _, _, h, _ => h.elim
  | a :: as, y :: xs, 0, x, h, e => by
    have e' : y = x := by simpa using e
    subst e'
    exact ⟨a, rfl, h.1⟩
  | a :: as, y :: xs, i + 1, x, h, e => by
    obtain ⟨b, hb, r⟩ := get (as := as) (xs := xs) (i := i) (x := x) h.2 (by simpa using e)
    exact ⟨b, by simpa using hb, r⟩
theorem get' : ∀ {as : List Addr} {xs : List α} {i : Nat} {a : Addr}, AllAt R as xs → as[i]? = some a → ∃ x, xs[i]? = some x ∧ R a x
  | [], [], _, _, _, e => by simp at e
  | [], _ :: _, _, _, h, _ => h.elim
  | _ :: _, [], _, _, h, _ => h.elim
  | a :: as, y :: xs, 0, b, h, e => by
    have e' : a = b := by simpa using e
    subst e'
    exact ⟨y, rfl, h.1⟩
  | a :: as, y :: xs, i + 1, b, h, e => by
    obtain ⟨x, hx, r⟩ := get' (as := as) (xs := xs) (i := i) (a := b) h.2 (by simpa using e)
    exact ⟨x, by simpa using hx, r⟩
theorem memA : ∀ {as : List Addr} {xs : List α} {a : Addr}, AllAt R as xs → a ∈ as → ∃ x, x ∈ xs ∧ R a x
  | _ :: _, _ :: _, _, h, e => by
    rcases List.mem_cons.mp e with rfl | e
    · exact ⟨_, by simp, h.1⟩
    · obtain ⟨x, hx, r⟩ := memA h.2 e
      exact ⟨x, List.mem_cons_of_mem _ hx, r⟩
end AllAt
theorem AllAt.monoM {α : Type} {R S : Addr → α → Prop} : ∀ {as : List Addr} {xs : List α}, (∀ a x, a ∈ as → R a x → S a x) → AllAt R as xs → AllAt S as xs
  | [], [], _, _ => trivial
  | _ :: _, _ :: _, f, h => ⟨f _ _ (by simp) h.1, AllAt.monoM (fun a x m => f a x (List.mem_cons_of_mem _ m)) h.2⟩
def rV (as : List Addr) : List V := as.map V.ref
theorem rV_length (as : List Addr) : (rV as).length = as.length := List.length_map _
theorem rV_get {as : List Addr} {i : Nat} {x : V} (h : (rV as)[i]? = some x) : ∃ a, as[i]? = some a ∧ x = .ref a := by
  unfold rV at h
  rw [List.getElem?_map] at h
  cases e : as[i]? with
  | none => rw [e] at h; cases h
  | some b => rw [e] at h; exact ⟨b, rfl, (Option.some.inj h).symm⟩
theorem rV_at {as : List Addr} {i : Nat} {a : Addr} (h : as[i]? = some a) : (rV as)[i]? = some (.ref a) := by
  unfold rV
  rw [List.getElem?_map, h]
  rfl
theorem rV_app (as bs : List Addr) : rV as ++ rV bs = rV (as ++ bs) := (List.map_append ..).symm
/-- a list of bytes stands at a; a list of such stands at p -/
def LB (H : Hp) (a : Addr) (t : List UInt8) : Prop := H a = some (.lst (bV t))
def LBs (H : Hp) (p : Addr) (ts : List (List UInt8)) : Prop := ∃ rs, H p = some (.lst (rV rs)) ∧ AllAt (LB H) rs ts
theorem LB.same {H H' : Hp} (s : Same H H') {a : Addr} {t : List UInt8} (h : LB H a t) : LB H' a t := s _ _ h
theorem LBs.same {H H' : Hp} (s : Same H H') {p : Addr} {ts : List (List UInt8)} (h : LBs H p ts) : LBs H' p ts := by
  obtain ⟨rs, h1, h2⟩ := h
  exact ⟨rs, s _ _ h1, h2.mono fun a x => LB.same s⟩
theorem atI_n {α : Type} {xs : List α} {i : Nat} {x : α} (h : xs[i]? = some x) : atI xs (i : Int) = some x := atI_nat h
theorem few1 {f : Str} {v : V} : ∀ {k : Nat} {l : List (Str × V)}, l.length ≤ k → (putF f v l).length ≤ k + 1
  | _, [], _ => by simp [putF]
  | 0, _ :: _, h => by simp at h
  | k + 1, (g, x) :: l, h => by
    unfold putF
    have h' : l.length ≤ k := by simpa using h
    split
    · simp only [List.length_cons]; omega
    · have := few1 (f := f) (v := v) (k := k) (l := l) h'
      simp only [List.length_cons]
      omega
theorem cut_take (xs : List V) (k : Nat) : cutV xs none (some (k : Int)) = xs.take k := by
  unfold cutV
  rw [HT.sIx_none, HT.sIx_nat, List.drop_zero, Nat.sub_zero]
  by_cases h : k ≤ xs.length
  · rw [Nat.min_eq_left h]
  · rw [Nat.min_eq_right (by omega), List.take_of_length_le (Nat.le_refl _), List.take_of_length_le (by omega)]
theorem cut_drop (xs : List V) (k : Nat) : cutV xs (some (k : Int)) none = xs.drop k := by
  unfold cutV
  rw [HT.sIx_none, HT.sIx_nat]
  by_cases h : k ≤ xs.length
  · rw [Nat.min_eq_left h, List.take_of_length_le (by rw [List.length_drop]; exact Nat.le_refl _)]
  · rw [Nat.min_eq_right (by omega), List.drop_of_length_le (Nat.le_refl _), List.drop_of_length_le (by omega), List.take_nil]
theorem cut_mid (xs : List V) (i j : Nat) (hj : j ≤ xs.length) (hi : i ≤ j) : cutV xs (some (i : Int)) (some (j : Int)) = (xs.drop i).take (j - i) := by
  unfold cutV
  rw [HT.sIx_nat, HT.sIx_nat, Nat.min_eq_left hj, Nat.min_eq_left (by omega)]
end Ld
end
section
set_option Elab.async false
set_option maxRecDepth 100000
set_option maxHeartbeats 4000000
namespace Ld
open PySem PySem.Spec PyProof.Rows L2
open Vaslca (Text ascii isName isDigit isSmall numberOf atomOf valueOf)
/-- a written text's bytes are its signs -/
def Plain (c : String) : Prop := (Str.ofString c).cps.toList = (ascii c).map UInt8.toNat
def whichS (t : Text) (cs : List String) : String := (cs.find? fun c => decide (t = ascii c)).getD ""
def spCodes : Sp := fun vs H Q _ => ∃ z : Str, vs = [.str z] ∧ z.cps.size ≤ 1000 ∧ ∀ p, H p = none → Q (.ref p) (upd H p (.lst (nV z.cps.toList)))
def spWhich (K : PySem.W.Frag) : Sp := fun vs H Q _ => ∃ (a b : Addr) (t : Text) (cs : List String), vs = [.ref a, .ref b] ∧ SqL K H a (bV t) ∧ SqT K H b (cs.map fun c => V.str (Str.ofString c)) ∧ (∀ c ∈ cs, Plain c) ∧ (ascii "").length + 16 * cs.length ≤ 1000 ∧ (∀ c ∈ cs, (Str.ofString c).cps.size ≤ 1000) ∧
  ∀ H', Same H H' → Q (.str (Str.ofString (whichS t cs))) H'
def spIsDigit : Sp := fun vs H Q _ => ∃ n : Int, vs = [.int n] ∧ Q (.bl (decide (48 ≤ n) && decide (n ≤ 57))) H
def spAllSmall (K : PySem.W.Frag) : Sp := fun vs H Q _ => ∃ (a : Addr) (t : Text), vs = [.ref a] ∧ SqL K H a (bV t) ∧ Q (.bl (t.all isSmall)) H
def spIsName (K : PySem.W.Frag) : Sp := fun vs H Q _ => ∃ (a : Addr) (t : Text), vs = [.ref a] ∧ SqL K H a (bV t) ∧ ∀ H', Same H H' → Q (.bl (isName t)) H'
def spIsNumber (K : PySem.W.Frag) : Sp := fun vs H Q _ => ∃ (a : Addr) (t : Text), vs = [.ref a] ∧ SqL K H a (bV t) ∧ Q (.bl (numberOf t).isSome) H
def spIsAtom (K : PySem.W.Frag) : Sp := fun vs H Q _ => ∃ (a : Addr) (t : Text), vs = [.ref a] ∧ SqL K H a (bV t) ∧ ∀ H', Same H H' → Q (.bl (atomOf t).isSome) H'
def spNumberOf (K : PySem.W.Frag) : Sp := fun vs H Q _ => ∃ (a : Addr) (t : Text), vs = [.ref a] ∧ SqT K H a (bV t) ∧ t.all isDigit = true ∧ Q (.int (valueOf t : Nat)) H
section
variable {P : Program} {w : World} {K : PySem.W.Frag} {mg : Str → Option Value} {base : Heap} {C : Cs}
abbrev s_codes : Stmt := top 7
theorem sc_codes : FnScope ["word", "sign"] ["word"] (defScope s_codes) := ⟨rfl, rfl, rfl, by decide +kernel, rfl, by decide +kernel, by decide +kernel⟩
theorem ok_codes (T : Txt K mg C) : OkF P w K mg base 1 "codes" ["word"] (spCodes) := by
  obtain ⟨f, fd, hm, F, b⟩ := T.f_codes
  refine ⟨f, fd, hm, F.kp, b, F.ok sc_codes (fun vs H Q E h => ?_) (fun cdv A outer s H vs Q E hr h => ?_)⟩
  · obtain ⟨z, rfl, _⟩ := h
    rfl
  refine ⟨_, (pss_one (ps_ret (pe_lc (own := [("sign", 1)]) (g := gName 1) rfl sc_codes.nd (pi_str (pv 0)) (blkOk_by (own := [("sign", 1)]) (N := ["word", "sign"]) (sc := defScope s_codes) (by decide +kernel)) (fun _ _ _ _ _ => pg_name (i := 1) sc_codes.nd rfl (Or.inl rfl)) (fun _ _ _ _ _ => pts_nil) (fun _ _ _ _ _ => (pe_callB call_ord (by rfl) T.ord (by decide +kernel) (pa_cons (pv 1) pa_nil)))))), ?_⟩
  obtain ⟨z, rfl, hz, k⟩ := h
  refine ⟨_, rfl, z, rfl, fun D hD => ⟨fun i m H' => m = z.cps.size - i ∧ i ≤ z.cps.size ∧ H' = upd H D (.lst (nV (z.cps.toList.take i))), ⟨_, rfl, Nat.zero_le _, rfl⟩, ?_⟩⟩
  rintro i m H' ⟨rfl, hi, rfl⟩
  by_cases hlt : i < z.cps.size
  · refine .inr ⟨hlt, fun H' => H' = upd H D (.lst (nV (z.cps.toList.take (i + 1)))), fun H' e => ⟨_, by omega, rfl, hlt, e⟩, ?_⟩
    rintro x H' ⟨rfl, c, hc, rfl⟩
    refine ⟨rfl, yes_if ?_⟩
    refine ⟨_, rfl, _, rfl, rfl, _, upd_same, ?_, ?_⟩
    · rw [nV_length, List.length_take, Array.length_toList]
      exact small1000 (by omega)
    · have e : z.cps.toList[i]? = some c := by rw [Array.getElem?_toList]; exact hc
      rw [upd_upd, take_more e]
      unfold nV
      rw [List.map_append]
      rfl
  · have e : z.cps.toList.take i = z.cps.toList := List.take_of_length_le (by rw [Array.length_toList]; omega)
    refine .inl ⟨by show z.cps.size ≤ i; omega, ?_⟩
    rw [e]
    exact k D hD
abbrev s_which : Stmt := top 8
theorem sc_which : FnScope ["word", "choices", "choice"] ["word", "choices"] (defScope s_which) := ⟨rfl, rfl, rfl, by decide +kernel, rfl, by decide +kernel, by decide +kernel⟩
theorem ok_which (T : Txt K mg C) : OkF P w K mg base 2 "which" ["word", "choices"] (spWhich K) := by
  have h_codes := ok_codes (P := P) (w := w) (base := base) T
  obtain ⟨f, fd, hm, F, b⟩ := T.f_which
  refine ⟨f, fd, hm, F.kp, b, F.ok sc_which (fun vs H Q E h => ?_) (fun cdv A outer s H vs Q E hr h => ?_)⟩
  · obtain ⟨a, b, t, cs, rfl, _⟩ := h
    rfl
  refine ⟨_, (pss_cons (ps_for PassesOwn.never rfl (pi_tup (pv 1)) (pg_name (i := 2) sc_which.nd rfl (Or.inl rfl)) (pss_one (ps_if (pt_cmpR (op_eqD hr.units) (pv 0) (pe_cf h_codes (hr.mono (by decide)) (by rfl) (pa_cons (pv 2) pa_nil)) (nomark _)) (pss_one (ps_ret (pv 2))) pss_nil)))
        (pss_one (ps_ret pe_str))), ?_⟩
  obtain ⟨a, b, t, cs, rfl, ha, hb, hp, hl, hc, k⟩ := h
  refine ⟨_, rfl, b, rfl, ⟨_, hb⟩, for_tup (K := K) (a := b) (xs := cs.map fun c => V.str (Str.ofString c)) (fun i σ H' => ∃ v, σ = [some (.ref a), some (.ref b), v] ∧ Same H H' ∧ ∀ c ∈ cs.take i, t ≠ ascii c)
    ⟨none, rfl, Same.refl _, fun c hc => by simp at hc⟩ (fun i σ H' _ ⟨_, _, s, _⟩ => by
      rcases hb with (hb | ⟨o, hb⟩) | hb
      · exact .inl (.inl (s _ _ hb))
      · exact .inl (.inr ⟨o, s _ _ hb⟩)
      · exact .inr hb) ?_ ?_⟩
  · rintro i x σ H' hx ⟨v, rfl, s, hn⟩
    obtain ⟨c, hci, rfl⟩ : ∃ c, cs[i]? = some c ∧ x = V.str (Str.ofString c) := by
      rw [List.getElem?_map] at hx
      cases e : cs[i]? with
      | none => rw [e] at hx; cases hx
      | some c => rw [e] at hx; exact ⟨c, rfl, (Option.some.inj hx).symm⟩
    have hm : c ∈ cs := List.mem_of_getElem? hci
    refine ⟨_, rfl, _, rfl, _, rfl, hc c hm, fun p np => ?_⟩
    have h1 : SqL K (upd H' p (.lst (nV (Str.ofString c).cps.toList))) a (nV (t.map UInt8.toNat)) := by
      rw [← bV_nV]
      exact (s.trans (Same.new np _)).seq ha
    refine eq_nats h1 (SqL.of upd_same) ⟨_, rfl, ?_⟩
    have he : decide (t.map UInt8.toNat = (Str.ofString c).cps.toList) = decide (t = ascii c) := by
      rw [hp c hm]
      refine decide_eq_decide.mpr ⟨fun e => ?_, fun e => by rw [e]⟩
      exact bytes_inj.mp (by have := congrArg (List.map fun n : Nat => (n : Int)) e; rw [List.map_map, List.map_map] at this; exact this)
    rw [he]
    refine ite2 (fun e => ?_) (fun e => ?_)
    · have e' : t = ascii c := of_decide_eq_true e
      refine ⟨_, rfl, ?_⟩
      have hf : whichS t cs = c := by
        unfold whichS
        have sp : cs = cs.take i ++ c :: cs.drop (i + 1) := by
          obtain ⟨hlt, hg⟩ := List.getElem?_eq_some_iff.mp hci
          rw [← hg, ← List.drop_eq_getElem_cons hlt, List.take_append_drop]
        rw [sp, List.find?_append]
        have n1 : (cs.take i).find? (fun c => decide (t = ascii c)) = none := List.find?_eq_none.mpr fun x hx z => hn x hx (of_decide_eq_true z)
        rw [n1, List.find?_cons, decide_eq_true e']
        rfl
      have := k (upd H' p (.lst (nV (Str.ofString c).cps.toList))) (s.trans (Same.new np _))
      rw [hf] at this
      exact this
    · have e' : ¬ t = ascii c := fun z => e (decide_eq_true z)
      refine ⟨_, rfl, s.trans (Same.new np _), fun c' hc' => ?_⟩
      rw [take_more hci] at hc'
      rcases List.mem_append.mp hc' with z | z
      · exact hn c' z
      · rw [List.mem_singleton.mp z]; exact e'
  · rintro σ H' ⟨v, rfl, s, hn⟩
    have hf : whichS t cs = "" := by
      unfold whichS
      rw [List.find?_eq_none.mpr fun x hx z => ?_]
      · rfl
      · rw [List.length_map, List.take_length] at hn
        exact hn x hx (of_decide_eq_true z)
    have := k H' s
    rw [hf] at this
    exact this
abbrev s_is_digit : Stmt := top 9
theorem sc_is_digit : FnScope ["byte"] ["byte"] (defScope s_is_digit) := ⟨rfl, rfl, rfl, by decide +kernel, rfl, by decide +kernel, by decide +kernel⟩
theorem ok_is_digit (T : Txt K mg C) : OkF P w K mg base 1 "is_digit" ["byte"] (spIsDigit) := by
  obtain ⟨f, fd, hm, F, b⟩ := T.f_is_digit
  refine ⟨f, fd, hm, F.kp, b, F.ok sc_is_digit (fun vs H Q E h => ?_) (fun cdv A outer s H vs Q E hr h => ?_)⟩
  · obtain ⟨n, rfl, _⟩ := h
    rfl
  refine ⟨_, (pss_one (ps_ret (pe_chain op_le op_le (pe_gi rfl T.c_ZERO) (pv 0) (pe_op op_add (pe_gi rfl T.c_ZERO) pe_int)))), ?_⟩
  obtain ⟨n, rfl, k⟩ := h
  refine ⟨_, rfl, _, _, rfl, rfl, _, rfl, ?_⟩
  refine ite2 (fun e => ?_) (fun e => ?_)
  · have e' : (48 : Int) ≤ n := of_decide_eq_true e
    refine ⟨_, _, rfl, rfl, _, _, rfl, rfl, ?_⟩
    rw [decide_eq_true e', Bool.true_and] at k
    exact k
  · rw [Bool.eq_false_iff.mpr e, Bool.false_and] at k
    exact k
abbrev s_all_small : Stmt := top 10
theorem sc_all_small : FnScope ["word", "byte"] ["word"] (defScope s_all_small) := ⟨rfl, rfl, rfl, by decide +kernel, rfl, by decide +kernel, by decide +kernel⟩
theorem ok_all_small (T : Txt K mg C) : OkF P w K mg base 1 "all_small" ["word"] (spAllSmall K) := by
  obtain ⟨f, fd, hm, F, b⟩ := T.f_all_small
  refine ⟨f, fd, hm, F.kp, b, F.ok sc_all_small (fun vs H Q E h => ?_) (fun cdv A outer s H vs Q E hr h => ?_)⟩
  · obtain ⟨a, t, rfl, _⟩ := h
    rfl
  refine ⟨_, (pss_cons (ps_for PassesOwn.never rfl (pi_list (pv 0)) (pg_name (i := 1) sc_all_small.nd rfl (Or.inl rfl)) (pss_one (ps_if (pt_not (pt_chain op_le op_le (pe_gi rfl T.c_SMALL_A) (pv 1) (pe_gi rfl T.c_SMALL_Z))) (pss_one (ps_ret pe_bl)) pss_nil)))
        (pss_one (ps_ret pe_bl))), ?_⟩
  obtain ⟨a, t, rfl, ha, k⟩ := h
  refine ⟨_, rfl, a, rfl, ⟨_, ha⟩, for_list (K := K) (a := a) (xs := bV t) (fun i σ H' => ∃ v, σ = [some (.ref a), v] ∧ H' = H ∧ (t.take i).all isSmall = true)
    ⟨none, rfl, rfl, rfl⟩ (fun i σ H' _ ⟨_, _, e, _⟩ => by rw [e]; exact ha) ?_ ?_⟩
  · rintro i x σ H' hx ⟨v, rfl, rfl, hn⟩
    obtain ⟨c, hci, rfl⟩ := bV_get hx
    have tk := take_more hci
    refine ⟨_, rfl, _, _, rfl, rfl, _, rfl, ?_⟩
    have hb : isSmall c = (decide ((97 : Int) ≤ (c.toNat : Int)) && decide ((c.toNat : Int) ≤ 122)) := by
      unfold isSmall
      have e1 : decide ((97 : UInt8) ≤ c) = decide ((97 : Int) ≤ (c.toNat : Int)) := decide_eq_decide.mpr (by rw [UInt8.le_iff_toNat_le]; show 97 ≤ c.toNat ↔ _; omega)
      have e2 : decide (c ≤ (122 : UInt8)) = decide ((c.toNat : Int) ≤ 122) := decide_eq_decide.mpr (by rw [UInt8.le_iff_toNat_le]; show c.toNat ≤ 122 ↔ _; omega)
      rw [e1, e2]
    have bad : isSmall c = false → t.all isSmall = false := fun z => by
      rw [List.all_eq_false]
      exact ⟨c, List.mem_of_getElem? hci, by rw [z]; decide⟩
    refine ite2 (fun e => ?_) (fun e => ?_)
    · have e' : (97 : Int) ≤ (c.toNat : Int) := of_decide_eq_true e
      refine ⟨_, _, rfl, rfl, _, rfl, ?_⟩
      refine ite2 (fun e2 => ?_) (fun e2 => ?_)
      · have e2' : ¬ (c.toNat : Int) ≤ 122 := fun z => by rw [decide_eq_true z] at e2; cases e2
        have : isSmall c = false := by rw [hb, decide_eq_true e', decide_eq_false e2']; rfl
        rw [bad this] at k
        exact k
      · have e2' : (c.toNat : Int) ≤ 122 := by
          by_cases z : (c.toNat : Int) ≤ 122
          · exact z
          · rw [decide_eq_false z] at e2; exact absurd rfl e2
        have : isSmall c = true := by rw [hb, decide_eq_true e', decide_eq_true e2']; rfl
        exact ⟨_, rfl, rfl, by rw [tk, List.all_append, hn]; simp [this]⟩
    · have e' : ¬ (97 : Int) ≤ (c.toNat : Int) := fun z => e (decide_eq_true z)
      refine ⟨_, rfl, ?_⟩
      show (if true = true then _ else _)
      rw [if_pos rfl]
      have : isSmall c = false := by rw [hb, decide_eq_false e']; rfl
      rw [bad this] at k
      exact k
  · rintro σ H' ⟨v, rfl, rfl, hn⟩
    rw [bV_length, List.take_length] at hn
    rw [hn] at k
    exact k
abbrev s_is_name : Stmt := top 11
theorem sc_is_name : FnScope ["word"] ["word"] (defScope s_is_name) := ⟨rfl, rfl, rfl, by decide +kernel, rfl, by decide +kernel, by decide +kernel⟩
theorem ok_is_name (T : Txt K mg C) : OkF P w K mg base 3 "is_name" ["word"] (spIsName K) := by
  have h_all_small := ok_all_small (P := P) (w := w) (base := base) T
  have h_which := ok_which (P := P) (w := w) (base := base) T
  obtain ⟨f, fd, hm, F, b⟩ := T.f_is_name
  refine ⟨f, fd, hm, F.kp, b, F.ok sc_is_name (fun vs H Q E h => ?_) (fun cdv A outer s H vs Q E hr h => ?_)⟩
  · obtain ⟨a, t, rfl, _⟩ := h
    rfl
  refine ⟨_, (pss_cons (ps_if (pt_not (pt_chain op_le op_le pe_int (pe_callB call_len_seq (by rfl) T.len PySem.boot_len (pa_cons (pv 0) pa_nil)) pe_int)) (pss_one (ps_ret pe_bl)) pss_nil)
        (pss_cons (ps_if (pt_not (pt_val (pe_cf h_all_small (hr.mono (by decide)) (by rfl) (pa_cons (pv 0) pa_nil)))) (pss_one (ps_ret pe_bl)) pss_nil)
        (pss_one (ps_ret (pe_cmpR op_eq (pe_cf h_which (hr.mono (by decide)) (by rfl) (pa_cons (pv 0) (pa_cons (pe_tup (pa_cons pe_str (pa_cons pe_str (pa_cons pe_str (pa_cons pe_str pa_nil))))) pa_nil))) pe_str (nomark _)))))), ?_⟩
  obtain ⟨a, t, rfl, ha, k⟩ := h
  have hl : (bV t).length = t.length := bV_length t
  have nm : isName t = (decide (1 ≤ (t.length : Int)) && (decide ((t.length : Int) ≤ 4) && (t.all isSmall && decide (whichS t ["read", "if", "else", "stop"] = "")))) := by
    unfold isName Vaslca.NAME
    have e1 : (!t.isEmpty) = decide (1 ≤ (t.length : Int)) := by cases t <;> simp; omega
    have e2 : decide (t.length ≤ 4) = decide ((t.length : Int) ≤ 4) := decide_eq_decide.mpr (by omega)
    have e3 : (!Vaslca.RESERVED.contains t) = decide (whichS t ["read", "if", "else", "stop"] = "") := by
      unfold whichS Vaslca.RESERVED
      by_cases h1 : t = ascii "read"
      · subst h1; decide
      by_cases h2 : t = ascii "if"
      · subst h2; decide
      by_cases h3 : t = ascii "else"
      · subst h3; decide
      by_cases h4 : t = ascii "stop"
      · subst h4; decide
      have : (["read", "if", "else", "stop"].find? fun c => decide (t = ascii c)) = none := by
        simp [List.find?_cons, h1, h2, h3, h4]
      rw [this]
      simp [h1, h2, h3, h4]
    rw [e1, e2, e3]
  refine ⟨_, rfl, _, _, rfl, .inl ha, _, _, rfl, rfl, _, rfl, ?_⟩
  rw [hl]
  refine if_d (fun c1 => ?_) (fun c1 => ?_)
  · refine ⟨_, _, rfl, rfl, _, rfl, ?_⟩
    refine if_nd (fun c2 => ?_) (fun c2 => ?_)
    · rw [nm, decide_eq_false c2, Bool.false_and, Bool.and_false] at k
      exact k H (Same.refl H)
    · refine ⟨_, rfl, a, t, rfl, ha, _, rfl, ?_⟩
      rw [nm, decide_eq_true c1, decide_eq_true c2, Bool.true_and, Bool.true_and] at k
      cases e : t.all isSmall with
      | false =>
        refine if_t rfl ?_
        rw [e, Bool.false_and] at k
        exact k H (Same.refl H)
      | true =>
        refine if_f rfl ?_
        rw [e, Bool.true_and] at k
        refine ⟨_, rfl, (by show 4 ≤ sizeLine; decide), fun p np => ?_⟩
        refine ⟨a, p, t, ["read", "if", "else", "stop"], rfl, (Same.new np _).seq ha, SqT.of upd_same, by unfold Plain; decide, by decide, by decide, fun H' s' => ?_⟩
        refine ⟨rfl, ?_⟩
        have e2 : decide (V.str (Str.ofString (whichS t ["read", "if", "else", "stop"])) = V.str "") = decide (whichS t ["read", "if", "else", "stop"] = "") := by
          have hm : ∀ c ∈ ["", "read", "if", "else", "stop"], decide (V.str (Str.ofString c) = V.str "") = decide (c = "") := by decide
          refine hm _ ?_
          unfold whichS
          cases q : ["read", "if", "else", "stop"].find? fun c => decide (t = ascii c) with
          | none => simp
          | some c => exact List.mem_cons_of_mem _ (List.mem_of_find?_eq_some q)
        rw [e2]
        exact k H' ((Same.new np _).trans s')
  · refine ⟨_, rfl, if_t rfl ?_⟩
    rw [nm, decide_eq_false c1, Bool.false_and] at k
    exact k H (Same.refl H)
abbrev s_is_number : Stmt := top 12
theorem sc_is_number : FnScope ["word"] ["word"] (defScope s_is_number) := ⟨rfl, rfl, rfl, by decide +kernel, rfl, by decide +kernel, by decide +kernel⟩
theorem ok_is_number (T : Txt K mg C) : OkF P w K mg base 2 "is_number" ["word"] (spIsNumber K) := by
  have h_is_digit := ok_is_digit (P := P) (w := w) (base := base) T
  obtain ⟨f, fd, hm, F, b⟩ := T.f_is_number
  refine ⟨f, fd, hm, F.kp, b, F.ok sc_is_number (fun vs H Q E h => ?_) (fun cdv A outer s H vs Q E hr h => ?_)⟩
  · obtain ⟨a, t, rfl, _⟩ := h
    rfl
  refine ⟨_, (pss_cons (ps_if (pt_cmpR op_eq (pe_callB call_len_seq (by rfl) T.len PySem.boot_len (pa_cons (pv 0) pa_nil)) pe_int (nomark _)) (pss_one (ps_ret (pe_cf h_is_digit (hr.mono (by decide)) (by rfl) (pa_cons (pe_ix ix_list (pv 0) pe_int (fun _ _ => rfl)) pa_nil)))) pss_nil)
        (pss_cons (ps_if (pt_cmpR op_eq (pe_callB call_len_seq (by rfl) T.len PySem.boot_len (pa_cons (pv 0) pa_nil)) pe_int (nomark _)) (pss_one (ps_ret (pe_and (pe_cf h_is_digit (hr.mono (by decide)) (by rfl) (pa_cons (pe_ix ix_list (pv 0) pe_int (fun _ _ => rfl)) pa_nil)) (pe_and (pe_cmpR op_ne (pe_ix ix_list (pv 0) pe_int (fun _ _ => rfl)) (pe_gi rfl T.c_ZERO) (nomark _)) (pe_one (pe_cf h_is_digit (hr.mono (by decide)) (by rfl) (pa_cons (pe_ix ix_list (pv 0) pe_int (fun _ _ => rfl)) pa_nil))))))) pss_nil)
        (pss_one (ps_ret pe_bl)))), ?_⟩
  obtain ⟨a, t, rfl, ha, k⟩ := h
  have hl : (bV t).length = t.length := bV_length t
  have dg : ∀ b : UInt8, (decide ((48 : Int) ≤ (b.toNat : Int)) && decide ((b.toNat : Int) ≤ 57)) = isDigit b := fun b => by
    unfold isDigit
    have e1 : decide ((48 : UInt8) ≤ b) = decide ((48 : Int) ≤ (b.toNat : Int)) := decide_eq_decide.mpr (by rw [UInt8.le_iff_toNat_le]; show 48 ≤ b.toNat ↔ _; omega)
    have e2 : decide (b ≤ (57 : UInt8)) = decide ((b.toNat : Int) ≤ 57) := decide_eq_decide.mpr (by rw [UInt8.le_iff_toNat_le]; show b.toNat ≤ 57 ↔ _; omega)
    rw [e1, e2]
  have two : ∀ x y : UInt8, (numberOf [x, y]).isSome = (isDigit x && (!decide (x = 48) && isDigit y)) := fun x y => by
    by_cases hx : isDigit x = true
    · by_cases hy : isDigit y = true
      · have q : ∀ i j : Fin 10, (numberOf [UInt8.ofNat (48 + i.1), UInt8.ofNat (48 + j.1)]).isSome = (isDigit (UInt8.ofNat (48 + i.1)) && (!decide (UInt8.ofNat (48 + i.1) = 48) && isDigit (UInt8.ofNat (48 + j.1)))) := by decide +kernel
        have dn : ∀ z : UInt8, isDigit z = true → ∃ i : Fin 10, z = UInt8.ofNat (48 + i.1) := fun z hz => by
          have h1 : 48 ≤ z.toNat ∧ z.toNat ≤ 57 := by
            simp [isDigit, UInt8.le_iff_toNat_le] at hz
            exact hz
          refine ⟨⟨z.toNat - 48, by omega⟩, ?_⟩
          have : 48 + (z.toNat - 48) = z.toNat := by omega
          show z = UInt8.ofNat (48 + (z.toNat - 48))
          rw [this]
          simp
        obtain ⟨i, rfl⟩ := dn x hx
        obtain ⟨j, rfl⟩ := dn y hy
        exact q i j
      · have : isDigit y = false := by simpa using hy
        unfold numberOf
        simp [this]
    · have : isDigit x = false := by simpa using hx
      unfold numberOf
      simp [this]
  have one : ∀ x : UInt8, (numberOf [x]).isSome = isDigit x := fun x => by
    by_cases hx : isDigit x = true
    · have q : ∀ i : Fin 10, (numberOf [UInt8.ofNat (48 + i.1)]).isSome = isDigit (UInt8.ofNat (48 + i.1)) := by decide +kernel
      have h1 : 48 ≤ x.toNat ∧ x.toNat ≤ 57 := by
        simp [isDigit, UInt8.le_iff_toNat_le] at hx
        exact hx
      have e : x = UInt8.ofNat (48 + (⟨x.toNat - 48, by omega⟩ : Fin 10).1) := by
        have : 48 + (x.toNat - 48) = x.toNat := by omega
        show x = UInt8.ofNat (48 + (x.toNat - 48))
        rw [this]
        simp
      rw [e]
      exact q _
    · have : isDigit x = false := by simpa using hx
      unfold numberOf
      simp [this]
  refine ⟨_, rfl, _, _, rfl, .inl ha, rfl, _, rfl, ?_⟩
  rw [hl]
  refine if_d (fun c1 => ?_) (fun c1 => ?_)
  · have c1' : t.length = 1 := by have := V.int.inj c1; omega
    obtain ⟨x, rfl⟩ := List.length_eq_one_iff.mp c1'
    refine ⟨_, rfl, _, _, _, _, rfl, rfl, ha, rfl, _, rfl, ?_⟩
    rw [dg, ← one]
    exact k
  · have c1' : ¬ t.length = 1 := fun z => c1 (by rw [z]; rfl)
    refine ⟨_, rfl, _, _, rfl, .inl ha, rfl, _, rfl, ?_⟩
    rw [hl]
    refine if_d (fun c2 => ?_) (fun c2 => ?_)
    · have c2' : t.length = 2 := by have := V.int.inj c2; omega
      obtain ⟨x, y, rfl⟩ : ∃ x y, t = [x, y] := by
        match t, c2' with
        | [x, y], _ => exact ⟨x, y, rfl⟩
      rw [two] at k
      refine ⟨_, rfl, _, _, _, _, rfl, rfl, ha, rfl, _, rfl, _, rfl, ?_⟩
      rw [dg]
      refine if_b (fun e1 => ?_) (fun e1 => ?_)
      · refine ⟨_, rfl, _, _, _, _, rfl, rfl, ha, rfl, rfl, _, rfl, ?_⟩
        have ee : decide (V.int (x.toNat : Int) = V.int 48) = decide (x = 48) := decide_eq_decide.mpr ⟨fun z => UInt8.toNat.inj (by have := V.int.inj z; show x.toNat = 48; omega), fun z => by rw [z]; rfl⟩
        rw [ee]
        refine if_b (fun e2 => ?_) (fun e2 => ?_)
        · refine ⟨_, rfl, _, _, _, _, rfl, rfl, ha, rfl, _, rfl, ?_⟩
          rw [dg]
          rw [e1, e2, Bool.true_and, Bool.true_and] at k
          exact k
        · rw [e1, e2, Bool.true_and, Bool.false_and] at k
          exact k
      · rw [e1, Bool.false_and] at k
        exact k
    · have c2' : ¬ t.length = 2 := fun z => c2 (by rw [z]; rfl)
      have : (numberOf t).isSome = false := by
        have : numberOf t = none := by
          unfold numberOf
          rw [if_neg]
          rintro ⟨h1, h2, h3⟩
          have h1' : t.length ≤ 2 := h1
          have : t = [] := List.length_eq_zero_iff.mp (by omega)
          subst this
          revert h3
          decide
        rw [this]
        rfl
      rw [this] at k
      exact k
abbrev s_is_atom : Stmt := top 13
theorem sc_is_atom : FnScope ["word"] ["word"] (defScope s_is_atom) := ⟨rfl, rfl, rfl, by decide +kernel, rfl, by decide +kernel, by decide +kernel⟩
theorem ok_is_atom (T : Txt K mg C) : OkF P w K mg base 4 "is_atom" ["word"] (spIsAtom K) := by
  have h_is_name := ok_is_name (P := P) (w := w) (base := base) T
  have h_is_number := ok_is_number (P := P) (w := w) (base := base) T
  obtain ⟨f, fd, hm, F, b⟩ := T.f_is_atom
  refine ⟨f, fd, hm, F.kp, b, F.ok sc_is_atom (fun vs H Q E h => ?_) (fun cdv A outer s H vs Q E hr h => ?_)⟩
  · obtain ⟨a, t, rfl, _⟩ := h
    rfl
  refine ⟨_, (pss_one (ps_ret (pe_or (pe_cf h_is_name (hr.mono (by decide)) (by rfl) (pa_cons (pv 0) pa_nil)) (pe_one (pe_cf h_is_number (hr.mono (by decide)) (by rfl) (pa_cons (pv 0) pa_nil)))))), ?_⟩
  obtain ⟨a, t, rfl, ha, k⟩ := h
  have at' : (atomOf t).isSome = (isName t || (numberOf t).isSome) := by
    unfold atomOf
    cases isName t <;> simp
  rw [at'] at k
  refine ⟨_, rfl, a, t, rfl, ha, fun H' s => ⟨_, rfl, ?_⟩⟩
  refine if_b (fun e => ?_) (fun e => ?_)
  · rw [e, Bool.true_or] at k
    exact k H' s
  · rw [e, Bool.false_or] at k
    exact ⟨_, rfl, a, t, rfl, s.seq ha, k H' s⟩
abbrev s_number_of : Stmt := top 14
theorem sc_number_of : FnScope ["word", "total", "byte"] ["word"] (defScope s_number_of) := ⟨rfl, rfl, rfl, by decide +kernel, rfl, by decide +kernel, by decide +kernel⟩
theorem ok_number_of (T : Txt K mg C) : OkF P w K mg base 1 "number_of" ["word"] (spNumberOf K) := by
  obtain ⟨f, fd, hm, F, b⟩ := T.f_number_of
  refine ⟨f, fd, hm, F.kp, b, F.ok sc_number_of (fun vs H Q E h => ?_) (fun cdv A outer s H vs Q E hr h => ?_)⟩
  · obtain ⟨a, t, rfl, _⟩ := h
    rfl
  refine ⟨_, (pss_cons (ps_set (i := 1) sc_number_of.nd rfl (Or.inl rfl) pe_int)
        (pss_cons (ps_for PassesOwn.never rfl (pi_tup (pv 0)) (pg_name (i := 2) sc_number_of.nd rfl (Or.inl rfl)) (pss_one (ps_set (i := 1) sc_number_of.nd rfl (Or.inl rfl) (pe_op op_add (pe_op op_mul pe_int (pv 1)) (pe_op op_sub (pv 2) (pe_gi rfl T.c_ZERO))))))
        (pss_one (ps_ret (pv 1))))), ?_⟩
  obtain ⟨a, t, rfl, ha, hd, k⟩ := h
  refine ⟨_, rfl, a, rfl, ⟨_, ha⟩, for_tup (K := K) (a := a) (xs := bV t) (fun i σ H' => ∃ v, σ = [some (.ref a), some (.int (valueOf (t.take i) : Nat)), v] ∧ H' = H)
    ⟨none, rfl, rfl⟩ (fun i σ H' _ ⟨_, _, e⟩ => by rw [e]; exact ha) ?_ ?_⟩
  · rintro i x σ H' hx ⟨v, rfl, rfl⟩
    obtain ⟨c, hci, rfl⟩ := bV_get hx
    refine ⟨_, rfl, _, _, rfl, rfl, .inl ⟨by decide, by decide⟩, _, rfl, _, _, rfl, rfl, _, _, rfl, rfl, ?_⟩
    refine ⟨some (.int (c.toNat : Int)), ?_, rfl⟩
    have h1 : isDigit c = true := List.all_eq_true.mp hd c (List.mem_of_getElem? hci)
    have h2 : 48 ≤ c.toNat ∧ c.toNat ≤ 57 := by
      simp [isDigit, UInt8.le_iff_toNat_le] at h1
      exact h1
    have e : valueOf (t.take (i + 1)) = valueOf (t.take i) * 10 + (c.toNat - 48) := by
      rw [take_more hci]
      unfold valueOf
      rw [List.foldl_append]
      rfl
    rw [e]
    have e2 : (10 : Int) * (valueOf (t.take i) : Nat) + ((c.toNat : Int) - 48) = ((valueOf (t.take i) * 10 + (c.toNat - 48) : Nat) : Int) := by omega
    show [some (V.ref a), some (V.int ((10 : Int) * (valueOf (t.take i) : Nat) + ((c.toNat : Int) - 48))), some (V.int (c.toNat : Int))] = _
    rw [e2]
  · rintro σ H' ⟨v, rfl, rfl⟩
    refine ⟨_, rfl, ?_⟩
    rw [bV_length, List.take_length]
    exact k
end
end Ld
end
section
set_option Elab.async false
set_option maxRecDepth 100000
set_option maxHeartbeats 4000000
namespace Ld
open PySem PySem.Spec PyProof.Rows L2
open Vaslca (Text ascii isName isDigit isSmall numberOf atomOf valueOf cutAt atomText)
def spEndsWell (K : PySem.W.Frag) : Sp := fun vs H Q _ => ∃ (a : Addr) (t : Text), vs = [.ref a] ∧ LB H a t ∧ Q (.bl (endsWell t)) H
def spRowsOf (K : PySem.W.Frag) : Sp := fun vs H Q _ => ∃ (a : Addr) (t : Text), vs = [.ref a] ∧ LB H a t ∧ t.length ≤ 1000 ∧ ∀ H' p, Same H H' → (∀ B, Same B H' → (∀ b u, H b = none → H' b = some u → B b = some u) → LBs B p (rowsIn t)) → Q (.ref p) H'
def spBlanks (K : PySem.W.Frag) : Sp := fun vs H Q _ => ∃ (a : Addr) (t : Text), vs = [.ref a] ∧ LB H a t ∧ Q (.int (blanks t : Nat)) H
def spWordsOf (K : PySem.W.Frag) : Sp := fun vs H Q _ => ∃ (a : Addr) (t : Text), vs = [.ref a] ∧ LB H a t ∧ t.length ≤ 1000 ∧ ∀ H' p, Same H H' → LBs H' p (cutAt 32 t) → Q (.ref p) H'
section
variable {P : Program} {w : World} {K : PySem.W.Frag} {mg : Str → Option Value} {base : Heap} {C : Cs}
theorem len_cut (c : UInt8) : ∀ t : Text, (cutAt c t).length ≤ t.length + 1
  | [] => by simp [cutAt]
  | b :: r => by
    have ih := len_cut c r
    by_cases h : b = c
    · rw [cutAt, if_pos h]; simp only [List.length_cons]; omega
    · cases e : cutAt c r with
      | nil => exact absurd e (cut_ne _ _)
      | cons w ws => rw [cut_cons_ne h e]; rw [e] at ih; simp only [List.length_cons] at ih ⊢; omega
theorem len_word (c : UInt8) : ∀ (t : Text) (w : Text), w ∈ cutAt c t → w.length ≤ t.length
  | [], w, h => by simp [cutAt] at h; subst h; simp
  | b :: r, w, h => by
    have ih := len_word c r
    by_cases hb : b = c
    · rw [cutAt, if_pos hb] at h
      rcases List.mem_cons.mp h with rfl | h
      · simp
      · have := ih w h; simp only [List.length_cons]; omega
    · cases e : cutAt c r with
      | nil => exact absurd e (cut_ne _ _)
      | cons x xs =>
        rw [cut_cons_ne hb e] at h
        rw [e] at ih
        rcases List.mem_cons.mp h with rfl | h
        · have := ih x (by simp); simp only [List.length_cons]; omega
        · have := ih w (List.mem_cons_of_mem _ h); simp only [List.length_cons]; omega
/-- cutting, sign by sign: the rows done, the row at hand -/
structure Cut (c : UInt8) (t : Text) (H0 H : Hp) (p r : Addr) : Prop where
  ex : ∃ (rs : List Addr) (ws : List Text) (w : Text), cutAt c t = ws ++ [w] ∧ H p = some (.lst (rV rs)) ∧ LB H r w ∧ AllAt (fun a x => LB H a x ∧ a ≠ p ∧ a ≠ r) rs ws ∧ ∀ a ∈ rs, H0 a = none
  same : Same H0 H
  np : H0 p = none
  nr : H0 r = none
  ne : p ≠ r
theorem Cut.start {c : UInt8} {H : Hp} {p r : Addr} (hp : H p = none) (hr : (upd H p (.lst [])) r = none) : Cut c [] H (upd (upd H p (.lst [])) r (.lst [])) p r := by
  have ne : p ≠ r := ne_of_none upd_same hr
  have hr0 : H r = none := by rw [upd_ne ne.symm] at hr; exact hr
  refine ⟨⟨[], [], [], rfl, ?_, upd_same, trivial, fun a m => by cases m⟩, (Same.new hp _).trans (Same.new hr _), hp, hr0, ne⟩
  rw [upd_ne ne]
  exact upd_same
/-- a sign more in the row -/
theorem Cut.more {c b : UInt8} {t : Text} {H0 H : Hp} {p r : Addr} (x : Cut c t H0 H p r) (hb : b ≠ c) : ∃ xs : List V, H r = some (.lst xs) ∧ xs.length ≤ t.length ∧ Cut c (t ++ [b]) H0 (upd H r (.lst (xs ++ [.int (b.toNat : Int)]))) p r := by
  obtain ⟨⟨rs, ws, w, e, hp, hr, ha, fr⟩, s, np, nr, ne⟩ := x
  refine ⟨_, hr, ?_, ⟨⟨rs, ws, w ++ [b], ?_, ?_, ?_, ?_, fr⟩, ?_, np, nr, ne⟩⟩
  · rw [bV_length]
    exact len_word c t w (by rw [e]; simp)
  · rw [cut_snoc e, if_neg hb]
  · rw [upd_ne ne]; exact hp
  · unfold LB
    rw [upd_same]
    unfold bV
    rw [List.map_append]
    rfl
  · exact ha.mono fun a x h => ⟨by unfold LB; rw [upd_ne h.2.2]; exact h.1, h.2⟩
  · exact s.put nr _
/-- the row is done; a new one is begun -/
theorem Cut.next {c b : UInt8} {t : Text} {H0 H : Hp} {p r : Addr} (x : Cut c t H0 H p r) (hb : b = c) : ∃ xs : List V, H p = some (.lst xs) ∧ xs.length ≤ t.length ∧
    ∀ r', (upd H p (.lst (xs ++ [.ref r]))) r' = none → Cut c (t ++ [b]) H0 (upd (upd H p (.lst (xs ++ [.ref r]))) r' (.lst [])) p r' := by
  obtain ⟨⟨rs, ws, w, e, hp, hr, ha, fr⟩, s, np, nr, ne⟩ := x
  refine ⟨_, hp, ?_, fun r' h' => ?_⟩
  · rw [rV_length, ha.len]
    have := len_cut c t
    rw [e, List.length_append] at this
    simp at this
    omega
  have n1 : p ≠ r' := ne_of_none upd_same h'
  have h2 : H r' = none := by rw [upd_ne n1.symm] at h'; exact h'
  have n2 : r ≠ r' := ne_of_none hr h2
  refine ⟨⟨rs ++ [r], ws ++ [w], [], ?_, ?_, upd_same, ?_, fun a m => (List.mem_append.mp m).elim (fr a) fun m => by rw [List.mem_singleton.mp m]; exact nr⟩, (s.put np _).trans (Same.new h' _), np, ?_, n1⟩
  · rw [cut_snoc e, if_pos hb]; simp
  · rw [upd_ne n1, upd_same]
    exact congrArg (fun l => some (HO.lst l)) (rV_app rs [r])
  · refine AllAt.app (AllAt.mono (fun a x h => ⟨?_, h.2.1, ne_of_none h.1 h2⟩) ha) (AllAt.one ⟨?_, ne.symm, n2⟩)
    · show upd (upd H p (HO.lst (rV rs ++ [V.ref r]))) r' (HO.lst []) r = some (HO.lst (bV w))
      rw [upd_ne n2, upd_ne ne.symm]
      exact hr
    · show upd (upd H p (HO.lst (rV rs ++ [V.ref r]))) r' (HO.lst []) a = some (HO.lst (bV x))
      rw [upd_ne (ne_of_none h.1 h2), upd_ne h.2.1]
      exact h.1
  · exact s.free h2
theorem byte_dec (b c : UInt8) : decide (V.int (b.toNat : Int) = V.int (c.toNat : Int)) = decide (b = c) :=
  decide_eq_decide.mpr ⟨fun z => UInt8.toNat.inj (by have := V.int.inj z; omega), fun z => by rw [z]⟩
abbrev s_ends_well : Stmt := top 24
theorem sc_ends_well : FnScope ["text"] ["text"] (defScope s_ends_well) := ⟨rfl, rfl, rfl, by decide +kernel, rfl, by decide +kernel, by decide +kernel⟩
theorem ok_ends_well (T : Txt K mg C) : OkF P w K mg base 1 "ends_well" ["text"] (spEndsWell K) := by
  obtain ⟨f, fd, hm, F, b⟩ := T.f_ends_well
  refine ⟨f, fd, hm, F.kp, b, F.ok sc_ends_well (fun vs H Q E h => ?_) (fun cdv A outer s H vs Q E hr h => ?_)⟩
  · obtain ⟨a, t, rfl, _⟩ := h
    rfl
  refine ⟨_, (pss_one (ps_ret (pe_or (pe_cmpR op_eq (pe_callB call_len_seq (by rfl) T.len PySem.boot_len (pa_cons (pv 0) pa_nil)) pe_int (nomark _)) (pe_one (pe_cmpR op_eq (pe_ix ix_list (pv 0) (pe_op op_sub (pe_callB call_len_seq (by rfl) T.len PySem.boot_len (pa_cons (pv 0) pa_nil)) pe_int) (fun _ _ => rfl)) (pe_gi rfl T.c_END) (nomark _)))))), ?_⟩
  obtain ⟨a, t, rfl, ha, k⟩ := h
  have hl : (bV t).length = t.length := bV_length t
  refine ⟨_, rfl, _, _, rfl, .inl (SqL.of ha), rfl, _, rfl, ?_⟩
  rw [hl]
  refine if_d (fun c => ?_) (fun c => ?_)
  · have : t = [] := List.length_eq_zero_iff.mp (by have := V.int.inj c; omega)
    subst this
    exact k
  · have hn : t ≠ [] := fun z => c (by rw [z]; rfl)
    have hlen : 0 < t.length := List.length_pos_iff.mpr hn
    have g : t[t.length - 1]? = some (t.getLast hn) := by rw [← List.getLast?_eq_getElem?]; exact List.getLast?_eq_some_getLast hn
    have gv : (bV t)[t.length - 1]? = some (.int ((t.getLast hn).toNat : Int)) := by unfold bV; rw [List.getElem?_map, g]; rfl
    refine ⟨_, rfl, _, rfl, _, _, rfl, .inl (SqL.of ha), _, _, rfl, rfl, _, _, _, .int ((t.getLast hn).toNat : Int), rfl, rfl, SqL.of ha, ?_, rfl, ?_⟩
    · rw [hl]
      have e : ((t.length : Int) - 1) = ((t.length - 1 : Nat) : Int) := by omega
      rw [e]
      exact atI_n gv
    · have e : endsWell t = decide (V.int ((t.getLast hn).toNat : Int) = V.int 10) := by
        unfold endsWell
        rw [List.getLast?_eq_some_getLast hn]
        have : t.isEmpty = false := by cases t <;> first | rfl | exact absurd rfl hn
        rw [this, Bool.false_or]
        rw [show (10 : Int) = ((10 : UInt8).toNat : Int) from rfl, byte_dec]
        by_cases z : t.getLast hn = 10 <;> simp [z]
      rw [e] at k
      exact k
abbrev s_rows_of : Stmt := top 25
theorem sc_rows_of : FnScope ["text", "rows", "row", "byte"] ["text"] (defScope s_rows_of) := ⟨rfl, rfl, rfl, by decide +kernel, rfl, by decide +kernel, by decide +kernel⟩
theorem ok_rows_of (T : Txt K mg C) : OkF P w K mg base 1 "rows_of" ["text"] (spRowsOf K) := by
  obtain ⟨f, fd, hm, F, b⟩ := T.f_rows_of
  refine ⟨f, fd, hm, F.kp, b, F.ok sc_rows_of (fun vs H Q E h => ?_) (fun cdv A outer s H vs Q E hr h => ?_)⟩
  · obtain ⟨a, t, rfl, _⟩ := h
    rfl
  refine ⟨_, (pss_cons (ps_set (i := 1) sc_rows_of.nd rfl (Or.inl rfl) (pe_lst pa_nil))
        (pss_cons (ps_set (i := 2) sc_rows_of.nd rfl (Or.inl rfl) (pe_lst pa_nil))
        (pss_cons (ps_for PassesOwn.never rfl (pi_list (pv 0)) (pg_name (i := 3) sc_rows_of.nd rfl (Or.inl rfl)) (pss_one (ps_if (pt_cmpR op_eq (pv 3) (pe_gi rfl T.c_END) (nomark _)) (pss_cons (ps_expr (pe_bm PySem.F.plainAttrs_list PySem.F.slot_list_append PySem.F.type_list_append mt_append (pv 1) (pa_cons (pv 2) pa_nil)))
        (pss_one (ps_set (i := 2) sc_rows_of.nd rfl (Or.inl rfl) (pe_lst pa_nil)))) (pss_one (ps_expr (pe_bm PySem.F.plainAttrs_list PySem.F.slot_list_append PySem.F.type_list_append mt_append (pv 2) (pa_cons (pv 3) pa_nil)))))))
        (pss_one (ps_ret (pv 1)))))), ?_⟩
  obtain ⟨a, t, rfl, ha, hz, k⟩ := h
  refine ⟨(by show 0 ≤ sizeLine; decide), fun p hp => ⟨(by show 0 ≤ sizeLine; decide), fun r hr0 => ?_⟩⟩
  refine ⟨_, rfl, a, rfl, ⟨bV t, SqL.of (((Same.new hp _).trans (Same.new hr0 _)) _ _ ha)⟩, for_list (K := K) (a := a) (xs := bV t) (fun i σ H' => ∃ r v, σ = [some (.ref a), some (.ref p), some (.ref r), v] ∧ Cut 10 (t.take i) H H' p r)
    ⟨r, none, rfl, Cut.start hp hr0⟩ (fun i σ H' _ ⟨_, _, _, x⟩ => SqL.of (x.same _ _ ha)) ?_ ?_⟩
  · rintro i x σ H' hx ⟨r, v, rfl, cu⟩
    obtain ⟨c, hci, rfl⟩ := bV_get hx
    have tk := take_more hci
    have hlt : i < t.length := (List.getElem?_eq_some_iff.mp hci).1
    refine ⟨_, rfl, rfl, _, rfl, ?_⟩
    rw [show decide (V.int (c.toNat : Int) = V.int 10) = decide (c = 10) from byte_dec c 10]
    refine if_d (fun e => ?_) (fun e => ?_)
    · obtain ⟨xs, h1, h2, h3⟩ := cu.next e
      rw [List.length_take] at h2
      refine ⟨_, rfl, .inl ⟨rfl, _, SqL.of h1⟩, _, rfl, _, _, _, rfl, rfl, h1, small1000 (by omega), ?_⟩
      refine ⟨(by show 0 ≤ sizeLine; decide), fun r' hr' => ?_⟩
      exact ⟨r', some (.int (c.toNat : Int)), rfl, by rw [tk]; exact h3 r' hr'⟩
    · obtain ⟨xs, h1, h2, h3⟩ := cu.more e
      rw [List.length_take] at h2
      refine ⟨_, rfl, .inl ⟨rfl, _, SqL.of h1⟩, _, rfl, _, _, _, rfl, rfl, h1, small1000 (by omega), ?_⟩
      exact ⟨r, some (.int (c.toNat : Int)), rfl, by rw [tk]; exact h3⟩
  · rintro σ H' ⟨r, v, rfl, cu⟩
    rw [bV_length, List.take_length] at cu
    obtain ⟨⟨rs, ws, w, e, hp', hr', hal, fr⟩, s', np, _, _⟩ := cu
    refine ⟨_, rfl, k _ _ s' fun B sB new => ⟨rs, new _ _ np hp', ?_⟩⟩
    have : rowsIn t = ws := by unfold rowsIn; rw [e]; simp
    rw [this]
    exact hal.monoM fun a x m h => new _ _ (fr a m) h.1
abbrev s_blanks_ahead : Stmt := top 26
theorem sc_blanks_ahead : FnScope ["row", "many", "byte"] ["row"] (defScope s_blanks_ahead) := ⟨rfl, rfl, rfl, by decide +kernel, rfl, by decide +kernel, by decide +kernel⟩
theorem ok_blanks_ahead (T : Txt K mg C) : OkF P w K mg base 1 "blanks_ahead" ["row"] (spBlanks K) := by
  obtain ⟨f, fd, hm, F, b⟩ := T.f_blanks_ahead
  refine ⟨f, fd, hm, F.kp, b, F.ok sc_blanks_ahead (fun vs H Q E h => ?_) (fun cdv A outer s H vs Q E hr h => ?_)⟩
  · obtain ⟨a, t, rfl, _⟩ := h
    rfl
  refine ⟨_, (pss_cons (ps_set (i := 1) sc_blanks_ahead.nd rfl (Or.inl rfl) pe_int)
        (pss_cons (ps_for PassesOwn.never rfl (pi_list (pv 0)) (pg_name (i := 2) sc_blanks_ahead.nd rfl (Or.inl rfl)) (pss_cons (ps_if (pt_cmpR op_ne (pv 2) (pe_gi rfl T.c_BLANK) (nomark _)) (pss_one (ps_ret (pv 1))) pss_nil)
        (pss_one (ps_aug (i := 1) sc_blanks_ahead.nd rfl (Or.inl rfl) pe_int ip_add))))
        (pss_one (ps_ret (pv 1))))), ?_⟩
  obtain ⟨a, t, rfl, ha, k⟩ := h
  refine ⟨_, rfl, a, rfl, ⟨bV t, SqL.of ha⟩, for_list (K := K) (a := a) (xs := bV t) (fun i σ H' => ∃ v, σ = [some (.ref a), some (.int (i : Int)), v] ∧ H' = H ∧ blanks t = i + blanks (t.drop i))
    ⟨none, rfl, rfl, by simp⟩ (fun i σ H' _ ⟨_, _, e, _⟩ => by rw [e]; exact SqL.of ha) ?_ ?_⟩
  · rintro i x σ H' hx ⟨v, rfl, rfl, hb⟩
    obtain ⟨c, hci, rfl⟩ := bV_get hx
    obtain ⟨hlt, hg⟩ := List.getElem?_eq_some_iff.mp hci
    have dr : t.drop i = c :: t.drop (i + 1) := by rw [← hg]; exact List.drop_eq_getElem_cons hlt
    refine ⟨_, rfl, rfl, _, rfl, ?_⟩
    rw [show decide (V.int (c.toNat : Int) = V.int 32) = decide (c = 32) from byte_dec c 32]
    refine if_nd (fun e => ?_) (fun e => ?_)
    · have z : blanks (t.drop i) = 0 := by rw [dr]; unfold blanks; simp [e]
      rw [hb, z] at k
      exact ⟨_, rfl, k⟩
    · have z : blanks (t.drop i) = 1 + blanks (t.drop (i + 1)) := by rw [dr]; unfold blanks; simp [e]; omega
      refine ⟨_, rfl, _, _, rfl, rfl, ?_⟩
      exact ⟨some (.int (c.toNat : Int)), rfl, rfl, by omega⟩
  · rintro σ H' ⟨v, rfl, rfl, hb⟩
    refine ⟨_, rfl, ?_⟩
    rw [bV_length] at hb ⊢
    have : blanks (t.drop t.length) = 0 := by rw [List.drop_length]; rfl
    rw [this] at hb
    rw [hb] at k
    exact k
abbrev s_words_of : Stmt := top 27
theorem sc_words_of : FnScope ["row", "words", "word", "byte"] ["row"] (defScope s_words_of) := ⟨rfl, rfl, rfl, by decide +kernel, rfl, by decide +kernel, by decide +kernel⟩
theorem ok_words_of (T : Txt K mg C) : OkF P w K mg base 1 "words_of" ["row"] (spWordsOf K) := by
  obtain ⟨f, fd, hm, F, b⟩ := T.f_words_of
  refine ⟨f, fd, hm, F.kp, b, F.ok sc_words_of (fun vs H Q E h => ?_) (fun cdv A outer s H vs Q E hr h => ?_)⟩
  · obtain ⟨a, t, rfl, _⟩ := h
    rfl
  refine ⟨_, (pss_cons (ps_set (i := 1) sc_words_of.nd rfl (Or.inl rfl) (pe_lst pa_nil))
        (pss_cons (ps_set (i := 2) sc_words_of.nd rfl (Or.inl rfl) (pe_lst pa_nil))
        (pss_cons (ps_for PassesOwn.never rfl (pi_list (pv 0)) (pg_name (i := 3) sc_words_of.nd rfl (Or.inl rfl)) (pss_one (ps_if (pt_cmpR op_eq (pv 3) (pe_gi rfl T.c_BLANK) (nomark _)) (pss_cons (ps_expr (pe_bm PySem.F.plainAttrs_list PySem.F.slot_list_append PySem.F.type_list_append mt_append (pv 1) (pa_cons (pv 2) pa_nil)))
        (pss_one (ps_set (i := 2) sc_words_of.nd rfl (Or.inl rfl) (pe_lst pa_nil)))) (pss_one (ps_expr (pe_bm PySem.F.plainAttrs_list PySem.F.slot_list_append PySem.F.type_list_append mt_append (pv 2) (pa_cons (pv 3) pa_nil)))))))
        (pss_cons (ps_expr (pe_bm PySem.F.plainAttrs_list PySem.F.slot_list_append PySem.F.type_list_append mt_append (pv 1) (pa_cons (pv 2) pa_nil)))
        (pss_one (ps_ret (pv 1))))))), ?_⟩
  obtain ⟨a, t, rfl, ha, hz, k⟩ := h
  refine ⟨(by show 0 ≤ sizeLine; decide), fun p hp => ⟨(by show 0 ≤ sizeLine; decide), fun r hr0 => ?_⟩⟩
  refine ⟨_, rfl, a, rfl, ⟨bV t, SqL.of (((Same.new hp _).trans (Same.new hr0 _)) _ _ ha)⟩, for_list (K := K) (a := a) (xs := bV t) (fun i σ H' => ∃ r v, σ = [some (.ref a), some (.ref p), some (.ref r), v] ∧ Cut 32 (t.take i) H H' p r)
    ⟨r, none, rfl, Cut.start hp hr0⟩ (fun i σ H' _ ⟨_, _, _, x⟩ => SqL.of (x.same _ _ ha)) ?_ ?_⟩
  · rintro i x σ H' hx ⟨r, v, rfl, cu⟩
    obtain ⟨c, hci, rfl⟩ := bV_get hx
    have tk := take_more hci
    have hlt : i < t.length := (List.getElem?_eq_some_iff.mp hci).1
    refine ⟨_, rfl, rfl, _, rfl, ?_⟩
    rw [show decide (V.int (c.toNat : Int) = V.int 32) = decide (c = 32) from byte_dec c 32]
    refine if_d (fun e => ?_) (fun e => ?_)
    · obtain ⟨xs, h1, h2, h3⟩ := cu.next e
      rw [List.length_take] at h2
      refine ⟨_, rfl, .inl ⟨rfl, _, SqL.of h1⟩, _, rfl, _, _, _, rfl, rfl, h1, small1000 (by omega), ?_⟩
      refine ⟨(by show 0 ≤ sizeLine; decide), fun r' hr' => ?_⟩
      exact ⟨r', some (.int (c.toNat : Int)), rfl, by rw [tk]; exact h3 r' hr'⟩
    · obtain ⟨xs, h1, h2, h3⟩ := cu.more e
      rw [List.length_take] at h2
      refine ⟨_, rfl, .inl ⟨rfl, _, SqL.of h1⟩, _, rfl, _, _, _, rfl, rfl, h1, small1000 (by omega), ?_⟩
      exact ⟨r, some (.int (c.toNat : Int)), rfl, by rw [tk]; exact h3⟩
  · rintro σ H' ⟨r, v, rfl, cu⟩
    rw [bV_length, List.take_length] at cu
    obtain ⟨⟨rs, ws, w, e, hp', hr', hal, fr⟩, s', np, nr, ne⟩ := cu
    have hlen : rs.length ≤ t.length := by
      rw [hal.len]
      have := len_cut 32 t
      rw [e, List.length_append] at this
      simp at this
      omega
    refine ⟨_, rfl, .inl ⟨rfl, _, SqL.of hp'⟩, _, rfl, _, _, _, rfl, rfl, hp', (by rw [rV_length]; exact small1000 (by omega)), ?_⟩
    refine ⟨_, rfl, k _ _ (s'.put np _) ⟨rs ++ [r], ?_, ?_⟩⟩
    · rw [upd_same]
      exact congrArg (fun l => some (HO.lst l)) (rV_app rs [r])
    · rw [e]
      refine AllAt.app (hal.mono fun a x h => ?_) (AllAt.one ?_)
      · unfold LB
        rw [upd_ne h.2.1]
        exact h.1
      · unfold LB
        rw [upd_ne ne.symm]
        exact hr'
end
end Ld
end
section
set_option Elab.async false
set_option maxRecDepth 100000
set_option maxHeartbeats 4000000
namespace Ld
open PySem PySem.Spec PyProof.Rows L2
open Vaslca (Text ascii isName isDigit isSmall numberOf atomOf valueOf cutAt atomText opText relText opOf relOf exprOf condOf)
/-- a Statement stands at p -/
structure StmAt (C : Cs) (H : Hp) (p : Addr) (h : Head) : Prop where
  ex : ∃ (dx wr nm at' : Addr) (as : List Addr), H p = some (.ins C.stm dx (fs_stm (.str (Str.ofString h.kind)) (.ref wr) (.ref nm) (.ref at') (.str (Str.ofString h.sign)))) ∧ LB H wr h.text ∧ H nm = some (.tup (bV h.name)) ∧ H at' = some (.lst (rV as)) ∧ AllAt (fun a x => H a = some (.tup (bV (atomText x)))) as h.atoms
  ok : h.ok = true
theorem StmAt.same {C : Cs} {H H' : Hp} (s : Same H H') {p : Addr} {h : Head} (x : StmAt C H p h) : StmAt C H' p h := by
  obtain ⟨⟨dx, wr, nm, at', as, h1, h2, h3, h4, h5⟩, ok⟩ := x
  exact ⟨⟨dx, wr, nm, at', as, s _ _ h1, h2.same s, s _ _ h3, s _ _ h4, h5.mono fun a x => s a _⟩, ok⟩
/-- what a reader of a row answers: a Statement that stands in each part of the heap that has the row and what is new -/
def ResStm (C : Cs) (H : Hp) (a : Addr) (o : Option Head) (Q : VK) : Prop := match o with
  | none => ∀ H', Same H H' → Q .non H'
  | some h => ∀ H' p, Same H H' → H p = none → (∀ B, Same B H' → (∀ b u, H b = none → H' b = some u → B b = some u) → LB B a h.text → StmAt C B p h) → Q (.ref p) H'
theorem ResStm.no {C : Cs} {H H' : Hp} {a : Addr} {o : Option Head} {Q : VK} (k : ResStm C H a o Q) (e : o = none) (s : Same H H') : Q .non H' := by subst e; exact k H' s
theorem ResStm.yes {C : Cs} {H H' : Hp} {a : Addr} {o : Option Head} {h : Head} {Q : VK} (k : ResStm C H a o Q) (e : o = some h) (s : Same H H') {p : Addr} (n : H p = none)
    (x : ∀ B, Same B H' → (∀ b u, H b = none → H' b = some u → B b = some u) → LB B a h.text → StmAt C B p h) : Q (.ref p) H' := by subst e; exact k H' p s n x
def spStm (C : Cs) : Sp := fun vs H Q _ => ∃ (p dx : Addr) (v0 v1 v2 v3 v4 : V), vs = [.ref p, v0, v1, v2, v3, v4] ∧ H p = some (.ins C.stm dx []) ∧
  ∀ H', H' p = some (.ins C.stm dx (fs_stm v0 v1 v2 v3 v4)) → (∀ b o, H b = some o → b ≠ p → H' b = some o) → Q .non H'
def spIsHeader (C : Cs) : Sp := fun vs H Q _ => ∃ (p : Addr) (h : Head), vs = [.ref p] ∧ StmAt C H p h ∧ Q (.bl h.isHead) H
def spReadAs (C : Cs) (word : String) : Sp := fun vs H Q _ => ∃ (a b : Addr) (t : Text) (ws : List Text), vs = [.ref a, .ref b] ∧ LB H a t ∧ cutAt 32 t = ascii word :: ws ∧ LBs H b (ascii word :: ws) ∧ t.length ≤ 1000 ∧ ResStm C H a (headOf t) Q
def spReadTest (C : Cs) : Sp := fun vs H Q _ => ∃ (word : String) (a b : Addr) (t : Text) (ws : List Text), vs = [.str (Str.ofString word), .ref a, .ref b] ∧ (word = "if" ∨ word = "while") ∧ LB H a t ∧ cutAt 32 t = ascii word :: ws ∧ LBs H b (ascii word :: ws) ∧ t.length ≤ 1000 ∧ ResStm C H a (headOf t) Q
def spReadSet (C : Cs) : Sp := fun vs H Q _ => ∃ (a b : Addr) (t w : Text) (ws : List Text), vs = [.ref a, .ref b] ∧ LB H a t ∧ cutAt 32 t = w :: ws ∧ (w ≠ ascii "stop" ∧ w ≠ ascii "read" ∧ w ≠ ascii "write" ∧ w ≠ ascii "if" ∧ w ≠ ascii "while") ∧ LBs H b (w :: ws) ∧ t.length ≤ 1000 ∧ ResStm C H a (headOf t) Q
def spReadStm (C : Cs) : Sp := fun vs H Q _ => ∃ (a : Addr) (t : Text), vs = [.ref a] ∧ LB H a t ∧ t.length ≤ 1000 ∧ ResStm C H a (headOf t) Q
/-- an instance that is made, seen from ahead -/
theorem made_same {H H1 : Hp} {x dx C : Addr} (nx : H x = none) (nd : H dx = none) (k : ∀ b o, (upd (upd H dx (.own x)) x (.ins C dx [])) b = some o → b ≠ x → H1 b = some o) : Same H H1 := Same.made nx nd k
theorem LBs.get {H : Hp} {p : Addr} {ts : List Text} (h : LBs H p ts) {i : Nat} {t : Text} (e : ts[i]? = some t) : ∃ rs r, H p = some (.lst (rV rs)) ∧ rs.length = ts.length ∧ (rV rs)[i]? = some (.ref r) ∧ LB H r t := by
  obtain ⟨rs, h1, h2⟩ := h
  obtain ⟨r, hr, hl⟩ := h2.get e
  exact ⟨rs, r, h1, h2.len, rV_at hr, hl⟩
theorem LBs.at0 {K : PySem.W.Frag} {H : Hp} {p : Addr} {ts : List Text} (h : LBs H p ts) {i : Nat} {t : Text} (e : ts[i]? = some t) : ∃ xs r, SqL K H p xs ∧ atI xs (i : Int) = some (.ref r) ∧ LB H r t := by
  obtain ⟨rs, r, h1, _, h3, h4⟩ := h.get e
  exact ⟨_, r, SqL.of h1, atI_n h3, h4⟩
theorem LBs.len {K : PySem.W.Frag} {H : Hp} {p : Addr} {ts : List Text} (h : LBs H p ts) : ∃ xs : List V, SqL K H p xs ∧ xs.length = ts.length := by
  obtain ⟨rs, h1, h2⟩ := h
  exact ⟨_, SqL.of h1, by rw [rV_length, h2.len]⟩
section
variable {P : Program} {w : World} {K : PySem.W.Frag} {mg : Str → Option Value} {base : Heap} {C : Cs}
abbrev s_Statement_init : Stmt := inClass (top 29) 0
theorem sc_Statement_init : FnScope ["self", "kind", "written", "name", "atoms", "sign"] ["self", "kind", "written", "name", "atoms", "sign"] (defScope s_Statement_init) := ⟨rfl, rfl, rfl, by decide +kernel, rfl, by decide +kernel, by decide +kernel⟩
theorem ok_Statement_init (T : Txt K mg C) : OkI P w K mg base C.stm 1 ["self", "kind", "written", "name", "atoms", "sign"] (spStm C) := by
  obtain ⟨f, fd, hm, F, b⟩ := T.m_Statement_init
  refine ⟨f, fd, hm, b, F.ok sc_Statement_init (fun vs H Q E h => ?_) (fun cdv A outer s H vs Q E hr h => ?_)⟩
  · obtain ⟨p, dx, v0, v1, v2, v3, v4, rfl, _⟩ := h
    rfl
  refine ⟨_, (pss_cons (ps_fld (pv 0) (pv 1) rfl)
        (pss_cons (ps_fld (pv 0) (pv 2) rfl)
        (pss_cons (ps_fld (pv 0) (pv 3) rfl)
        (pss_cons (ps_fld (pv 0) (pv 4) rfl)
        (pss_one (ps_fld (pv 0) (pv 5) rfl)))))), ?_⟩
  obtain ⟨p, dx, v0, v1, v2, v3, v4, rfl, hp, k⟩ := h
  refine ⟨_, rfl, _, rfl, _, _, _, _, rfl, hp, T.cl_stm, T.n_stm_kind, (by refine Nat.lt_of_le_of_lt (m := 7) ?_ (by decide); (repeat refine few1 ?_); exact Nat.zero_le _), ?_⟩
  refine ⟨_, rfl, _, rfl, _, _, _, _, rfl, upd_same, T.cl_stm, T.n_stm_written, (by refine Nat.lt_of_le_of_lt (m := 7) ?_ (by decide); (repeat refine few1 ?_); exact Nat.zero_le _), ?_⟩
  refine ⟨_, rfl, _, rfl, _, _, _, _, rfl, upd_same, T.cl_stm, T.n_stm_name, (by refine Nat.lt_of_le_of_lt (m := 7) ?_ (by decide); (repeat refine few1 ?_); exact Nat.zero_le _), ?_⟩
  refine ⟨_, rfl, _, rfl, _, _, _, _, rfl, upd_same, T.cl_stm, T.n_stm_atoms, (by refine Nat.lt_of_le_of_lt (m := 7) ?_ (by decide); (repeat refine few1 ?_); exact Nat.zero_le _), ?_⟩
  refine ⟨_, rfl, _, rfl, _, _, _, _, rfl, upd_same, T.cl_stm, T.n_stm_sign, (by refine Nat.lt_of_le_of_lt (m := 7) ?_ (by decide); (repeat refine few1 ?_); exact Nat.zero_le _), ?_⟩
  refine k _ ?_ fun b o e hb => ?_
  · rw [upd_same]
    exact congrArg (fun l => some (HO.ins C.stm dx l)) fs_stm_new
  · rw [upd_ne hb, upd_ne hb, upd_ne hb, upd_ne hb, upd_ne hb]
    exact e
abbrev s_Statement_is_header : Stmt := inClass (top 29) 1
theorem sc_Statement_is_header : FnScope ["self"] ["self"] (defScope s_Statement_is_header) := ⟨rfl, rfl, rfl, by decide +kernel, rfl, by decide +kernel, by decide +kernel⟩
theorem ok_Statement_is_header (T : Txt K mg C) : OkM P w K mg base C.stm 1 "is_header" ["self"] (spIsHeader C) := by
  obtain ⟨f, fd, hm, F, b⟩ := T.m_Statement_is_header
  refine ⟨f, fd, hm, b, F.ok sc_Statement_is_header (fun vs H Q E h => ?_) (fun cdv A outer s H vs Q E hr h => ?_)⟩
  · obtain ⟨p, h0, rfl, _⟩ := h
    rfl
  refine ⟨_, (pss_one (ps_ret (pe_or (pe_cmpR op_eq (pe_fld (pv 0) rfl) pe_str (nomark _)) (pe_one (pe_cmpR op_eq (pe_fld (pv 0) rfl) pe_str (nomark _)))))), ?_⟩
  obtain ⟨p, h0, rfl, ⟨⟨dx, wr, nm, at', as, h1, _⟩, _⟩, k⟩ := h
  refine ⟨_, rfl, _, _, _, _, _, rfl, h1, T.cl_stm, T.n_stm_kind, fs_stm_kind, rfl, _, rfl, ?_⟩
  cases h0 with
  | ite c => exact k
  | loop c => exact ⟨_, rfl, _, _, _, _, _, rfl, h1, T.cl_stm, T.n_stm_kind, fs_stm_kind, rfl, k⟩
  | _ => exact ⟨_, rfl, _, _, _, _, _, rfl, h1, T.cl_stm, T.n_stm_kind, fs_stm_kind, rfl, k⟩
/-- the Statement that is made at last -/
theorem mk_stm {H H1 : Hp} {a nm at' : Addr} {as : List Addr} {h : Head} {o : Option Head} {Q : VK} (ok : h.ok = true) (s1 : Same H H1) (nn : H nm = none) (nt : H at' = none) (nl : ∀ b ∈ as, H b = none) (hn : H1 nm = some (.tup (bV h.name))) (ht : H1 at' = some (.lst (rV as)))
    (hl : AllAt (fun a x => H1 a = some (.tup (bV (atomText x)))) as h.atoms) (k : ResStm C H a o Q) (eo : o = some h) (x dx : Addr) (nx : H1 x = none) (nd : H1 dx = none) :
    spStm C [.ref x, .str (Str.ofString h.kind), .ref a, .ref nm, .ref at', .str (Str.ofString h.sign)] (upd (upd H1 dx (.own x)) x (.ins C.stm dx [])) (fun v H2 => v = .non ∧ Q (.ref x) H2) E0 := by
  refine ⟨x, dx, _, _, _, _, _, rfl, upd_same, fun H' hx kp => ⟨rfl, ?_⟩⟩
  have s2 : Same H1 H' := made_same nx nd kp
  refine k.yes eo (s1.trans s2) (s1.free nx) fun B sB new row => ?_
  exact ⟨⟨dx, a, nm, at', as, new _ _ (s1.free nx) hx, row, new _ _ nn (s2 _ _ hn), new _ _ nt (s2 _ _ ht), hl.monoM fun b y m q => new _ _ (nl b m) (s2 _ _ q)⟩, ok⟩
theorem not_isSome {α : Type} {o : Option α} {b : Bool} (h : (!o.isSome) = b) : o.isSome = !b := by cases o <;> simp_all
abbrev s_read_stop : Stmt := top 31
theorem sc_read_stop : FnScope ["row", "words"] ["row", "words"] (defScope s_read_stop) := ⟨rfl, rfl, rfl, by decide +kernel, rfl, by decide +kernel, by decide +kernel⟩
theorem ok_read_stop (T : Txt K mg C) : OkF P w K mg base 3 "read_stop" ["row", "words"] (spReadAs C "stop") := by
  have h_Statement_init := ok_Statement_init (P := P) (w := w) (base := base) T
  obtain ⟨f, fd, hm, F, b⟩ := T.f_read_stop
  refine ⟨f, fd, hm, F.kp, b, F.ok sc_read_stop (fun vs H Q E h => ?_) (fun cdv A outer s H vs Q E hr h => ?_)⟩
  · obtain ⟨a, b, t, ws, rfl, _⟩ := h
    rfl
  refine ⟨_, (pss_cons (ps_if (pt_cmpR op_ne (pe_callB call_len_seq (by rfl) T.len PySem.boot_len (pa_cons (pv 1) pa_nil)) pe_int (nomark _)) (pss_one (ps_ret pe_non)) pss_nil)
        (pss_one (ps_ret (pe_mk h_Statement_init (hr.mono (by decide)) (by rfl) T.g_Statement (pa_cons pe_str (pa_cons (pv 0) (pa_cons (pe_tup pa_nil) (pa_cons (pe_lst pa_nil) (pa_cons pe_str pa_nil))))))))), ?_⟩
  obtain ⟨a, b', t, ws, rfl, ha, hc, hw, hz, k⟩ := h
  obtain ⟨xs, hx, hl⟩ := hw.len (K := K)
  have hh := headOf_stop hc
  refine ⟨_, rfl, _, _, rfl, .inl hx, rfl, _, rfl, ?_⟩
  rw [hl]
  refine if_nd (fun e => ?_) (fun e => ?_)
  · cases ws with
    | nil => exact absurd rfl e
    | cons y ys => exact k.no hh (Same.refl H)
  · have e1 : ws = [] := by
      have := V.int.inj e
      simp only [List.length_cons] at this
      exact List.length_eq_zero_iff.mp (by omega)
    subst e1
    have et : t = Head.halt.text := (headOf_text hh).1
    refine ⟨_, rfl, (by show 0 ≤ sizeLine; decide), fun nm hnm => ⟨(by show 0 ≤ sizeLine; decide), fun at' hat => ?_⟩⟩
    have s1 := (Same.new hnm (.tup [])).trans (Same.new hat (.lst []))
    intro x dx nx nd ne
    exact mk_stm (h := .halt) (as := []) rfl s1 hnm ((Same.new hnm _).free hat) (fun b m => by cases m) (by rw [upd_ne (ne_of_none upd_same hat)]; exact upd_same) upd_same trivial k hh x dx nx nd
abbrev s_read_read : Stmt := top 32
theorem sc_read_read : FnScope ["row", "words"] ["row", "words"] (defScope s_read_read) := ⟨rfl, rfl, rfl, by decide +kernel, rfl, by decide +kernel, by decide +kernel⟩
theorem ok_read_read (T : Txt K mg C) : OkF P w K mg base 4 "read_read" ["row", "words"] (spReadAs C "read") := by
  have h_Statement_init := ok_Statement_init (P := P) (w := w) (base := base) T
  have h_is_name := ok_is_name (P := P) (w := w) (base := base) T
  obtain ⟨f, fd, hm, F, b⟩ := T.f_read_read
  refine ⟨f, fd, hm, F.kp, b, F.ok sc_read_read (fun vs H Q E h => ?_) (fun cdv A outer s H vs Q E hr h => ?_)⟩
  · obtain ⟨a, b, t, ws, rfl, _⟩ := h
    rfl
  refine ⟨_, (pss_cons (ps_if (PW.pt (pw_or (pt_cmpR op_ne (pe_callB call_len_seq (by rfl) T.len PySem.boot_len (pa_cons (pv 1) pa_nil)) pe_int (nomark _)) (pw_or1 (pt_not (pt_val (pe_cf h_is_name (hr.mono (by decide)) (by rfl) (pa_cons (pe_ix ix_list (pv 1) pe_int (fun _ _ => rfl)) pa_nil))))))) (pss_one (ps_ret pe_non)) pss_nil)
        (pss_one (ps_ret (pe_mk h_Statement_init (hr.mono (by decide)) (by rfl) T.g_Statement (pa_cons pe_str (pa_cons (pv 0) (pa_cons (pe_callTy call_tuple_of (by rfl) T.tuple (by decide +kernel) (pa_cons (pe_ix ix_list (pv 1) pe_int (fun _ _ => rfl)) pa_nil)) (pa_cons (pe_lst pa_nil) (pa_cons pe_str pa_nil))))))))), ?_⟩
  obtain ⟨a, b', t, ws, rfl, ha, hc, hw, hz, k⟩ := h
  obtain ⟨xs, hx, hl⟩ := hw.len (K := K)
  have hh := headOf_read hc
  refine ⟨_, rfl, _, _, rfl, .inl hx, rfl, _, rfl, ?_⟩
  rw [hl]
  refine if_nd (fun e => ?_) (fun e => ?_)
  · refine if_t rfl ?_
    have : headOf t = none := by
      rw [hh]
      match ws, e with
      | [], _ => rfl
      | [_], e => exact absurd rfl e
      | _ :: _ :: _, _ => rfl
    exact k.no this (Same.refl H)
  · have e1 : ws.length = 1 := by
      have := V.int.inj e
      simp only [List.length_cons] at this
      omega
    obtain ⟨v, rfl⟩ := List.length_eq_one_iff.mp e1
    obtain ⟨xs1, r, h1, h2, h3⟩ := hw.at0 (K := K) (i := 1) (t := v) rfl
    refine ⟨_, rfl, _, _, _, _, rfl, rfl, h1, h2, r, v, rfl, SqL.of h3, fun H1 s1 => ⟨_, rfl, ?_⟩⟩
    dsimp only at hh
    refine if_b (fun e => ?_) (fun e => ?_)
    · have e2 : isName v = false := by simpa using e
      rw [if_neg (by rw [e2]; decide)] at hh
      exact k.no hh s1
    · have e2 : isName v = true := by simpa using e
      rw [if_pos e2] at hh
      have et : t = (Head.read v).text := (headOf_text hh).1
      refine ⟨_, rfl, _, rfl, _, _, _, _, rfl, rfl, s1.seq h1, h2, r, _, rfl, .inl ⟨SqL.of (h3.same s1), fun nm hnm => ?_⟩⟩
      refine ⟨(by show 0 ≤ sizeLine; decide), fun at' hat => ?_⟩
      have s2 := (Same.new hnm (.tup (bV v))).trans (Same.new hat (.lst []))
      intro x dx nx nd ne
      exact mk_stm (h := .read v) (as := []) e2 (s1.trans s2) (s1.free hnm) ((s1.trans (Same.new hnm _)).free hat) (fun b m => by cases m) (by rw [upd_ne (ne_of_none upd_same hat)]; exact upd_same) upd_same trivial k hh x dx nx nd
abbrev s_read_write : Stmt := top 33
theorem sc_read_write : FnScope ["row", "words"] ["row", "words"] (defScope s_read_write) := ⟨rfl, rfl, rfl, by decide +kernel, rfl, by decide +kernel, by decide +kernel⟩
theorem ok_read_write (T : Txt K mg C) : OkF P w K mg base 5 "read_write" ["row", "words"] (spReadAs C "write") := by
  have h_Statement_init := ok_Statement_init (P := P) (w := w) (base := base) T
  have h_is_atom := ok_is_atom (P := P) (w := w) (base := base) T
  obtain ⟨f, fd, hm, F, b⟩ := T.f_read_write
  refine ⟨f, fd, hm, F.kp, b, F.ok sc_read_write (fun vs H Q E h => ?_) (fun cdv A outer s H vs Q E hr h => ?_)⟩
  · obtain ⟨a, b, t, ws, rfl, _⟩ := h
    rfl
  refine ⟨_, (pss_cons (ps_if (PW.pt (pw_or (pt_cmpR op_ne (pe_callB call_len_seq (by rfl) T.len PySem.boot_len (pa_cons (pv 1) pa_nil)) pe_int (nomark _)) (pw_or1 (pt_not (pt_val (pe_cf h_is_atom (hr.mono (by decide)) (by rfl) (pa_cons (pe_ix ix_list (pv 1) pe_int (fun _ _ => rfl)) pa_nil))))))) (pss_one (ps_ret pe_non)) pss_nil)
        (pss_one (ps_ret (pe_mk h_Statement_init (hr.mono (by decide)) (by rfl) T.g_Statement (pa_cons pe_str (pa_cons (pv 0) (pa_cons (pe_tup pa_nil) (pa_cons (pe_lst (pa_cons (pe_callTy call_tuple_of (by rfl) T.tuple (by decide +kernel) (pa_cons (pe_ix ix_list (pv 1) pe_int (fun _ _ => rfl)) pa_nil)) pa_nil)) (pa_cons pe_str pa_nil))))))))), ?_⟩
  obtain ⟨a, b', t, ws, rfl, ha, hc, hw, hz, k⟩ := h
  obtain ⟨xs, hx, hl⟩ := hw.len (K := K)
  have hh := headOf_write hc
  refine ⟨_, rfl, _, _, rfl, .inl hx, rfl, _, rfl, ?_⟩
  rw [hl]
  refine if_nd (fun e => ?_) (fun e => ?_)
  · refine if_t rfl ?_
    have : headOf t = none := by
      rw [hh]
      match ws, e with
      | [], _ => rfl
      | [_], e => exact absurd rfl e
      | _ :: _ :: _, _ => rfl
    exact k.no this (Same.refl H)
  · have e1 : ws.length = 1 := by
      have := V.int.inj e
      simp only [List.length_cons] at this
      omega
    obtain ⟨v, rfl⟩ := List.length_eq_one_iff.mp e1
    obtain ⟨xs1, r, h1, h2, h3⟩ := hw.at0 (K := K) (i := 1) (t := v) rfl
    refine ⟨_, rfl, _, _, _, _, rfl, rfl, h1, h2, r, v, rfl, SqL.of h3, fun H1 s1 => ⟨_, rfl, ?_⟩⟩
    dsimp only at hh
    refine if_b (fun e => ?_) (fun e => ?_)
    · have e2 := atomOf_isNone (not_isSome e)
      rw [e2] at hh
      exact k.no hh s1
    · obtain ⟨x, ex, etx, okx⟩ := atomOf_isSome (not_isSome e)
      rw [ex] at hh
      have et : t = (Head.write x).text := (headOf_text hh).1
      refine ⟨_, rfl, (by show 0 ≤ sizeLine; decide), fun nm hnm => ⟨_, rfl, _, _, _, _, rfl, rfl, (s1.trans (Same.new hnm _)).seq h1, h2, r, _, rfl, .inl ⟨SqL.of (h3.same (s1.trans (Same.new hnm _))), fun tp htp => ?_⟩⟩⟩
      refine ⟨(by show 1 ≤ sizeLine; decide), fun at' hat => ?_⟩
      have s2 := ((Same.new hnm (.tup [])).trans (Same.new htp (.tup (bV v)))).trans (Same.new hat (.lst [.ref tp]))
      intro x' dx nx nd ne
      exact mk_stm (h := .write x) (as := [tp]) okx (s1.trans s2) (s1.free hnm) (((s1.trans (Same.new hnm _)).trans (Same.new htp _)).free hat) (fun b m => by rw [List.mem_singleton.mp m]; exact (s1.trans (Same.new hnm _)).free htp) (Same.new hat _ _ _ (Same.new htp _ _ _ upd_same)) upd_same (AllAt.one (by rw [etx]; exact Same.new hat _ _ _ upd_same)) k hh x' dx nx nd
abbrev s_read_test : Stmt := top 34
theorem sc_read_test : FnScope ["kind", "row", "words", "sign", "last", "right"] ["kind", "row", "words"] (defScope s_read_test) := ⟨rfl, rfl, rfl, by decide +kernel, rfl, by decide +kernel, by decide +kernel⟩
theorem ok_read_test (T : Txt K mg C) : OkF P w K mg base 5 "read_test" ["kind", "row", "words"] (spReadTest C) := by
  have h_Statement_init := ok_Statement_init (P := P) (w := w) (base := base) T
  have h_is_atom := ok_is_atom (P := P) (w := w) (base := base) T
  have h_which := ok_which (P := P) (w := w) (base := base) T
  obtain ⟨f, fd, hm, F, b⟩ := T.f_read_test
  refine ⟨f, fd, hm, F.kp, b, F.ok sc_read_test (fun vs H Q E h => ?_) (fun cdv A outer s H vs Q E hr h => ?_)⟩
  · obtain ⟨word, a, b, t, ws, rfl, _⟩ := h
    rfl
  refine ⟨_, (pss_cons (ps_if (pt_cmpR op_ne (pe_callB call_len_seq (by rfl) T.len PySem.boot_len (pa_cons (pv 2) pa_nil)) pe_int (nomark _)) (pss_one (ps_ret pe_non)) pss_nil)
        (pss_cons (ps_set (i := 3) sc_read_test.nd rfl (Or.inl rfl) (pe_cf h_which (hr.mono (by decide)) (by rfl) (pa_cons (pe_ix ix_list (pv 2) pe_int (fun _ _ => rfl)) (pa_cons (pe_tup (pa_cons pe_str (pa_cons pe_str (pa_cons pe_str pa_nil)))) pa_nil))))
        (pss_cons (ps_set (i := 4) sc_read_test.nd rfl (Or.inl rfl) (pe_op op_sub (pe_callB call_len_seq (by rfl) T.len PySem.boot_len (pa_cons (pe_ix ix_list (pv 2) pe_int (fun _ _ => rfl)) pa_nil)) pe_int))
        (pss_cons (ps_if (PW.pt (pw_or (pt_cmpR op_eq (pv 3) pe_str (nomark _)) (pw_or (pt_cmpR op_lt (pv 4) pe_int (nomark _)) (pw_or1 (pt_cmpR op_ne (pe_ix ix_list (pe_ix ix_list (pv 2) pe_int (fun _ _ => rfl)) (pv 4) (fun _ _ => rfl)) (pe_gi rfl T.c_COLON) (nomark _)))))) (pss_one (ps_ret pe_non)) pss_nil)
        (pss_cons (ps_set (i := 5) sc_read_test.nd rfl (Or.inl rfl) (pe_slice sl_list (pe_ix ix_list (pv 2) pe_int (fun _ _ => rfl)) po_none (po_some (pv 4))))
        (pss_cons (ps_if (PW.pt (pw_or (pt_not (pt_val (pe_cf h_is_atom (hr.mono (by decide)) (by rfl) (pa_cons (pe_ix ix_list (pv 2) pe_int (fun _ _ => rfl)) pa_nil)))) (pw_or1 (pt_not (pt_val (pe_cf h_is_atom (hr.mono (by decide)) (by rfl) (pa_cons (pv 5) pa_nil))))))) (pss_one (ps_ret pe_non)) pss_nil)
        (pss_one (ps_ret (pe_mk h_Statement_init (hr.mono (by decide)) (by rfl) T.g_Statement (pa_cons (pv 0) (pa_cons (pv 1) (pa_cons (pe_tup pa_nil) (pa_cons (pe_lst (pa_cons (pe_callTy call_tuple_of (by rfl) T.tuple (by decide +kernel) (pa_cons (pe_ix ix_list (pv 2) pe_int (fun _ _ => rfl)) pa_nil)) (pa_cons (pe_callTy call_tuple_of (by rfl) T.tuple (by decide +kernel) (pa_cons (pv 5) pa_nil)) pa_nil))) (pa_cons (pv 3) pa_nil)))))))))))))), ?_⟩
  obtain ⟨word, a, b', t, ws, rfl, hword, ha, hc, hw, hz, k⟩ := h
  obtain ⟨xs, hx, hl⟩ := hw.len (K := K)
  obtain ⟨hd, hok, hh, htx, hat', hsg, hkd⟩ : ∃ hd : Vaslca.Cond → Head, (∀ c, (hd c).ok = Vaslca.isCond c) ∧ headOf t = (match (generalizing := false) ws with | [a, r, b] => (condOf [a, r, b]).map hd | _ => none) ∧ (∀ c, (hd c).name = []) ∧ (∀ c, (hd c).atoms = [c.one, c.two]) ∧ (∀ c, (hd c).sign = relStr c.rel) ∧ (∀ c, (hd c).kind = word) := by
    rcases hword with e | e
    · subst e; exact ⟨Head.ite, fun _ => rfl, headOf_if hc, fun _ => rfl, fun _ => rfl, fun _ => rfl, fun _ => rfl⟩
    · subst e; exact ⟨Head.loop, fun _ => rfl, headOf_while hc, fun _ => rfl, fun _ => rfl, fun _ => rfl, fun _ => rfl⟩
  refine ⟨_, rfl, _, _, rfl, .inl hx, rfl, _, rfl, ?_⟩
  rw [hl]
  refine if_nd (fun e => ?_) (fun e => ?_)
  · have : headOf t = none := by
      rw [hh]
      match ws, e with
      | [], _ => rfl
      | [_], _ => rfl
      | [_, _], _ => rfl
      | [_, _, _], e => exact absurd rfl e
      | _ :: _ :: _ :: _ :: _, _ => rfl
    exact k.no this (Same.refl H)
  · have e1 : ws.length = 3 := by
      have := V.int.inj e
      simp only [List.length_cons] at this
      omega
    obtain ⟨x, r, y, rfl⟩ : ∃ x r y, ws = [x, r, y] := by
      match ws, e1 with
      | [x, r, y], _ => exact ⟨x, r, y, rfl⟩
    dsimp only at hh
    obtain ⟨xs1, p1, i1, j1, l1⟩ := hw.at0 (K := K) (i := 1) (t := x) rfl
    obtain ⟨xs2, p2, i2, j2, l2⟩ := hw.at0 (K := K) (i := 2) (t := r) rfl
    obtain ⟨xs3, p3, i3, j3, l3⟩ := hw.at0 (K := K) (i := 3) (t := y) rfl
    have hlen3 : y.length ≤ t.length := len_word 32 t y (by rw [hc]; simp)
    -- sign = which(words[2], ("<", "==", "!="))
    refine ⟨_, rfl, _, _, _, _, rfl, rfl, i2, j2, (by show 3 ≤ sizeLine; decide), fun tp htp => ?_⟩
    refine ⟨p2, tp, r, ["<", "==", "!="], rfl, SqL.of (Same.new htp _ _ _ l2), SqT.of upd_same, by unfold Plain; decide, by decide, by decide, fun H1 s1 => ?_⟩
    have s1' : Same H H1 := (Same.new htp _).trans s1
    have sgn : (whichS r ["<", "==", "!="] = "" ∧ Vaslca.relOf r = none) ∨ ∃ q, Vaslca.relOf r = some q ∧ whichS r ["<", "==", "!="] = relStr q := by
      unfold whichS
      by_cases h1 : r = ascii "<"
      · subst h1; exact .inr ⟨.lt, by decide, by decide⟩
      by_cases h2 : r = ascii "=="
      · subst h2; exact .inr ⟨.eq, by decide, by decide⟩
      by_cases h3 : r = ascii "!="
      · subst h3; exact .inr ⟨.ne, by decide, by decide⟩
      refine .inl ⟨by simp [h1, h2, h3], ?_⟩
      unfold Vaslca.relOf
      refine List.find?_eq_none.mpr fun q _ z => ?_
      have z' : relText q = r := by simpa using z
      subst z'
      cases q
      · exact h1 rfl
      · exact h2 rfl
      · exact h3 rfl
    -- last = len(words[3]) - 1
    refine ⟨_, rfl, _, _, _, _, rfl, rfl, s1'.seq i3, j3, _, _, rfl, .inl (SqL.of (l3.same s1')), _, _, rfl, rfl, ?_⟩
    have hly : (bV y).length = y.length := bV_length y
    rw [hly]
    have e0 : condOf [x, r, y] = (if y.getLast? = some 58 then (atomOf x).bind fun a => (Vaslca.relOf r).bind fun q => (atomOf y.dropLast).map fun b => (⟨a, q, b⟩ : Vaslca.Cond) else none) := rfl
    have bad : (Vaslca.relOf r = none ∨ y.getLast? ≠ some 58 ∨ atomOf x = none ∨ atomOf y.dropLast = none) → headOf t = none := fun z => by
      rw [hh, e0]
      rcases z with z | z | z | z
      · rw [z]; split <;> simp
      · rw [if_neg z]; rfl
      · rw [z]; split <;> simp
      · rw [z]; split <;> simp
    -- if sign == "" or last < 0 or words[3][last] != COLON
    refine ⟨_, rfl, rfl, _, rfl, ?_⟩
    rcases sgn with ⟨sg, rn⟩ | ⟨q, rq, sg⟩
    · rw [sg]
      refine if_t (by decide) (if_t rfl ?_)
      exact k.no (bad (.inl rn)) s1'
    have nq : decide (V.str (Str.ofString (whichS r ["<", "==", "!="])) = V.str "") = false := by rw [sg]; cases q <;> decide
    refine if_f nq ?_
    refine ⟨_, rfl, _, _, rfl, rfl, _, rfl, ?_⟩
    by_cases hy : y = []
    · subst hy
      refine if_t (by decide) (if_t rfl ?_)
      exact k.no (bad (.inr (.inl (by simp)))) s1'
    have ypos : 0 < y.length := List.length_pos_iff.mpr hy
    refine if_f (decide_eq_false (by omega)) ?_
    have gl : y[y.length - 1]? = some (y.getLast hy) := by rw [← List.getLast?_eq_getElem?]; exact List.getLast?_eq_some_getLast hy
    have gv : atI (bV y) ((y.length : Int) - 1) = some (.int ((y.getLast hy).toNat : Int)) := by
      have e : ((y.length : Int) - 1) = ((y.length - 1 : Nat) : Int) := by omega
      rw [e]
      refine atI_n ?_
      unfold bV
      rw [List.getElem?_map, gl]
      rfl
    refine ⟨_, rfl, _, _, _, _, rfl, rfl, s1'.seq i3, j3, _, rfl, _, _, _, _, rfl, rfl, SqL.of (l3.same s1'), gv, rfl, _, rfl, ?_⟩
    rw [show decide (V.int ((y.getLast hy).toNat : Int) = V.int 58) = decide (y.getLast hy = 58) from byte_dec _ 58]
    refine if_nd (fun e => ?_) (fun e => ?_)
    · refine k.no (bad (.inr (.inl ?_))) s1'
      rw [List.getLast?_eq_some_getLast hy]
      exact fun z => e (Option.some.inj z)
    have gl2 : y.getLast? = some 58 := by rw [List.getLast?_eq_some_getLast hy, e]
    -- right = words[3][:last]
    refine ⟨_, rfl, _, _, _, _, rfl, rfl, s1'.seq i3, j3, _, rfl, _, rfl, _, _, rfl, SqL.of (l3.same s1'), fun rt hrt => ?_⟩
    have cut : cutV (bV y) none (some ((y.length : Int) - 1)) = bV y.dropLast := by
      have e : ((y.length : Int) - 1) = ((y.length - 1 : Nat) : Int) := by omega
      rw [e, cut_take, List.dropLast_eq_take]
      unfold bV
      rw [List.map_take]
    rw [cut]
    have s2 : Same H (upd H1 rt (.lst (bV y.dropLast))) := s1'.trans (Same.new hrt _)
    -- if not is_atom(words[1]) or not is_atom(right)
    refine ⟨_, rfl, _, _, _, _, rfl, rfl, s2.seq i1, j1, p1, x, rfl, SqL.of (l1.same s2), fun H2 s3 => ⟨_, rfl, ?_⟩⟩
    refine if_b (fun e => ?_) (fun e => ?_)
    · refine if_t rfl ?_
      exact k.no (bad (.inr (.inr (.inl (atomOf_isNone (not_isSome e)))))) (s2.trans s3)
    obtain ⟨ax, eax, tax, okx⟩ := atomOf_isSome (not_isSome e)
    refine ⟨_, rfl, rt, y.dropLast, rfl, SqL.of (s3 _ _ upd_same), fun H3 s4 => ⟨_, rfl, ?_⟩⟩
    refine if_b (fun e => ?_) (fun e => ?_)
    · exact k.no (bad (.inr (.inr (.inr (atomOf_isNone (not_isSome e)))))) ((s2.trans s3).trans s4)
    obtain ⟨ay, eay, tay, oky⟩ := atomOf_isSome (not_isSome e)
    have s5 := (s2.trans s3).trans s4
    have hh2 : headOf t = some (hd ⟨ax, q, ay⟩) := by
      rw [hh, e0, if_pos gl2, eax, rq, eay]
      rfl
    have et : t = (hd ⟨ax, q, ay⟩).text := (headOf_text hh2).1
    refine ⟨_, rfl, _, rfl, (by show 0 ≤ sizeLine; decide), fun nm hnm => ?_⟩
    have s6 := s5.trans (Same.new hnm (.tup []))
    refine ⟨_, rfl, _, _, _, _, rfl, rfl, s6.seq i1, j1, p1, _, rfl, .inl ⟨SqL.of (l1.same s6), fun t1 ht1 => ?_⟩⟩
    refine ⟨_, rfl, rt, _, rfl, .inl ⟨SqL.of (Same.new ht1 _ _ _ (Same.new hnm _ _ _ (s4 _ _ (s3 _ _ upd_same)))), fun t2 ht2 => ?_⟩⟩
    refine ⟨(by show 2 ≤ sizeLine; decide), fun at' hat => ?_⟩
    refine ⟨_, rfl, fun x' dx nx nd ne => ?_⟩
    have s7 := (s6.trans (Same.new ht1 (.tup (bV x)))).trans ((Same.new ht2 (.tup (bV y.dropLast))).trans (Same.new hat (.lst [.ref t1, .ref t2])))
    have mk := mk_stm (h := hd ⟨ax, q, ay⟩) (as := [t1, t2]) (nm := nm) (at' := at') (by rw [hok]; show (Vaslca.isAtom ax && Vaslca.isAtom ay) = true; rw [okx, oky]; rfl) s7 (s5.free hnm) (((s6.trans (Same.new ht1 _)).trans (Same.new ht2 _)).free hat) (fun b m => by
        simp only [List.mem_cons, List.not_mem_nil, or_false] at m
        rcases m with rfl | rfl
        · exact s6.free ht1
        · exact (s6.trans (Same.new ht1 _)).free ht2)
      (by rw [htx]; exact Same.new hat _ _ _ (Same.new ht2 _ _ _ (Same.new ht1 _ _ _ upd_same))) upd_same
      (by
        rw [hat']
        refine ⟨?_, ?_, trivial⟩
        · show _ = some (HO.tup (bV (atomText ax)))
          rw [tax]
          exact Same.new hat _ _ _ (Same.new ht2 _ _ _ upd_same)
        · show _ = some (HO.tup (bV (atomText ay)))
          rw [tay]
          exact Same.new hat _ _ _ upd_same) k hh2 x' dx nx nd
    rw [hkd, hsg] at mk
    have e3 : relStr (Vaslca.Cond.rel ⟨ax, q, ay⟩) = whichS r ["<", "==", "!="] := sg.symm
    rw [e3] at mk
    exact mk
abbrev s_read_set : Stmt := top 35
theorem sc_read_set : FnScope ["row", "words", "sign"] ["row", "words"] (defScope s_read_set) := ⟨rfl, rfl, rfl, by decide +kernel, rfl, by decide +kernel, by decide +kernel⟩
theorem ok_read_set (T : Txt K mg C) : OkF P w K mg base 5 "read_set" ["row", "words"] (spReadSet C) := by
  have h_Statement_init := ok_Statement_init (P := P) (w := w) (base := base) T
  have h_codes := ok_codes (P := P) (w := w) (base := base) T
  have h_is_atom := ok_is_atom (P := P) (w := w) (base := base) T
  have h_is_name := ok_is_name (P := P) (w := w) (base := base) T
  have h_which := ok_which (P := P) (w := w) (base := base) T
  obtain ⟨f, fd, hm, F, b⟩ := T.f_read_set
  refine ⟨f, fd, hm, F.kp, b, F.ok sc_read_set (fun vs H Q E h => ?_) (fun cdv A outer s H vs Q E hr h => ?_)⟩
  · obtain ⟨a, b, t, w, ws, rfl, _⟩ := h
    rfl
  refine ⟨_, (pss_cons (ps_if (PW.pt (pw_and (pt_cmpR op_ne (pe_callB call_len_seq (by rfl) T.len PySem.boot_len (pa_cons (pv 1) pa_nil)) pe_int (nomark _)) (pw_and1 (pt_cmpR op_ne (pe_callB call_len_seq (by rfl) T.len PySem.boot_len (pa_cons (pv 1) pa_nil)) pe_int (nomark _))))) (pss_one (ps_ret pe_non)) pss_nil)
        (pss_cons (ps_if (PW.pt (pw_or (pt_not (pt_val (pe_cf h_is_name (hr.mono (by decide)) (by rfl) (pa_cons (pe_ix ix_list (pv 1) pe_int (fun _ _ => rfl)) pa_nil)))) (pw_or (pt_cmpR (op_neD hr.units) (pe_ix ix_list (pv 1) pe_int (fun _ _ => rfl)) (pe_cf h_codes (hr.mono (by decide)) (by rfl) (pa_cons pe_str pa_nil)) (nomark _)) (pw_or1 (pt_not (pt_val (pe_cf h_is_atom (hr.mono (by decide)) (by rfl) (pa_cons (pe_ix ix_list (pv 1) pe_int (fun _ _ => rfl)) pa_nil)))))))) (pss_one (ps_ret pe_non)) pss_nil)
        (pss_cons (ps_if (pt_cmpR op_eq (pe_callB call_len_seq (by rfl) T.len PySem.boot_len (pa_cons (pv 1) pa_nil)) pe_int (nomark _)) (pss_one (ps_ret (pe_mk h_Statement_init (hr.mono (by decide)) (by rfl) T.g_Statement (pa_cons pe_str (pa_cons (pv 0) (pa_cons (pe_callTy call_tuple_of (by rfl) T.tuple (by decide +kernel) (pa_cons (pe_ix ix_list (pv 1) pe_int (fun _ _ => rfl)) pa_nil)) (pa_cons (pe_lst (pa_cons (pe_callTy call_tuple_of (by rfl) T.tuple (by decide +kernel) (pa_cons (pe_ix ix_list (pv 1) pe_int (fun _ _ => rfl)) pa_nil)) pa_nil)) (pa_cons pe_str pa_nil)))))))) pss_nil)
        (pss_cons (ps_set (i := 2) sc_read_set.nd rfl (Or.inl rfl) (pe_cf h_which (hr.mono (by decide)) (by rfl) (pa_cons (pe_ix ix_list (pv 1) pe_int (fun _ _ => rfl)) (pa_cons (pe_tup (pa_cons pe_str (pa_cons pe_str (pa_cons pe_str pa_nil)))) pa_nil))))
        (pss_cons (ps_if (PW.pt (pw_or (pt_cmpR op_eq (pv 2) pe_str (nomark _)) (pw_or1 (pt_not (pt_val (pe_cf h_is_atom (hr.mono (by decide)) (by rfl) (pa_cons (pe_ix ix_list (pv 1) pe_int (fun _ _ => rfl)) pa_nil))))))) (pss_one (ps_ret pe_non)) pss_nil)
        (pss_one (ps_ret (pe_mk h_Statement_init (hr.mono (by decide)) (by rfl) T.g_Statement (pa_cons pe_str (pa_cons (pv 0) (pa_cons (pe_callTy call_tuple_of (by rfl) T.tuple (by decide +kernel) (pa_cons (pe_ix ix_list (pv 1) pe_int (fun _ _ => rfl)) pa_nil)) (pa_cons (pe_lst (pa_cons (pe_callTy call_tuple_of (by rfl) T.tuple (by decide +kernel) (pa_cons (pe_ix ix_list (pv 1) pe_int (fun _ _ => rfl)) pa_nil)) (pa_cons (pe_callTy call_tuple_of (by rfl) T.tuple (by decide +kernel) (pa_cons (pe_ix ix_list (pv 1) pe_int (fun _ _ => rfl)) pa_nil)) pa_nil))) (pa_cons (pv 2) pa_nil))))))))))))), ?_⟩
  obtain ⟨a, b', t, w0, ws, rfl, ha, hc, hne, hw, hz, k⟩ := h
  obtain ⟨xs, hx, hl⟩ := hw.len (K := K)
  have hh := headOf_set hc hne.1 hne.2.1 hne.2.2.1 hne.2.2.2.1 hne.2.2.2.2
  obtain ⟨xs0, p0, i0, j0, l0⟩ := hw.at0 (K := K) (i := 0) (t := w0) rfl
  refine ⟨_, rfl, _, _, rfl, .inl hx, rfl, _, rfl, ?_⟩
  rw [hl]
  -- len(words) != 3 and len(words) != 5
  have bad0 : ws.length ≠ 2 → ws.length ≠ 4 → headOf t = none := fun h2 h4 => by
    rw [hh]
    match ws, h2, h4 with
    | [], _, _ => rfl
    | [_], _, _ => rfl
    | [_, _], h2, _ => exact absurd rfl h2
    | [_, _, _], _, _ => rfl
    | [_, _, _, _], _, h4 => exact absurd rfl h4
    | _ :: _ :: _ :: _ :: _ :: _, _, _ => rfl
  by_cases hlen : ws.length = 2 ∨ ws.length = 4
  case neg =>
    have n2 : ¬ ws.length = 2 := fun z => hlen (.inl z)
    have n4 : ¬ ws.length = 4 := fun z => hlen (.inr z)
    have d3 : (!decide (V.int ((w0 :: ws).length : Int) = V.int 3)) = true := by
      have : ¬ V.int ((w0 :: ws).length : Int) = V.int 3 := fun z => by have := V.int.inj z; simp only [List.length_cons] at this; omega
      rw [decide_eq_false this]; rfl
    have d5 : (!decide (V.int ((w0 :: ws).length : Int) = V.int 5)) = true := by
      have : ¬ V.int ((w0 :: ws).length : Int) = V.int 5 := fun z => by have := V.int.inj z; simp only [List.length_cons] at this; omega
      rw [decide_eq_false this]; rfl
    refine if_t d3 ⟨_, rfl, _, _, rfl, .inl hx, rfl, _, rfl, ?_⟩
    rw [hl]
    refine if_t d5 ?_
    exact k.no (bad0 n2 n4) (Same.refl H)
  case pos =>
  obtain ⟨q, v, more, hws, hmore⟩ : ∃ q v more, ws = q :: v :: more ∧ (more = [] ∨ ∃ o z, more = [o, z]) := by
    rcases hlen with h2 | h4
    · match ws, h2 with
      | [q, v], _ => exact ⟨q, v, [], rfl, .inl rfl⟩
    · match ws, h4 with
      | [q, v, o, z], _ => exact ⟨q, v, [o, z], rfl, .inr ⟨o, z, rfl⟩⟩
  subst hws
  obtain ⟨xs1, p1, i1, j1, l1⟩ := hw.at0 (K := K) (i := 1) (t := q) rfl
  obtain ⟨xs2, p2, i2, j2, l2⟩ := hw.at0 (K := K) (i := 2) (t := v) rfl
  -- the test goes on to the next one
  suffices next : tSeq
      (tIfS (tOr (tNot (tB (tCall (spIsName K) [] E0 (tCons (tOp (rIxL K) (tVar 1) (tC (.int 0))) tNil)))) (tOr (tTest (tOp (rNeD K) (tOp (rIxL K) (tVar 1) (tC (.int 1))) (tCall spCodes [] E0 (tCons (tC (.str "=")) tNil)))) (tNot (tB (tCall (spIsAtom K) [] E0 (tCons (tOp (rIxL K) (tVar 1) (tC (.int 2))) tNil)))))) (tRet (tC .non)) tNext) _ _ _ H by
    rcases hmore with rfl | ⟨o, z, rfl⟩
    · refine if_f (by simp) ?_
      exact next
    · refine if_t (by simp) ⟨_, rfl, _, _, rfl, .inl hx, rfl, _, rfl, ?_⟩
      rw [hl]
      refine if_f (by simp) ?_
      exact next
  have bad : (isName w0 = false ∨ q ≠ ascii "=" ∨ atomOf v = none) → headOf t = none := fun z => by
    rw [hh]
    rcases hmore with rfl | ⟨o, z', rfl⟩
    · dsimp only
      rcases z with z | z | z
      · rw [if_neg (by rw [z]; simp)]
      · rw [if_neg (fun y => z y.2)]
      · have : exprOf [v] = none := by show (atomOf v).map _ = none; rw [z]; rfl
        rw [this]; split <;> rfl
    · dsimp only
      rcases z with z | z | z
      · rw [if_neg (by rw [z]; simp)]
      · rw [if_neg (fun y => z y.2)]
      · have : exprOf [v, o, z'] = none := by show (atomOf v).bind _ = none; rw [z]; rfl
        rw [this]; split <;> rfl
  refine ⟨_, rfl, _, _, _, _, rfl, rfl, i0, j0, p0, w0, rfl, SqL.of l0, fun H1 s1 => ⟨_, rfl, ?_⟩⟩
  refine if_b (fun e => ?_) (fun e => ?_)
  · exact if_t rfl (k.no (bad (.inl (by simpa using e))) s1)
  have nm : isName w0 = true := by simpa using e
  refine ⟨_, rfl, _, _, _, _, rfl, rfl, s1.seq i1, j1, "=", rfl, by decide, fun ep hep => ?_⟩
  have pl : (Str.ofString "=").cps.toList = [61] := by decide
  rw [pl]
  have q1 : SqL K (upd H1 ep (.lst (nV [61]))) p1 (nV (q.map UInt8.toNat)) := by rw [← bV_nV]; exact SqL.of ((Same.new hep _) _ _ (l1.same s1))
  refine ne_nats q1 (SqL.of upd_same) ⟨_, rfl, ?_⟩
  have eqq : decide (q.map UInt8.toNat = [61]) = decide (q = ascii "=") := by
    refine decide_eq_decide.mpr ⟨fun z => ?_, fun z => by rw [z]; decide⟩
    refine bytes_inj.mp ?_
    have := congrArg (List.map fun n : Nat => (n : Int)) z
    rw [List.map_map] at this
    exact this
  rw [eqq]
  have s2 := s1.trans (Same.new hep (.lst (nV [61])))
  refine if_nd (fun e => ?_) (fun e => ?_)
  · exact if_t rfl (k.no (bad (.inr (.inl e))) s2)
  refine ⟨_, rfl, _, _, _, _, rfl, rfl, s2.seq i2, j2, p2, v, rfl, SqL.of (l2.same s2), fun H3 s3 => ⟨_, rfl, ?_⟩⟩
  refine if_b (fun e => ?_) (fun e => ?_)
  · exact k.no (bad (.inr (.inr (atomOf_isNone (not_isSome e))))) (s2.trans s3)
  obtain ⟨av, eav, tav, okv⟩ := atomOf_isSome (not_isSome e)
  have s4 := s2.trans s3
  have qeq : q = ascii "=" := by assumption
  -- if len(words) == 3
  refine ⟨_, rfl, _, _, rfl, .inl (s4.seq hx), rfl, _, rfl, ?_⟩
  rw [hl]
  rcases hmore with rfl | ⟨o, z, rfl⟩
  · refine if_t (by simp) ?_
    have hh2 : headOf t = some (.set w0 ⟨av, .alone, .num 0⟩) := by
      rw [hh]
      dsimp only
      rw [if_pos ⟨nm, qeq⟩]
      have : exprOf [v] = some ⟨av, .alone, .num 0⟩ := by show (atomOf v).map _ = _; rw [eav]; rfl
      rw [this]
      rfl
    have et : t = (Head.set w0 ⟨av, .alone, .num 0⟩).text := (headOf_text hh2).1
    refine ⟨_, rfl, _, rfl, _, _, _, _, rfl, rfl, s4.seq i0, j0, p0, _, rfl, .inl ⟨SqL.of (l0.same s4), fun n1 h1 => ?_⟩⟩
    have s5 := s4.trans (Same.new h1 (.tup (bV w0)))
    refine ⟨_, rfl, _, _, _, _, rfl, rfl, s5.seq i2, j2, p2, _, rfl, .inl ⟨SqL.of (l2.same s5), fun n2 h2 => ?_⟩⟩
    refine ⟨(by show 1 ≤ sizeLine; decide), fun n3 h3 => ?_⟩
    intro x dx nx nd ne
    have s6 := (s5.trans (Same.new h2 (.tup (bV v)))).trans (Same.new h3 (.lst [.ref n2]))
    exact mk_stm (h := .set w0 ⟨av, .alone, .num 0⟩) (as := [n2]) (headOf_text hh2).2 s6 (s4.free h1) ((s5.trans (Same.new h2 _)).free h3) (fun b m => by rw [List.mem_singleton.mp m]; exact s5.free h2) (Same.new h3 _ _ _ (Same.new h2 _ _ _ upd_same)) upd_same
      ⟨by show _ = some (HO.tup (bV (atomText av))); rw [tav]; exact Same.new h3 _ _ _ upd_same, trivial⟩ k hh2 x dx nx nd
  · refine if_f (by simp) ?_
    obtain ⟨xs3, p3, i3, j3, l3⟩ := hw.at0 (K := K) (i := 3) (t := o) rfl
    obtain ⟨xs4, p4, i4, j4, l4⟩ := hw.at0 (K := K) (i := 4) (t := z) rfl
    refine ⟨_, rfl, _, _, _, _, rfl, rfl, s4.seq i3, j3, (by show 3 ≤ sizeLine; decide), fun tp htp => ?_⟩
    refine ⟨p3, tp, o, ["+", "-", "*"], rfl, SqL.of (Same.new htp _ _ _ (l3.same s4)), SqT.of upd_same, by unfold Plain; decide, by decide, by decide, fun H5 s5' => ?_⟩
    have s5 := (s4.trans (Same.new htp _)).trans s5'
    have sgn : (whichS o ["+", "-", "*"] = "" ∧ opOf o = none) ∨ ∃ p, opOf o = some p ∧ p ≠ .alone ∧ whichS o ["+", "-", "*"] = opStr p := by
      unfold whichS
      by_cases h1 : o = ascii "+"
      · subst h1; exact .inr ⟨.add, by decide, by decide, by decide⟩
      by_cases h2 : o = ascii "-"
      · subst h2; exact .inr ⟨.sub, by decide, by decide, by decide⟩
      by_cases h3 : o = ascii "*"
      · subst h3; exact .inr ⟨.mul, by decide, by decide, by decide⟩
      refine .inl ⟨by simp [h1, h2, h3], ?_⟩
      unfold Vaslca.opOf
      refine List.find?_eq_none.mpr fun p hp y => ?_
      have y' : opText p = o := by simpa using y
      subst y'
      cases p
      · simp at hp
      · exact h1 rfl
      · exact h2 rfl
      · exact h3 rfl
    have e0 : exprOf [v, o, z] = (opOf o).bind fun p => (atomOf z).map fun y => (⟨av, p, y⟩ : Vaslca.Expr) := by
      show ((atomOf v).bind fun x => (opOf o).bind fun p => (atomOf z).map fun y => (⟨x, p, y⟩ : Vaslca.Expr)) = _
      rw [eav]
      rfl
    have hh3 : headOf t = (exprOf [v, o, z]).map (.set w0) := by
      rw [hh]
      dsimp only
      rw [if_pos ⟨nm, qeq⟩]
    refine ⟨_, rfl, rfl, _, rfl, ?_⟩
    rcases sgn with ⟨sg, rn⟩ | ⟨p, rp, pne, sg⟩
    · rw [sg]
      refine if_t (by decide) (if_t rfl ?_)
      exact k.no (by rw [hh3, e0, rn]; rfl) s5
    have nq : decide (V.str (Str.ofString (whichS o ["+", "-", "*"])) = V.str "") = false := by rw [sg]; cases p <;> first | exact absurd rfl pne | decide
    refine if_f nq ?_
    refine ⟨_, rfl, _, _, _, _, rfl, rfl, s5.seq i4, j4, p4, z, rfl, SqL.of (l4.same s5), fun H6 s6' => ⟨_, rfl, ?_⟩⟩
    have s6 := s5.trans s6'
    refine if_b (fun e => ?_) (fun e => ?_)
    · exact k.no (by rw [hh3, e0, rp, atomOf_isNone (not_isSome e)]; rfl) s6
    obtain ⟨az, eaz, taz, okz⟩ := atomOf_isSome (not_isSome e)
    have hh2 : headOf t = some (.set w0 ⟨av, p, az⟩) := by rw [hh3, e0, rp, eaz]; rfl
    have et : t = (Head.set w0 ⟨av, p, az⟩).text := (headOf_text hh2).1
    refine ⟨_, rfl, _, rfl, _, _, _, _, rfl, rfl, s6.seq i0, j0, p0, _, rfl, .inl ⟨SqL.of (l0.same s6), fun n1 h1 => ?_⟩⟩
    have s7 := s6.trans (Same.new h1 (.tup (bV w0)))
    refine ⟨_, rfl, _, _, _, _, rfl, rfl, s7.seq i2, j2, p2, _, rfl, .inl ⟨SqL.of (l2.same s7), fun n2 h2 => ?_⟩⟩
    have s8 := s7.trans (Same.new h2 (.tup (bV v)))
    refine ⟨_, rfl, _, _, _, _, rfl, rfl, s8.seq i4, j4, p4, _, rfl, .inl ⟨SqL.of (l4.same s8), fun n3 h3 => ?_⟩⟩
    refine ⟨(by show 2 ≤ sizeLine; decide), fun n4 h4 => ⟨_, rfl, fun x dx nx nd ne => ?_⟩⟩
    have s9 := (s8.trans (Same.new h3 (.tup (bV z)))).trans (Same.new h4 (.lst [.ref n2, .ref n3]))
    have mk := mk_stm (h := .set w0 ⟨av, p, az⟩) (as := [n2, n3]) (nm := n1) (at' := n4) (headOf_text hh2).2 s9 (s6.free h1) ((s8.trans (Same.new h3 _)).free h4) (fun b m => by
        simp only [List.mem_cons, List.not_mem_nil, or_false] at m
        rcases m with rfl | rfl
        · exact s7.free h2
        · exact s8.free h3) (Same.new h4 _ _ _ (Same.new h3 _ _ _ (Same.new h2 _ _ _ upd_same))) upd_same
      (by
        have ea : (Head.set w0 ⟨av, p, az⟩).atoms = [av, az] := if_neg pne
        rw [ea]
        refine ⟨?_, ?_, trivial⟩
        · show _ = some (HO.tup (bV (atomText av)))
          rw [tav]
          exact Same.new h4 _ _ _ (Same.new h3 _ _ _ upd_same)
        · show _ = some (HO.tup (bV (atomText az)))
          rw [taz]
          exact Same.new h4 _ _ _ upd_same) k hh2 x dx nx nd
    have e3 : (Head.set w0 ⟨av, p, az⟩).sign = whichS o ["+", "-", "*"] := sg.symm
    rw [e3] at mk
    exact mk
abbrev s_read_statement : Stmt := top 30
theorem sc_read_statement : FnScope ["row", "words", "first"] ["row"] (defScope s_read_statement) := ⟨rfl, rfl, rfl, by decide +kernel, rfl, by decide +kernel, by decide +kernel⟩
theorem ok_read_statement (T : Txt K mg C) : OkF P w K mg base 6 "read_statement" ["row"] (spReadStm C) := by
  have h_read_read := ok_read_read (P := P) (w := w) (base := base) T
  have h_read_set := ok_read_set (P := P) (w := w) (base := base) T
  have h_read_stop := ok_read_stop (P := P) (w := w) (base := base) T
  have h_read_test := ok_read_test (P := P) (w := w) (base := base) T
  have h_read_write := ok_read_write (P := P) (w := w) (base := base) T
  have h_which := ok_which (P := P) (w := w) (base := base) T
  have h_words_of := ok_words_of (P := P) (w := w) (base := base) T
  obtain ⟨f, fd, hm, F, b⟩ := T.f_read_statement
  refine ⟨f, fd, hm, F.kp, b, F.ok sc_read_statement (fun vs H Q E h => ?_) (fun cdv A outer s H vs Q E hr h => ?_)⟩
  · obtain ⟨a, t, rfl, _⟩ := h
    rfl
  refine ⟨_, (pss_cons (ps_set (i := 1) sc_read_statement.nd rfl (Or.inl rfl) (pe_cf h_words_of (hr.mono (by decide)) (by rfl) (pa_cons (pv 0) pa_nil)))
        (pss_cons (ps_set (i := 2) sc_read_statement.nd rfl (Or.inl rfl) (pe_cf h_which (hr.mono (by decide)) (by rfl) (pa_cons (pe_ix ix_list (pv 1) pe_int (fun _ _ => rfl)) (pa_cons (pe_tup (pa_cons pe_str (pa_cons pe_str (pa_cons pe_str (pa_cons pe_str (pa_cons pe_str pa_nil)))))) pa_nil))))
        (pss_cons (ps_if (pt_cmpR op_eq (pv 2) pe_str (nomark _)) (pss_one (ps_ret (pe_cf h_read_stop (hr.mono (by decide)) (by rfl) (pa_cons (pv 0) (pa_cons (pv 1) pa_nil))))) pss_nil)
        (pss_cons (ps_if (pt_cmpR op_eq (pv 2) pe_str (nomark _)) (pss_one (ps_ret (pe_cf h_read_read (hr.mono (by decide)) (by rfl) (pa_cons (pv 0) (pa_cons (pv 1) pa_nil))))) pss_nil)
        (pss_cons (ps_if (pt_cmpR op_eq (pv 2) pe_str (nomark _)) (pss_one (ps_ret (pe_cf h_read_write (hr.mono (by decide)) (by rfl) (pa_cons (pv 0) (pa_cons (pv 1) pa_nil))))) pss_nil)
        (pss_cons (ps_if (PW.pt (pw_or (pt_cmpR op_eq (pv 2) pe_str (nomark _)) (pw_or1 (pt_cmpR op_eq (pv 2) pe_str (nomark _))))) (pss_one (ps_ret (pe_cf h_read_test (hr.mono (by decide)) (by rfl) (pa_cons (pv 2) (pa_cons (pv 0) (pa_cons (pv 1) pa_nil)))))) pss_nil)
        (pss_one (ps_ret (pe_cf h_read_set (hr.mono (by decide)) (by rfl) (pa_cons (pv 0) (pa_cons (pv 1) pa_nil))))))))))), ?_⟩
  obtain ⟨a, t, rfl, ha, hz, k⟩ := h
  refine ⟨_, rfl, a, t, rfl, ha, hz, fun H1 p s1 hp => ?_⟩
  cases hc : cutAt 32 t with
  | nil => exact absurd hc (cut_ne _ _)
  | cons w0 ws =>
  rw [hc] at hp
  obtain ⟨xs0, p0, i0, j0, l0⟩ := hp.at0 (K := K) (i := 0) (t := w0) rfl
  refine ⟨_, rfl, _, _, _, _, rfl, rfl, i0, j0, (by show 5 ≤ sizeLine; decide), fun tp htp => ?_⟩
  refine ⟨p0, tp, w0, ["stop", "read", "write", "if", "while"], rfl, SqL.of (Same.new htp _ _ _ l0), SqT.of upd_same, by unfold Plain; decide, by decide, by decide, fun H2 s2' => ?_⟩
  have s2 := (Same.new htp _).trans s2'
  have s3 := s1.trans s2
  have k2 : ResStm C H2 a (headOf t) Q := by
    cases e : headOf t with
    | none => exact fun H' s => k.no e (s3.trans s)
    | some h => exact fun H' p s n x => k.yes e (s3.trans s) (s3.free n) fun B sB new row => x B sB (fun b u nb hb => new b u (s3.free nb) hb) row
  have ha2 := ha.same s3
  have hp2 := hp.same s2
  have other : w0 ≠ ascii "stop" → w0 ≠ ascii "read" → w0 ≠ ascii "write" → w0 ≠ ascii "if" → w0 ≠ ascii "while" → whichS w0 ["stop", "read", "write", "if", "while"] = "" := fun h1 h2 h3 h4 h5 => by
    unfold whichS
    simp [h1, h2, h3, h4, h5]
  refine ⟨_, rfl, rfl, _, rfl, ?_⟩
  by_cases h1 : w0 = ascii "stop"
  · subst h1
    refine if_t (by decide) ?_
    exact ⟨_, rfl, _, rfl, a, p, t, ws, rfl, ha2, hc, hp2, hz, k2⟩
  refine if_f ?_ ⟨_, rfl, rfl, _, rfl, ?_⟩
  · by_cases h2 : w0 = ascii "read"
    · subst h2; decide
    by_cases h3 : w0 = ascii "write"
    · subst h3; decide
    by_cases h4 : w0 = ascii "if"
    · subst h4; decide
    by_cases h5 : w0 = ascii "while"
    · subst h5; decide
    rw [other h1 h2 h3 h4 h5]; decide
  by_cases h2 : w0 = ascii "read"
  · subst h2
    refine if_t (by decide) ?_
    exact ⟨_, rfl, _, rfl, a, p, t, ws, rfl, ha2, hc, hp2, hz, k2⟩
  refine if_f ?_ ⟨_, rfl, rfl, _, rfl, ?_⟩
  · by_cases h3 : w0 = ascii "write"
    · subst h3; decide
    by_cases h4 : w0 = ascii "if"
    · subst h4; decide
    by_cases h5 : w0 = ascii "while"
    · subst h5; decide
    rw [other h1 h2 h3 h4 h5]; decide
  by_cases h3 : w0 = ascii "write"
  · subst h3
    refine if_t (by decide) ?_
    exact ⟨_, rfl, _, rfl, a, p, t, ws, rfl, ha2, hc, hp2, hz, k2⟩
  refine if_f ?_ ⟨_, rfl, rfl, _, rfl, ?_⟩
  · by_cases h4 : w0 = ascii "if"
    · subst h4; decide
    by_cases h5 : w0 = ascii "while"
    · subst h5; decide
    rw [other h1 h2 h3 h4 h5]; decide
  by_cases h4 : w0 = ascii "if"
  · subst h4
    refine if_t (by decide) (if_t rfl ?_)
    have e : whichS (ascii "if") ["stop", "read", "write", "if", "while"] = "if" := by decide
    rw [e]
    exact ⟨_, rfl, _, rfl, _, rfl, "if", a, p, t, ws, rfl, .inl rfl, ha2, hc, hp2, hz, k2⟩
  refine if_f ?_ ⟨_, rfl, rfl, _, rfl, ?_⟩
  · by_cases h5 : w0 = ascii "while"
    · subst h5; decide
    rw [other h1 h2 h3 h4 h5]; decide
  by_cases h5 : w0 = ascii "while"
  · subst h5
    refine if_t (by decide) ?_
    have e : whichS (ascii "while") ["stop", "read", "write", "if", "while"] = "while" := by decide
    rw [e]
    exact ⟨_, rfl, _, rfl, _, rfl, "while", a, p, t, ws, rfl, .inr rfl, ha2, hc, hp2, hz, k2⟩
  refine if_f (by rw [other h1 h2 h3 h4 h5]; decide) ?_
  exact ⟨_, rfl, _, rfl, a, p, t, w0, ws, rfl, ha2, hc, ⟨h1, h2, h3, h4, h5⟩, hp2, hz, k2⟩
end
end Ld
end
section
set_option Elab.async false
set_option maxRecDepth 100000
set_option maxHeartbeats 4000000
namespace Ld
open PySem PySem.Spec PyProof.Rows L2
open Vaslca (Text ascii isName isDigit isSmall numberOf atomOf valueOf cutAt atomText opText relText opOf relOf exprOf condOf indent)
/-! ### a Program -/
def parV (P : List PL) : List V := P.map fun l => V.int l.parent
def sidV (P : List PL) : List V := P.map fun l => V.int (l.side : Int)
structure PrgAt (C : Cs) (H : Hp) (p : Addr) (P : List PL) : Prop where
  ex : ∃ (dx s pa si : Addr) (as : List Addr), H p = some (.ins C.prg dx (fs_prg (.ref s) (.ref pa) (.ref si))) ∧ H s = some (.lst (rV as)) ∧ H pa = some (.lst (parV P)) ∧ H si = some (.lst (sidV P)) ∧ AllAt (fun a l => StmAt C H a l.head) as P
theorem PrgAt.same {C : Cs} {H H' : Hp} (s : Same H H') {p : Addr} {P : List PL} (x : PrgAt C H p P) : PrgAt C H' p P := by
  obtain ⟨dx, s', pa, si, as, h1, h2, h3, h4, h5⟩ := x
  exact ⟨dx, s', pa, si, as, s _ _ h1, s _ _ h2, s _ _ h3, s _ _ h4, h5.mono fun a l => StmAt.same s⟩
theorem parV_length (P : List PL) : (parV P).length = P.length := List.length_map _
theorem sidV_length (P : List PL) : (sidV P).length = P.length := List.length_map _
theorem parV_at {P : List PL} {i : Nat} {l : PL} (h : P[i]? = some l) : atI (parV P) (i : Int) = some (.int l.parent) := atI_n (by unfold parV; rw [List.getElem?_map, h]; rfl)
theorem sidV_at {P : List PL} {i : Nat} {l : PL} (h : P[i]? = some l) : atI (sidV P) (i : Int) = some (.int (l.side : Int)) := atI_n (by unfold sidV; rw [List.getElem?_map, h]; rfl)
def spProg (C : Cs) : Sp := fun vs H Q _ => ∃ (p dx : Addr), vs = [.ref p] ∧ H p = some (.ins C.prg dx []) ∧
  ∀ H' s pa si, H s = none → H pa = none → H si = none → s ≠ pa → s ≠ si → pa ≠ si → H' p = some (.ins C.prg dx (fs_prg (.ref s) (.ref pa) (.ref si))) → H' s = some (.lst []) → H' pa = some (.lst []) → H' si = some (.lst []) → (∀ b o, H b = some o → b ≠ p → H' b = some o) → Q .non H'
def spJoin (C : Cs) : Sp := fun vs H Q _ => ∃ (p dx s pa si st : Addr) (x y : Int) (xs ys zs : List V), vs = [.ref p, .ref st, .int x, .int y] ∧ H p = some (.ins C.prg dx (fs_prg (.ref s) (.ref pa) (.ref si))) ∧ H s = some (.lst xs) ∧ H pa = some (.lst ys) ∧ H si = some (.lst zs) ∧ s ≠ pa ∧ s ≠ si ∧ pa ≠ si ∧
  xs.length ≤ 2000 ∧ ys.length ≤ 2000 ∧ zs.length ≤ 2000 ∧ Q .non (upd (upd (upd H s (.lst (xs ++ [.ref st]))) pa (.lst (ys ++ [.int x]))) si (.lst (zs ++ [.int y])))
def spMany (C : Cs) : Sp := fun vs H Q _ => ∃ (p dx s : Addr) (v w : V) (xs : List V), vs = [.ref p] ∧ H p = some (.ins C.prg dx (fs_prg (.ref s) v w)) ∧ H s = some (.lst xs) ∧ Q (.int (xs.length : Nat)) H
def spInside (C : Cs) : Sp := fun vs H Q _ => ∃ (p : Addr) (P : List PL) (x : Int) (y : Nat), vs = [.ref p, .int x, .int (y : Int)] ∧ PrgAt C H p P ∧ P.length ≤ 1000 ∧ ∀ D, H D = none → Q (.ref D) (upd H D (.lst (nV (insideL P x y))))
def spDepth (C : Cs) : Sp := fun vs H Q _ => ∃ (p : Addr) (P : List PL) (A : Nat → List Nat) (n : Nat), vs = [.ref p, .int (n : Int)] ∧ PrgAt C H p P ∧ n < P.length ∧ Arounds P A ∧ Q (.int ((A n).length : Nat)) H
theorem val_ix {K : PySem.W.Frag} {ta tb : TE} {σ : L2.St} {H : Hp} {p : Addr} {i : Int} {xs : List V} {v : V} (ha : Val ta σ H (.ref p)) (hb : Val tb σ H (.int i)) (hs : SqL K H p xs) (hv : atI xs i = some v) : Val (tOp (rIxL K) ta tb) σ H v :=
  val_op ha hb fun Q q => ⟨_, _, _, _, rfl, rfl, hs, hv, q⟩
theorem val_ixT {K : PySem.W.Frag} {ta tb : TE} {σ : L2.St} {H : Hp} {p : Addr} {i : Int} {xs : List V} {v : V} (ha : Val ta σ H (.ref p)) (hb : Val tb σ H (.int i)) (hs : SqT K H p xs) (hv : atI xs i = some v) : Val (tOp (rIxT K) ta tb) σ H v :=
  val_op ha hb fun Q q => ⟨_, _, _, _, rfl, rfl, hs, hv, q⟩
section
variable {P : Program} {w : World} {K : PySem.W.Frag} {mg : Str → Option Value} {base : Heap} {C : Cs}
abbrev s_Program_init : Stmt := inClass (top 39) 0
theorem sc_Program_init : FnScope ["self"] ["self"] (defScope s_Program_init) := ⟨rfl, rfl, rfl, by decide +kernel, rfl, by decide +kernel, by decide +kernel⟩
theorem ok_Program_init (T : Txt K mg C) : OkI P w K mg base C.prg 1 ["self"] (spProg C) := by
  obtain ⟨f, fd, hm, F, b⟩ := T.m_Program_init
  refine ⟨f, fd, hm, b, F.ok sc_Program_init (fun vs H Q E h => ?_) (fun cdv A outer s H vs Q E hr h => ?_)⟩
  · obtain ⟨p, dx, rfl, _⟩ := h
    rfl
  refine ⟨_, (pss_cons (ps_fld (pv 0) (pe_lst pa_nil) rfl)
        (pss_cons (ps_fld (pv 0) (pe_lst pa_nil) rfl)
        (pss_one (ps_fld (pv 0) (pe_lst pa_nil) rfl)))), ?_⟩
  obtain ⟨p, dx, rfl, hp, k⟩ := h
  refine ⟨(by show 0 ≤ sizeLine; decide), fun s hs => ?_⟩
  have n1 : p ≠ s := ne_of_none hp hs
  refine ⟨_, rfl, _, _, _, _, rfl, (Same.new hs _ _ _ hp), T.cl_prg, T.n_prg_statements, (by refine Nat.lt_of_le_of_lt (m := 7) ?_ (by decide); (repeat refine few1 ?_); exact Nat.zero_le _), ?_⟩
  refine ⟨(by show 0 ≤ sizeLine; decide), fun pa hpa => ?_⟩
  have n2 : p ≠ pa := ne_of_none upd_same hpa
  refine ⟨_, rfl, _, _, _, _, rfl, (Same.new hpa _ _ _ upd_same), T.cl_prg, T.n_prg_parents, (by refine Nat.lt_of_le_of_lt (m := 7) ?_ (by decide); (repeat refine few1 ?_); exact Nat.zero_le _), ?_⟩
  refine ⟨(by show 0 ≤ sizeLine; decide), fun si hsi => ?_⟩
  have n3 : p ≠ si := ne_of_none upd_same hsi
  refine ⟨_, rfl, _, _, _, _, rfl, (Same.new hsi _ _ _ upd_same), T.cl_prg, T.n_prg_sides, (by refine Nat.lt_of_le_of_lt (m := 7) ?_ (by decide); (repeat refine few1 ?_); exact Nat.zero_le _), ?_⟩
  have a1 : (upd (upd H s (.lst [])) p (.ins C.prg dx (putF "statements" (.ref s) []))) s = some (.lst []) := by rw [upd_ne n1.symm]; exact upd_same
  have m1 : s ≠ pa := ne_of_none a1 hpa
  have hpa0 : H pa = none := by rw [upd_ne n2.symm, upd_ne m1.symm] at hpa; exact hpa
  have a2 := Same.new hpa (.lst []) _ _ a1
  have a3 : (upd (upd (upd (upd H s (.lst [])) p (.ins C.prg dx (putF "statements" (.ref s) []))) pa (.lst [])) p (.ins C.prg dx (putF "parents" (.ref pa) (putF "statements" (.ref s) [])))) s = some (.lst []) := by rw [upd_ne n1.symm]; exact a2
  have m2 : s ≠ si := ne_of_none a3 hsi
  have b1 : (upd (upd (upd (upd H s (.lst [])) p (.ins C.prg dx (putF "statements" (.ref s) []))) pa (.lst [])) p (.ins C.prg dx (putF "parents" (.ref pa) (putF "statements" (.ref s) [])))) pa = some (.lst []) := by rw [upd_ne n2.symm]; exact upd_same
  have m3 : pa ≠ si := ne_of_none b1 hsi
  have hsi0 : H si = none := by rw [upd_ne n3.symm, upd_ne m3.symm, upd_ne n3.symm, upd_ne m2.symm] at hsi; exact hsi
  refine k _ s pa si hs hpa0 hsi0 m1 m2 m3 ?_ ?_ ?_ ?_ fun b o e hb => ?_
  · rw [upd_same]
    exact congrArg (fun l => some (HO.ins C.prg dx l)) fs_prg_new
  · rw [upd_ne n1.symm]; exact Same.new hsi _ _ _ a3
  · rw [upd_ne n2.symm]; exact Same.new hsi _ _ _ b1
  · rw [upd_ne n3.symm]; exact upd_same
  · rw [upd_ne hb, upd_ne (ne_of_none e hsi0), upd_ne hb, upd_ne (ne_of_none e hpa0), upd_ne hb, upd_ne (ne_of_none e hs)]
    exact e
abbrev s_Program_join_line : Stmt := inClass (top 39) 1
theorem sc_Program_join_line : FnScope ["self", "statement", "parent", "side"] ["self", "statement", "parent", "side"] (defScope s_Program_join_line) := ⟨rfl, rfl, rfl, by decide +kernel, rfl, by decide +kernel, by decide +kernel⟩
theorem ok_Program_join_line (T : Txt K mg C) : OkM P w K mg base C.prg 1 "join_line" ["self", "statement", "parent", "side"] (spJoin C) := by
  obtain ⟨f, fd, hm, F, b⟩ := T.m_Program_join_line
  refine ⟨f, fd, hm, b, F.ok sc_Program_join_line (fun vs H Q E h => ?_) (fun cdv A outer s H vs Q E hr h => ?_)⟩
  · obtain ⟨p, dx, s, pa, si, st, x, y, xs, ys, zs, rfl, _⟩ := h
    rfl
  refine ⟨_, (pss_cons (ps_expr (pe_bm PySem.F.plainAttrs_list PySem.F.slot_list_append PySem.F.type_list_append mt_append (pe_fld (pv 0) rfl) (pa_cons (pv 1) pa_nil)))
        (pss_cons (ps_expr (pe_bm PySem.F.plainAttrs_list PySem.F.slot_list_append PySem.F.type_list_append mt_append (pe_fld (pv 0) rfl) (pa_cons (pv 2) pa_nil)))
        (pss_one (ps_expr (pe_bm PySem.F.plainAttrs_list PySem.F.slot_list_append PySem.F.type_list_append mt_append (pe_fld (pv 0) rfl) (pa_cons (pv 3) pa_nil)))))), ?_⟩
  obtain ⟨p, dx, s', pa, si, st, x, y, xs, ys, zs, rfl, hp, h1, h2, h3, m1, m2, m3, z1, z2, z3, k⟩ := h
  have np1 : p ≠ s' := ne_of hp h1 (by intro z; cases z)
  have np2 : p ≠ pa := ne_of hp h2 (by intro z; cases z)
  have sm : ∀ n : Nat, n ≤ 2000 → n < sizeLine := fun n h => Nat.lt_of_le_of_lt h (by decide)
  refine ⟨_, rfl, _, _, _, _, _, rfl, hp, T.cl_prg, T.n_prg_statements, fs_prg_statements, .inl ⟨rfl, _, SqL.of h1⟩, _, rfl, _, _, _, rfl, rfl, h1, sm _ z1, ?_⟩
  have hp1 : (upd H s' (.lst (xs ++ [.ref st]))) p = some (.ins C.prg dx (fs_prg (.ref s') (.ref pa) (.ref si))) := by rw [upd_ne np1]; exact hp
  have h2' : (upd H s' (.lst (xs ++ [.ref st]))) pa = some (.lst ys) := by rw [upd_ne m1.symm]; exact h2
  refine ⟨_, rfl, _, _, _, _, _, rfl, hp1, T.cl_prg, T.n_prg_parents, fs_prg_parents, .inl ⟨rfl, _, SqL.of h2'⟩, _, rfl, _, _, _, rfl, rfl, h2', sm _ z2, ?_⟩
  have hp2 : (upd (upd H s' (.lst (xs ++ [.ref st]))) pa (.lst (ys ++ [.int x]))) p = some (.ins C.prg dx (fs_prg (.ref s') (.ref pa) (.ref si))) := by rw [upd_ne np2]; exact hp1
  have h3' : (upd (upd H s' (.lst (xs ++ [.ref st]))) pa (.lst (ys ++ [.int x]))) si = some (.lst zs) := by rw [upd_ne m3.symm, upd_ne m2.symm]; exact h3
  exact ⟨_, rfl, _, _, _, _, _, rfl, hp2, T.cl_prg, T.n_prg_sides, fs_prg_sides, .inl ⟨rfl, _, SqL.of h3'⟩, _, rfl, _, _, _, rfl, rfl, h3', sm _ z3, k⟩
abbrev s_Program_many : Stmt := inClass (top 39) 2
theorem sc_Program_many : FnScope ["self"] ["self"] (defScope s_Program_many) := ⟨rfl, rfl, rfl, by decide +kernel, rfl, by decide +kernel, by decide +kernel⟩
theorem ok_Program_many (T : Txt K mg C) : OkM P w K mg base C.prg 1 "many" ["self"] (spMany C) := by
  obtain ⟨f, fd, hm, F, b⟩ := T.m_Program_many
  refine ⟨f, fd, hm, b, F.ok sc_Program_many (fun vs H Q E h => ?_) (fun cdv A outer s H vs Q E hr h => ?_)⟩
  · obtain ⟨p, dx, s, v, w, xs, rfl, _⟩ := h
    rfl
  refine ⟨_, (pss_one (ps_ret (pe_callB call_len_seq (by rfl) T.len PySem.boot_len (pa_cons (pe_fld (pv 0) rfl) pa_nil)))), ?_⟩
  obtain ⟨p, dx, s', v, w', xs, rfl, hp, h1, k⟩ := h
  exact ⟨_, rfl, _, _, _, _, _, rfl, hp, T.cl_prg, T.n_prg_statements, fs_prg_statements, _, _, rfl, .inl (SqL.of h1), k⟩
abbrev s_Program_inside : Stmt := inClass (top 39) 3
theorem sc_Program_inside : FnScope ["self", "parent", "side", "line"] ["self", "parent", "side"] (defScope s_Program_inside) := ⟨rfl, rfl, rfl, by decide +kernel, rfl, by decide +kernel, by decide +kernel⟩
theorem ok_Program_inside (T : Txt K mg C) : OkM P w K mg base C.prg 1 "inside" ["self", "parent", "side"] (spInside C) := by
  obtain ⟨f, fd, hm, F, b⟩ := T.m_Program_inside
  refine ⟨f, fd, hm, b, F.ok sc_Program_inside (fun vs H Q E h => ?_) (fun cdv A outer s H vs Q E hr h => ?_)⟩
  · obtain ⟨p, P, x, y, rfl, _⟩ := h
    rfl
  refine ⟨_, (pss_one (ps_ret (pe_lc (own := [("line", 3)]) (g := gName 3) rfl sc_Program_inside.nd (pi_range1 (by rfl) T.range (pa_cons (pe_callB call_len_seq (by rfl) T.len PySem.boot_len (pa_cons (pe_fld (pv 0) rfl) pa_nil)) pa_nil)) (blkOk_by (own := [("line", 3)]) (N := ["self", "parent", "side", "line"]) (sc := defScope s_Program_inside) (by decide +kernel)) (fun _ _ _ _ _ => pg_name (i := 3) sc_Program_inside.nd rfl (Or.inl rfl)) (fun _ _ _ _ _ => (pts_one (PW.pt (pw_and (pt_cmpR op_eq (pe_ix (ix_listK (K := K) rfl) (pe_fldK (K := K) (pv 0) rfl rfl) (pv 3) (fun _ _ => rfl)) (pv 1) (nomark _)) (pw_and1 (pt_cmpR op_eq (pe_ix (ix_listK (K := K) rfl) (pe_fldK (K := K) (pv 0) rfl rfl) (pv 3) (fun _ _ => rfl)) (pv 2) (nomark _))))))) (fun _ _ _ _ _ => (pv 3))))), ?_⟩
  obtain ⟨p, P0, x, y, rfl, ⟨dx, s', pa, si, as, hp, h1, h2, h3, h4⟩, hz, k⟩ := h
  have hl : (parV P0).length = P0.length := parV_length P0
  refine lc_rg (n := P0.length) (fun n => V.int (n : Int)) (isIn P0 x y) (fun Q' q => ⟨_, rfl, _, _, _, _, _, rfl, hp, T.cl_prg, T.n_prg_parents, fs_prg_parents, _, _, rfl, .inl (SqL.of h2), by rw [hl]; exact q⟩) (Nat.le_trans hz (by decide)) (fun v => rfl)
    (fun n hn H' s2 => ?_) (fun n hn _ H' s2 => val_var rfl) k
  obtain ⟨l, hl⟩ : ∃ l, P0[n]? = some l := ⟨_, List.getElem?_eq_getElem hn⟩
  have e : isIn P0 x y n = (decide (l.parent = x) && decide (l.side = y)) := by unfold isIn; rw [hl]
  rw [e]
  refine ans_and2 (ans_eq (val_ix (val_fld (val_var rfl) (s2 _ _ hp) T.cl_prg T.n_prg_parents fs_prg_parents) (val_var rfl) (SqL.of (s2 _ _ h2)) (parV_at hl)) (val_var rfl) rfl ?_)
    (ans_eq (val_ix (val_fld (val_var rfl) (s2 _ _ hp) T.cl_prg T.n_prg_sides fs_prg_sides) (val_var rfl) (SqL.of (s2 _ _ h3)) (sidV_at hl)) (val_var rfl) rfl ?_)
  · exact decide_eq_decide.mpr ⟨fun z => V.int.inj z, fun z => by rw [z]⟩
  · exact decide_eq_decide.mpr ⟨fun z => by have := V.int.inj z; omega, fun z => by rw [z]⟩
abbrev s_Program_depth : Stmt := inClass (top 39) 4
theorem sc_Program_depth : FnScope ["self", "line", "deep", "parent"] ["self", "line"] (defScope s_Program_depth) := ⟨rfl, rfl, rfl, by decide +kernel, rfl, by decide +kernel, by decide +kernel⟩
theorem ok_Program_depth (T : Txt K mg C) : OkM P w K mg base C.prg 1 "depth" ["self", "line"] (spDepth C) := by
  obtain ⟨f, fd, hm, F, b⟩ := T.m_Program_depth
  refine ⟨f, fd, hm, b, F.ok sc_Program_depth (fun vs H Q E h => ?_) (fun cdv A outer s H vs Q E hr h => ?_)⟩
  · obtain ⟨p, P, A, n, rfl, _⟩ := h
    rfl
  refine ⟨_, (pss_cons (ps_set (i := 2) sc_Program_depth.nd rfl (Or.inl rfl) pe_int)
        (pss_cons (ps_set (i := 3) sc_Program_depth.nd rfl (Or.inl rfl) (pe_ix ix_list (pe_fld (pv 0) rfl) (pv 1) (fun _ _ => rfl)))
        (pss_cons (ps_while PassesOwn.never (pt_cmpR op_ge (pv 3) pe_int (nomark _)) (pss_cons (ps_aug (i := 2) sc_Program_depth.nd rfl (Or.inl rfl) pe_int ip_add)
        (pss_one (ps_set (i := 3) sc_Program_depth.nd rfl (Or.inl rfl) (pe_ix ix_list (pe_fld (pv 0) rfl) (pv 3) (fun _ _ => rfl))))))
        (pss_one (ps_ret (pv 2)))))), ?_⟩
  obtain ⟨p, P0, A', n, rfl, ⟨dx, s', pa, si, as, hp, h1, h2, h3, h4⟩, hn, hA, k⟩ := h
  obtain ⟨l, hl⟩ : ∃ l, P0[n]? = some l := ⟨_, List.getElem?_eq_getElem hn⟩
  refine ⟨_, rfl, _, _, _, _, _, rfl, hp, T.cl_prg, T.n_prg_parents, fs_prg_parents, _, rfl, _, _, _, _, rfl, rfl, SqL.of h2, parV_at hl, ?_⟩
  refine while_by (fun σ H' => H' = H ∧ ∃ (d : Nat) (m : Nat) (l : PL), m < P0.length ∧ P0[m]? = some l ∧ σ = [some (.ref p), some (.int (n : Int)), some (.int (d : Int)), some (.int l.parent)] ∧ d + (A' m).length = (A' n).length)
    (fun σ H' => match σ with | [_, _, _, some (.int q)] => (q + 1).toNat | _ => 0) ⟨rfl, 0, n, l, hn, hl, rfl, by omega⟩ ?_ ?_
  · rintro σ H' ⟨rfl, d, m, l, hm, hlm, rfl, hd⟩
    refine ⟨_, rfl, _, _, rfl, rfl, _, rfl, ?_⟩
    rcases hA m l hlm with ⟨e1, e2⟩ | ⟨q, e1, e2, e3⟩
    · refine if_f (by rw [e1]; decide) ?_
      rw [e2] at hd
      have : d = (A' n).length := by simpa using hd
      rw [← this] at k
      exact ⟨_, rfl, k⟩
    · refine if_t (by rw [e1]; exact decide_eq_true (by omega)) ?_
      obtain ⟨l2, hl2⟩ : ∃ l2, P0[q]? = some l2 := ⟨_, List.getElem?_eq_getElem (by omega)⟩
      refine ⟨_, rfl, _, _, rfl, rfl, ?_⟩
      have hat : atI (parV P0) l.parent = some (.int l2.parent) := by rw [e1]; exact parV_at hl2
      refine ⟨_, rfl, _, _, _, _, _, rfl, hp, T.cl_prg, T.n_prg_parents, fs_prg_parents, _, rfl, _, _, _, _, rfl, rfl, SqL.of h2, hat, ⟨rfl, d + 1, q, l2, by omega, hl2, rfl, by rw [e3] at hd; simp at hd; omega⟩, ?_⟩
      show (l2.parent + 1).toNat < (l.parent + 1).toNat
      rcases hA q l2 hl2 with ⟨f1, _⟩ | ⟨q2, f1, f2, _⟩ <;> omega
  · rintro σ H' Q1 Q2 imp ⟨v, hv, i, j, e1, e2, c, hc, q⟩
    exact ⟨v, hv, i, j, e1, e2, c, hc, imp _ _ q⟩
end
end Ld
end
section
set_option Elab.async false
set_option maxRecDepth 100000
set_option maxHeartbeats 4000000
namespace Ld
open PySem PySem.Spec PyProof.Rows L2
open Vaslca (Text ascii isName isDigit isSmall numberOf atomOf valueOf cutAt atomText opText relText opOf relOf exprOf condOf indent)
/-! ### a Reader; B: what is not written by it -/
def hide (H : Hp) (S : List Addr) : Hp := fun b => if b ∈ S then none else H b
theorem hide_in {H : Hp} {S : List Addr} {b : Addr} (h : b ∈ S) : hide H S b = none := if_pos h
theorem hide_out {H : Hp} {S : List Addr} {b : Addr} (h : b ∉ S) : hide H S b = H b := if_neg h
theorem hide_same (H : Hp) (S : List Addr) : Same (hide H S) H := fun b o e => by
  unfold hide at e
  split at e
  · cases e
  · exact e
theorem AllAt.take {α : Type} {R : Addr → α → Prop} : ∀ (n : Nat) {as : List Addr} {xs : List α}, AllAt R as xs → AllAt R (as.take n) (xs.take n)
  | 0, _, _, _ => by simp [AllAt]
  | n + 1, [], [], _ => by simp [AllAt]
  | n + 1, _ :: _, _ :: _, h => ⟨h.1, AllAt.take n h.2⟩
  | n + 1, [], _ :: _, h => h.elim
  | n + 1, _ :: _, [], h => h.elim
theorem nx_go {t : TS} {D0 : Ends} {rt : VK} {bk ct : L2.St → Hp → Prop} {σ : L2.St} {H : Hp} (h : t D0 σ H) : tNext ⟨t D0, rt, bk, ct⟩ σ H := h
theorem nx_go' {t : TS} {D0 : Ends} {rt : VK} {bk ct : L2.St → Hp → Prop} {σ : L2.St} {H : Hp} (h : t D0 σ H) : Ends.nx ⟨t D0, rt, bk, ct⟩ σ H := h
theorem sq_no {c : TT} {t1 t2 u : TS} {D : Ends} {σ : L2.St} {H : Hp} (h : Ans c σ H false) (q : t2 { D with nx := u D } σ H) : tSeq (tIfS c t1 t2) u D σ H := st_seq (st_no h q)
theorem sq_asgH {te : TE} {g : TG} {u : TS} {D : Ends} {σ : L2.St} {H : Hp} {PV : V → Hp → Prop} (h : ValH te σ H PV) (q : ∀ v H', PV v H' → g v σ H' (u D)) : tSeq (tAsg te g) u D σ H := h _ q
theorem take_len {st st' : RS} {t : Text} (h : take st t = some st') : st'.prog.length ≤ st.prog.length + 1 ∧ (st.path.length ≤ st.prog.length → st'.path.length ≤ st'.prog.length) := by
  unfold take at h
  split at h
  · cases h
  split at h
  · cases h
  split at h
  · unfold takeElse at h
    split at h
    · cases h
    · rename_i hn sd hq
      have hlt := (List.getElem?_eq_some_iff.mp hq).1
      split at h
      · split at h
        · cases Option.some.inj h
          refine ⟨Nat.le_succ _, fun z => ?_⟩
          simp only [List.length_append, List.length_take, List.length_singleton]
          omega
        · cases h
      · cases h
  · unfold takeStmt at h
    split at h
    · cases h
    · split at h
      · cases h
      · split at h
        · cases h
        · cases Option.some.inj h
          refine ⟨by simp, fun z => ?_⟩
          simp only [List.length_append, List.length_take, List.length_singleton]
          split <;> simp <;> omega
theorem kind_dec (h : Head) {b : String} (hb : b ∈ ["set", "read", "write", "stop", "if", "while"]) : decide (V.str (Str.ofString h.kind) = V.str (Str.ofString b)) = decide (h.kind = b) := by
  have q : ∀ a ∈ ["set", "read", "write", "stop", "if", "while"], ∀ b ∈ ["set", "read", "write", "stop", "if", "while"], decide (V.str (Str.ofString a) = V.str (Str.ofString b)) = decide (a = b) := by decide
  refine q _ ?_ b hb
  cases h <;> simp [Head.kind]
def pathV (q : Nat × Nat) : HO := .tup [.int (q.1 : Int), .int (q.2 : Int)]
open Classical in
/-- without the cells that are to be avoided -/
noncomputable def hg (G : Addr → Prop) (B : Hp) : Hp := fun b => if G b then none else B b
theorem hg_same (G : Addr → Prop) (B : Hp) : Same (hg G B) B := fun b o e => by
  unfold hg at e
  split at e
  · cases e
  · exact e
theorem hg_get {G : Addr → Prop} {B : Hp} {b : Addr} (n : ¬ G b) : hg G B b = B b := if_neg n
theorem hg_mono {G : Addr → Prop} {B B' : Hp} (s : Same B B') : Same (hg G B) (hg G B') := fun b o e => by
  unfold hg at e ⊢
  split at e
  · cases e
  · rename_i n
    rw [if_neg n]
    exact s b o e
structure RdrAt (G : Addr → Prop) (C : Cs) (B H : Hp) (r : Addr) (st : RS) : Prop where
  ex : ∃ (dr dp p s pa si pt : Addr) (as ps : List Addr), H r = some (.ins C.rdr dr (fs_rdr (.ref p) (.ref pt) (.bl st.waits))) ∧ H p = some (.ins C.prg dp (fs_prg (.ref s) (.ref pa) (.ref si))) ∧
    H s = some (.lst (rV as)) ∧ H pa = some (.lst (parV st.prog)) ∧ H si = some (.lst (sidV st.prog)) ∧ AllAt (fun a l => StmAt C (hg G B) a l.head) as st.prog ∧ B pt = some (.lst (rV ps)) ∧ AllAt (fun a q => B a = some (pathV q)) ps st.path ∧
    B r = none ∧ B p = none ∧ B s = none ∧ B pa = none ∧ B si = none ∧ s ≠ pa ∧ s ≠ si ∧ pa ≠ si ∧ r ≠ p
  same : Same B H
  wf : ∀ q ∈ st.path, q.1 < st.prog.length
  sz : st.prog.length ≤ 1001 ∧ st.path.length ≤ 1001
theorem RdrAt.grow {G : Addr → Prop} {C : Cs} {B H H1 : Hp} {r : Addr} {st : RS} (x : RdrAt G C B H r st) (sm : Same H H1) : ∃ B1, Same B B1 ∧ RdrAt G C B1 H1 r st ∧ ∀ b o, H b = none → H1 b = some o → B1 b = some o := by
  obtain ⟨⟨dr, dp, p, s, pa, si, pt, as, ps, h1, h2, h3, h4, h5, h6, h7, h8, b1, b2, b3, b4, b5, m1, m2, m3, m4⟩, sB, wf, sz⟩ := x
  have nin : ∀ b o, B b = some o → b ∉ [r, p, s, pa, si] := fun b o e m => by
    simp only [List.mem_cons, List.not_mem_nil, or_false] at m
    rcases m with rfl | rfl | rfl | rfl | rfl
    · rw [b1] at e; cases e
    · rw [b2] at e; cases e
    · rw [b3] at e; cases e
    · rw [b4] at e; cases e
    · rw [b5] at e; cases e
  have new : ∀ b, H b = none → b ∉ [r, p, s, pa, si] := fun b e m => by
    simp only [List.mem_cons, List.not_mem_nil, or_false] at m
    rcases m with rfl | rfl | rfl | rfl | rfl
    · rw [h1] at e; cases e
    · rw [h2] at e; cases e
    · rw [h3] at e; cases e
    · rw [h4] at e; cases e
    · rw [h5] at e; cases e
  have s1 : Same B (hide H1 [r, p, s, pa, si]) := fun b o e => by rw [hide_out (nin b o e)]; exact sm _ _ (sB _ _ e)
  refine ⟨hide H1 [r, p, s, pa, si], s1, ⟨⟨dr, dp, p, s, pa, si, pt, as, ps, sm _ _ h1, sm _ _ h2, sm _ _ h3, sm _ _ h4, sm _ _ h5, h6.mono fun a l => StmAt.same (hg_mono s1), s1 _ _ h7, h8.mono fun a q => s1 a _,
    hide_in (by simp), hide_in (by simp), hide_in (by simp), hide_in (by simp), hide_in (by simp), m1, m2, m3, m4⟩, hide_same _ _, wf, sz⟩, fun b o n e => by rw [hide_out (new b n)]; exact e⟩
/-- the path (and whether it waits) stored -/
theorem RdrAt.setPath {G : Addr → Prop} {C : Cs} {B H : Hp} {r : Addr} {st : RS} (x : RdrAt G C B H r st) {dr p : Addr} {v u : V} (hr : H r = some (.ins C.rdr dr (fs_rdr (.ref p) v u))) {pt : Addr} {ps : List Addr} {path : List (Nat × Nat)} {b : Bool}
    (h1 : B pt = some (.lst (rV ps))) (h2 : AllAt (fun a q => B a = some (pathV q)) ps path) (w1 : ∀ q ∈ path, q.1 < st.prog.length) (w2 : path.length ≤ 1001) :
    RdrAt G C B (upd H r (.ins C.rdr dr (fs_rdr (.ref p) (.ref pt) (.bl b)))) r ⟨st.prog, path, b⟩ := by
  obtain ⟨⟨dr', dp, p', s, pa, si, pt', as, ps', g1, g2, g3, g4, g5, g6, g7, g8, b1, b2, b3, b4, b5, m1, m2, m3, m4⟩, sB, wf, sz⟩ := x
  rw [g1] at hr
  have e := HO.ins.inj (Option.some.inj hr)
  have e2 : p' = p := by
    have := (List.cons.inj e.2.2).1
    exact V.ref.inj (Prod.mk.inj this).2
  have e3 : dr' = dr := e.2.1
  subst e2 e3
  have nr : ∀ b o, (∀ fs, o ≠ HO.ins C.rdr dr' fs) → H b = some o → b ≠ r := fun b o ne e z => by subst z; rw [g1] at e; exact ne _ (Option.some.inj e).symm
  refine ⟨⟨dr', dp, p', s, pa, si, pt, as, ps, upd_same, ?_, ?_, ?_, ?_, g6, h1, h2, b1, b2, b3, b4, b5, m1, m2, m3, m4⟩, sB.put b1 _, w1, sz.1, w2⟩
  · rw [upd_ne m4.symm]; exact g2
  · rw [upd_ne (nr _ _ (fun fs z => by cases z) g3)]; exact g3
  · rw [upd_ne (nr _ _ (fun fs z => by cases z) g4)]; exact g4
  · rw [upd_ne (nr _ _ (fun fs z => by cases z) g5)]; exact g5
/-- a line joined -/
theorem RdrAt.join {G : Addr → Prop} {C : Cs} {B H : Hp} {r : Addr} {st : RS} (x : RdrAt G C B H r st) {dr p dp s pa si : Addr} {v u : V} {as : List Addr} (hr : H r = some (.ins C.rdr dr (fs_rdr (.ref p) v u))) (hp : H p = some (.ins C.prg dp (fs_prg (.ref s) (.ref pa) (.ref si)))) (hs : H s = some (.lst (rV as)))
    {sp : Addr} {l : PL} (hS : StmAt C (hg G B) sp l.head) (z : st.prog.length ≤ 1000) :
    RdrAt G C B (upd (upd (upd H s (.lst (rV as ++ [.ref sp]))) pa (.lst (parV st.prog ++ [.int l.parent]))) si (.lst (sidV st.prog ++ [.int (l.side : Int)]))) r { st with prog := st.prog ++ [l] } := by
  obtain ⟨⟨dr', dp', p', s', pa', si', pt', as', ps', g1, g2, g3, g4, g5, g6, g7, g8, b1, b2, b3, b4, b5, m1, m2, m3, m4⟩, sB, wf, sz⟩ := x
  have e1 : p' = p := by
    rw [g1] at hr
    have e := HO.ins.inj (Option.some.inj hr)
    exact V.ref.inj (Prod.mk.inj (List.cons.inj e.2.2).1).2
  subst e1
  rw [g2] at hp
  have e := HO.ins.inj (Option.some.inj hp)
  have f := List.cons.inj e.2.2
  have f2 := List.cons.inj f.2
  have f3 := List.cons.inj f2.2
  have e2 : s' = s := V.ref.inj (Prod.mk.inj f.1).2
  have e3 : pa' = pa := V.ref.inj (Prod.mk.inj f2.1).2
  have e4 : si' = si := V.ref.inj (Prod.mk.inj f3.1).2
  subst e2 e3 e4
  have e5 : rV as' = rV as := by
    rw [g3] at hs
    exact HO.lst.inj (Option.some.inj hs)
  have ni : ∀ b o, (∀ xs, o ≠ HO.lst xs) → H b = some o → b ≠ s' ∧ b ≠ pa' ∧ b ≠ si' := fun b o ne e =>
    ⟨ne_of e g3 (ne _), ne_of e g4 (ne _), ne_of e g5 (ne _)⟩
  have n1 := ni _ _ (fun xs z => by cases z) g1
  have n2 := ni _ _ (fun xs z => by cases z) g2
  refine ⟨⟨dr', dp', p', s', pa', si', pt', as' ++ [sp], ps', ?_, ?_, ?_, ?_, ?_, g6.app (AllAt.one hS), g7, g8, b1, b2, b3, b4, b5, m1, m2, m3, m4⟩, ((sB.put b3 _).put b4 _).put b5 _, ?_, ?_⟩
  · rw [upd_ne n1.2.2, upd_ne n1.2.1, upd_ne n1.1]; exact g1
  · rw [upd_ne n2.2.2, upd_ne n2.2.1, upd_ne n2.1]; exact g2
  · rw [upd_ne m2, upd_ne m1, upd_same, ← e5]
    exact congrArg (fun l => some (HO.lst l)) (rV_app as' [sp])
  · rw [upd_ne m3, upd_same]
    unfold parV
    rw [List.map_append]
    rfl
  · rw [upd_same]
    unfold sidV
    rw [List.map_append]
    rfl
  · intro q hq
    have := wf q hq
    rw [List.length_append]
    exact Nat.lt_of_lt_of_le this (Nat.le_add_right _ _)
  · exact ⟨by rw [List.length_append]; simp only [List.length_singleton]; omega, sz.2⟩
/-- what a step of the reader answers: whether the row may stand there, and the reader behind it -/
def ResRd (G : Addr → Prop) (C : Cs) (B : Hp) (r : Addr) (o : Option RS) (Q : VK) : Prop := match o with
  | none => ∀ H', Same B H' → Q (.bl false) H'
  | some st => ∀ B' H', Same B B' → RdrAt G C B' H' r st → Q (.bl true) H'
theorem ResRd.no {G : Addr → Prop} {C : Cs} {B H' : Hp} {r : Addr} {o : Option RS} {Q : VK} (k : ResRd G C B r o Q) (e : o = none) (s : Same B H') : Q (.bl false) H' := by subst e; exact k H' s
theorem ResRd.yes {G : Addr → Prop} {C : Cs} {B B' H' : Hp} {r : Addr} {o : Option RS} {st : RS} {Q : VK} (k : ResRd G C B r o Q) (e : o = some st) (s : Same B B') (x : RdrAt G C B' H' r st) : Q (.bl true) H' := by subst e; exact k B' H' s x
theorem ResRd.of {G : Addr → Prop} {C : Cs} {B B1 : Hp} {r : Addr} {o : Option RS} {Q : VK} (k : ResRd G C B r o Q) (s : Same B B1) : ResRd G C B1 r o Q := by
  cases e : o with
  | none => exact fun H' s' => k.no e (s.trans s')
  | some st => exact fun B' H' s' x => k.yes e (s.trans s') x
def spRdr (C : Cs) : Sp := fun vs H Q _ => ∃ (r dx : Addr), vs = [.ref r] ∧ H r = some (.ins C.rdr dx []) ∧ ∀ B' H', (∀ b o, H b = some o → b ≠ r → B' b = some o) → (∀ G : Addr → Prop, RdrAt G C B' H' r RS.start) → Q .non H'
def spTake (C : Cs) : Sp := fun vs H Q _ => ∃ (G : Addr → Prop) (r a : Addr) (B : Hp) (st : RS) (t : Text), vs = [.ref r, .ref a] ∧ (∀ b, G b → H b ≠ none) ∧ RdrAt G C B H r st ∧ LB (hg G B) a t ∧ t.length ≤ 1000 ∧ st.prog.length ≤ 1000 ∧ st.path.length ≤ 1000 ∧ ResRd G C B r (take st t) Q
def spTakeElse (C : Cs) : Sp := fun vs H Q _ => ∃ (G : Addr → Prop) (r : Addr) (d : Nat) (B : Hp) (st : RS), vs = [.ref r, .int (d : Int)] ∧ RdrAt G C B H r st ∧ ResRd G C B r (takeElse st d) Q
def spTakeStm (C : Cs) : Sp := fun vs H Q _ => ∃ (G : Addr → Prop) (r a : Addr) (d : Nat) (B : Hp) (st : RS) (t : Text), vs = [.ref r, .int (d : Int), .ref a] ∧ (∀ b, G b → H b ≠ none) ∧ RdrAt G C B H r st ∧ LB (hg G B) a t ∧ t.length ≤ 1000 ∧ st.prog.length ≤ 1000 ∧ st.path.length ≤ 1000 ∧ d ≤ st.path.length ∧ ResRd G C B r (takeStmt st d t) Q
def spReadProg (C : Cs) : Sp := fun vs H Q _ => ∃ (a : Addr) (t : Text), vs = [.ref a] ∧ LB H a t ∧ t.length ≤ 1000 ∧ (match readProgram t with
  | none => ∀ H', Same H H' → Q .non H'
  | some P => ∀ H' p, Same H H' → PrgAt C (hg (fun b => H b ≠ none) H') p P → Q (.ref p) H')
theorem pathV_at {K : PySem.W.Frag} {H : Hp} {a : Addr} {q : Nat × Nat} (h : H a = some (pathV q)) : SqT K H a [.int (q.1 : Int), .int (q.2 : Int)] := SqT.of h
section
variable {P : Program} {w : World} {K : PySem.W.Frag} {mg : Str → Option Value} {base : Heap} {C : Cs}
abbrev s_Reader_take_else : Stmt := inClass (top 40) 2
theorem sc_Reader_take_else : FnScope ["self", "deep", "header", "side"] ["self", "deep"] (defScope s_Reader_take_else) := ⟨rfl, rfl, rfl, by decide +kernel, rfl, by decide +kernel, by decide +kernel⟩
theorem ok_Reader_take_else (T : Txt K mg C) : OkM P w K mg base C.rdr 1 "take_else" ["self", "deep"] (spTakeElse C) := by
  obtain ⟨f, fd, hm, F, b⟩ := T.m_Reader_take_else
  refine ⟨f, fd, hm, b, F.ok sc_Reader_take_else (fun vs H Q E h => ?_) (fun cdv A outer s H vs Q E hr h => ?_)⟩
  · obtain ⟨G, r, d, B, st, rfl, _⟩ := h
    rfl
  refine ⟨_, (pss_cons (ps_if (pt_cmpR op_ge (pv 1) (pe_callB call_len_seq (by rfl) T.len PySem.boot_len (pa_cons (pe_fld (pv 0) rfl) pa_nil)) (nomark _)) (pss_one (ps_ret pe_bl)) pss_nil)
        (pss_cons (ps_asg (pe_ix ix_list (pe_fld (pv 0) rfl) (pv 1) (fun _ _ => rfl)) (pg_tup rfl (pgs_cons (pg_name (i := 2) sc_Reader_take_else.nd rfl (Or.inl rfl)) (pgs_cons (pg_name (i := 3) sc_Reader_take_else.nd rfl (Or.inl rfl)) pgs_nil))))
        (pss_cons (ps_if (PW.pt (pw_or (pt_cmpR op_ne (pe_fld (pe_ix ix_list (pe_fld (pe_fld (pv 0) rfl) rfl) (pv 2) (fun _ _ => rfl)) rfl) pe_str (nomark _)) (pw_or1 (pt_cmpR op_ne (pv 3) pe_int (nomark _))))) (pss_one (ps_ret pe_bl)) pss_nil)
        (pss_cons (ps_fld (pv 0) (pe_op op_cat (pe_slice sl_list (pe_fld (pv 0) rfl) po_none (po_some (pv 1))) (pe_lst (pa_cons (pe_tup (pa_cons (pv 2) (pa_cons pe_int pa_nil))) pa_nil))) rfl)
        (pss_cons (ps_fld (pv 0) pe_bl rfl)
        (pss_one (ps_ret pe_bl))))))), ?_⟩
  obtain ⟨G, r, d, B, st, rfl, x, k⟩ := h
  obtain ⟨⟨dr, dp, p, s', pa, si, pt, as, ps, h1, h2, h3, h4, h5, h6, h7, h8, b1, b2, b3, b4, b5, m1, m2, m3, m4⟩, sB, wf, sz⟩ := id x
  have hl : (rV ps).length = st.path.length := by rw [rV_length, h8.len]
  refine ⟨_, rfl, _, rfl, _, _, _, _, _, rfl, h1, T.cl_rdr, T.n_rdr_path, fs_rdr_path, _, _, rfl, .inl (SqL.of (sB _ _ h7)), _, _, rfl, rfl, _, rfl, ?_⟩
  rw [hl]
  refine if_d (fun e => ?_) (fun e => ?_)
  · refine k.no ?_ sB
    unfold takeElse
    rw [List.getElem?_eq_none (by omega)]
  have hd : d < st.path.length := by omega
  obtain ⟨q, hq⟩ : ∃ q, st.path[d]? = some q := ⟨_, List.getElem?_eq_getElem hd⟩
  obtain ⟨qa, hqa, hqB⟩ := h8.get hq
  obtain ⟨hn, sd⟩ := q
  have hqH : H qa = some (pathV (hn, sd)) := sB _ _ hqB
  refine ⟨_, rfl, _, _, _, _, _, rfl, h1, T.cl_rdr, T.n_rdr_path, fs_rdr_path, _, rfl, _, _, _, _, rfl, rfl, SqL.of (sB _ _ h7), atI_n (rV_at hqa), ?_⟩
  refine ⟨_, _, rfl, pathV_at hqH, rfl, _, _, rfl, _, _, rfl, rfl, ?_⟩
  have hlt : hn < st.prog.length := wf _ (List.mem_of_getElem? hq)
  obtain ⟨l, hl0⟩ : ∃ l, st.prog[hn]? = some l := ⟨_, List.getElem?_eq_getElem hlt⟩
  obtain ⟨la, hla, hS⟩ := h6.get hl0
  obtain ⟨⟨dx, wr, nm, at', as2, g1, _⟩, _⟩ := hS
  refine ⟨_, rfl, _, _, _, _, _, rfl, h1, T.cl_rdr, T.n_rdr_program, fs_rdr_program, _, _, _, _, _, rfl, h2, T.cl_prg, T.n_prg_statements, fs_prg_statements, _, rfl, _, _, _, _, rfl, rfl, SqL.of h3, atI_n (rV_at hla), _, _, _, _, _, rfl, (sB _ _ (hg_same _ _ _ _ g1)), T.cl_stm, T.n_stm_kind, fs_stm_kind, rfl, _, rfl, ?_⟩
  have te : takeElse st d = (match (generalizing := false) l with | ⟨.ite _, _, _⟩ => if sd = 0 then some { st with path := st.path.take d ++ [(hn, 1)], waits := true } else none | _ => none) := by
    unfold takeElse
    rw [hq]
    dsimp only
    rw [hl0]
    cases l with
    | mk h' p' s2 => cases h' <;> rfl
  obtain ⟨lh, lp, ls⟩ := l
  cases lh with
  | ite c =>
    refine if_f (by rw [kind_dec _ (by decide)]; rfl) ?_
    refine ⟨_, rfl, rfl, _, rfl, ?_⟩
    refine if_nd (fun e => ?_) (fun e => ?_)
    · refine k.no ?_ sB
      rw [te]
      exact if_neg (fun z => e (by rw [z]; rfl))
    have e0 : sd = 0 := by have := V.int.inj e; omega
    have te' : takeElse st d = some { st with path := st.path.take d ++ [(hn, 1)], waits := true } := by rw [te]; exact if_pos e0
    -- self.path = self.path[:deep] + [(header, 1)]
    refine ⟨_, rfl, _, _, _, _, _, rfl, h1, T.cl_rdr, T.n_rdr_path, fs_rdr_path, _, rfl, _, rfl, _, _, rfl, SqL.of (sB _ _ h7), fun c1 hc1 => ?_⟩
    rw [cut_take]
    refine ⟨_, rfl, (by show 2 ≤ sizeLine; decide), fun c2 hc2 => ⟨(by show 1 ≤ sizeLine; decide), fun c3 hc3 => ?_⟩⟩
    have l1 := Same.new hc3 (.lst [.ref c2]) _ _ (Same.new hc2 (.tup [.int (hn : Int), .int 1]) _ _ (upd_same (H := H) (a := c1) (o := .lst ((rV ps).take d))))
    refine ⟨_, _, _, _, rfl, rfl, l1, upd_same, ?_, fun c4 hc4 => ?_⟩
    · rw [List.length_take]
      exact Nat.le_trans (show _ ≤ 1002 by rw [hl]; simp only [List.length_singleton]; omega) (by decide)
    have s1 := (((Same.new hc1 (.lst ((rV ps).take d))).trans (Same.new hc2 (.tup [.int (hn : Int), .int 1]))).trans (Same.new hc3 (.lst [.ref c2]))).trans (Same.new hc4 (.lst ((rV ps).take d ++ [.ref c2])))
    obtain ⟨B1, sB1, x1, new⟩ := x.grow s1
    have hc2n : H c2 = none := (Same.new hc1 _).free hc2
    have hc2s := Same.new hc4 (.lst ((rV ps).take d ++ [.ref c2])) _ _ (Same.new hc3 (.lst [.ref c2]) _ _ (upd_same (H := upd H c1 (.lst ((rV ps).take d))) (a := c2) (o := .tup [.int (hn : Int), .int 1])))
    have hc4n : H c4 = none := (((Same.new hc1 _).trans (Same.new hc2 _)).trans (Same.new hc3 _)).free hc4
    refine ⟨_, rfl, _, _, _, _, rfl, (s1 _ _ h1), T.cl_rdr, T.n_rdr_path, (by rw [fs_rdr_len]; decide), ?_⟩
    rw [fs_rdr_put_path]
    refine ⟨_, rfl, _, _, _, _, rfl, upd_same, T.cl_rdr, T.n_rdr_waits, (by rw [fs_rdr_len]; decide), ?_⟩
    rw [fs_rdr_put_waits, upd_upd]
    refine k.yes te' sB1 (x1.setPath (s1 _ _ h1) (ps := ps.take d ++ [c2]) (path := st.path.take d ++ [(hn, 1)]) ?_ ?_ ?_ ?_)
    · refine new _ _ hc4n ?_
      rw [upd_same]
      unfold rV
      rw [List.map_append, List.map_take]
      rfl
    · exact AllAt.app ((AllAt.mono (fun a q => sB1 a _) h8).take d) (AllAt.one (new _ _ hc2n hc2s))
    · intro q hq
      rcases List.mem_append.mp hq with z | z
      · exact wf q (List.mem_of_mem_take z)
      · rw [List.mem_singleton.mp z]; exact hlt
    · rw [List.length_append, List.length_take]
      simp only [List.length_singleton]
      omega
  | _ =>
    refine if_t (by rw [kind_dec _ (by decide)]; rfl) (if_t rfl ?_)
    exact k.no te sB
abbrev s_Reader_take_statement : Stmt := inClass (top 40) 3
theorem sc_Reader_take_statement : FnScope ["self", "deep", "rest", "statement", "line", "parent", "side"] ["self", "deep", "rest"] (defScope s_Reader_take_statement) := ⟨rfl, rfl, rfl, by decide +kernel, rfl, by decide +kernel, by decide +kernel⟩
theorem ok_Reader_take_statement (T : Txt K mg C) : OkM P w K mg base C.rdr 7 "take_statement" ["self", "deep", "rest"] (spTakeStm C) := by
  have h_Program_join_line := ok_Program_join_line (P := P) (w := w) (base := base) T
  have h_Program_many := ok_Program_many (P := P) (w := w) (base := base) T
  have h_Statement_is_header := ok_Statement_is_header (P := P) (w := w) (base := base) T
  have h_read_statement := ok_read_statement (P := P) (w := w) (base := base) T
  obtain ⟨f, fd, hm, F, b⟩ := T.m_Reader_take_statement
  refine ⟨f, fd, hm, b, F.ok sc_Reader_take_statement (fun vs H Q E h => ?_) (fun cdv A outer s H vs Q E hr h => ?_)⟩
  · obtain ⟨G, r, a, d, B, st, t, rfl, _⟩ := h
    rfl
  refine ⟨_, (pss_cons (ps_set (i := 3) sc_Reader_take_statement.nd rfl (Or.inl rfl) (pe_cf h_read_statement (hr.mono (by decide)) (by rfl) (pa_cons (pv 2) pa_nil)))
        (pss_cons (ps_if (pt_cmpR op_isN (pv 3) pe_non (nomark _)) (pss_one (ps_ret pe_bl)) pss_nil)
        (pss_cons (ps_if (PW.pt (pw_and (pt_val (pe_cm0 (pv 3) T.cl_stm h_Statement_is_header (hr.mono (by decide)))) (pw_and1 (pt_cmpR op_ge (pv 1) (pe_gi rfl T.c_MOST_DEEP) (nomark _))))) (pss_one (ps_ret pe_bl)) pss_nil)
        (pss_cons (ps_set (i := 4) sc_Reader_take_statement.nd rfl (Or.inl rfl) (pe_cm0 (pe_fld (pv 0) rfl) T.cl_prg h_Program_many (hr.mono (by decide))))
        (pss_cons (ps_asg (pe_ifExp (pt_cmpR op_eq (pv 1) pe_int (nomark _)) (pe_tup (pa_cons (pe_un un_neg pe_int) (pa_cons pe_int pa_nil))) (pe_ix ix_list (pe_fld (pv 0) rfl) (pe_op op_sub (pv 1) pe_int) (fun _ _ => rfl))) (pg_tup rfl (pgs_cons (pg_name (i := 5) sc_Reader_take_statement.nd rfl (Or.inl rfl)) (pgs_cons (pg_name (i := 6) sc_Reader_take_statement.nd rfl (Or.inl rfl)) pgs_nil))))
        (pss_cons (ps_expr (pe_cm (pe_fld (pv 0) rfl) T.cl_prg h_Program_join_line (hr.mono (by decide)) (pa_cons (pv 3) (pa_cons (pv 5) (pa_cons (pv 6) pa_nil)))))
        (pss_cons (ps_fld (pv 0) (pe_slice sl_list (pe_fld (pv 0) rfl) po_none (po_some (pv 1))) rfl)
        (pss_cons (ps_fld (pv 0) (pe_cm0 (pv 3) T.cl_stm h_Statement_is_header (hr.mono (by decide))) rfl)
        (pss_cons (ps_if (pt_val (pe_fld (pv 0) rfl)) (pss_one (ps_fld (pv 0) (pe_op op_cat (pe_fld (pv 0) rfl) (pe_lst (pa_cons (pe_tup (pa_cons (pv 4) (pa_cons pe_int pa_nil))) pa_nil))) rfl)) pss_nil)
        (pss_one (ps_ret pe_bl))))))))))), ?_⟩
  obtain ⟨G, r, a, d, B, st, t, rfl, hG, x, hrow, hz, hz2, hz3, hd, k⟩ := h
  have sB := x.same
  have haH : LB H a t := sB _ _ (hg_same _ _ _ _ hrow)
  -- statement = read_statement(rest)
  refine ⟨_, rfl, a, t, rfl, haH, hz, ?_⟩
  cases hh : headOf t with
  | none =>
    intro H1 s1
    refine ⟨_, rfl, rfl, _, rfl, if_t (by decide) ?_⟩
    exact k.no (by unfold takeStmt; rw [hh]) (sB.trans s1)
  | some h0 =>
    intro H1 sp s1 nsp mk
    obtain ⟨B1, sB1, x1, new⟩ := x.grow s1
    have et := (headOf_text hh).1
    have hS : StmAt C (hg G B1) sp h0 := mk (hg G B1) ((hg_same _ _).trans x1.same) (fun b u n e => by rw [hg_get (fun g => hG b g n)]; exact new b u n e) (by rw [← et]; exact hrow.same (hg_mono sB1))
    refine ⟨_, rfl, rfl, _, rfl, if_f (decide_eq_false (by intro z; cases z)) ?_⟩
    have hSH := StmAt.same ((hg_same _ _).trans x1.same) hS
    obtain ⟨⟨dx, wr, nm, at', as2, g1, g2⟩, gok⟩ := id hSH
    -- if statement.is_header() and deep >= MOST_DEEP
    by_cases ng : h0.isHead = true ∧ 3 ≤ d
    · refine ⟨_, rfl, _, _, _, rfl, g1, fs_stm_no_is_header, sp, h0, rfl, hSH, _, rfl, ?_⟩
      refine if_t ng.1 ⟨_, rfl, _, _, rfl, rfl, _, rfl, if_t (decide_eq_true (by omega)) ?_⟩
      exact k.no (by unfold takeStmt; rw [hh]; exact if_pos ng) (sB.trans s1)
    refine nx_go (sq_no ?_ ?_)
    · intro Q0 q0
      refine ⟨_, rfl, _, _, _, rfl, g1, fs_stm_no_is_header, sp, h0, rfl, hSH, _, rfl, ?_⟩
      cases hb : h0.isHead with
      | false => exact if_f rfl q0
      | true =>
        have : ¬ (3 : Int) ≤ (d : Int) := fun z => ng ⟨hb, by omega⟩
        refine if_t rfl ⟨_, rfl, _, _, rfl, rfl, _, rfl, ?_⟩
        show Q0 (decide ((3 : Int) ≤ (d : Int))) H1
        rw [decide_eq_false this]
        exact q0
    obtain ⟨⟨dr, dp, p, s', pa, si, pt, as, ps, h1, h2, h3, h4, h5, h6, h7, h8, b1, b2, b3, b4, b5, m1, m2, m3, m4⟩, sB', wf, sz⟩ := id x1
    have hlp : as.length = st.prog.length := h6.len
    -- line = self.program.many()
    refine ⟨_, rfl, _, _, _, _, _, rfl, h1, T.cl_rdr, T.n_rdr_program, fs_rdr_program, _, _, _, rfl, h2, fs_prg_no_many, p, dp, s', _, _, rV as, rfl, h2, h3, ?_⟩
    rw [rV_length, hlp]
    -- parent, side = ..
    obtain ⟨pp, ss, har⟩ : ∃ pp ss, around2 st d = some (pp, ss) := by
      unfold around2
      by_cases c : d = 0
      · rw [if_pos c]; exact ⟨_, _, rfl⟩
      · rw [if_neg c, List.getElem?_eq_getElem (by omega)]; exact ⟨_, _, rfl⟩
    refine nx_go' ?_
    refine sq_asgH (PV := fun v H2 => ∃ a, v = .ref a ∧ Same H1 H2 ∧ SqT K H2 a [.int pp, .int (ss : Int)]) ?_ ?_
    · intro Q0 q0
      have har' := har
      unfold around2 at har'
      refine ⟨_, rfl, rfl, _, rfl, ?_⟩
      by_cases c : d = 0
      · rw [if_pos c] at har'
        cases Option.some.inj har'
        refine if_t (by rw [c]; rfl) ⟨_, rfl, (by show 2 ≤ sizeLine; decide), fun a ha => ?_⟩
        exact q0 _ _ ⟨a, rfl, Same.new ha _, SqT.of upd_same⟩
      · rw [if_neg c] at har'
        refine if_f (decide_eq_false fun z => c (by have := V.int.inj z; omega)) ?_
        obtain ⟨q, hq⟩ : ∃ q, st.path[d - 1]? = some q := ⟨_, List.getElem?_eq_getElem (by omega)⟩
        rw [hq] at har'
        cases Option.some.inj har'
        obtain ⟨qa, hqa, hqB⟩ := h8.get hq
        refine ⟨_, rfl, _, _, _, _, _, rfl, h1, T.cl_rdr, T.n_rdr_path, fs_rdr_path, _, rfl, _, _, rfl, rfl, _, _, _, .ref qa, rfl, rfl, SqL.of (sB' _ _ h7), ?_, ?_⟩
        · have e : ((d : Int) - 1) = ((d - 1 : Nat) : Int) := by omega
          rw [e]
          exact atI_n (rV_at hqa)
        · exact q0 _ _ ⟨qa, rfl, Same.refl _, pathV_at (sB' _ _ hqB)⟩
    rintro v H2 ⟨a2, rfl, s2, ht2⟩
    refine ⟨_, _, rfl, ht2, rfl, _, _, rfl, _, _, rfl, rfl, ?_⟩
    -- self.program.join_line(statement, parent, side)
    obtain ⟨B2, sB2, x2, new2⟩ := x1.grow s2
    obtain ⟨⟨dr, dp, p, s', pa, si, pt, as, ps, h1, h2, h3, h4, h5, h6, h7, h8, b1, b2, b3, b4, b5, m1, m2, m3, m4⟩, _, _, _⟩ := id x2
    have hlp : as.length = st.prog.length := h6.len
    have x3 := x2.join (l := ⟨h0, pp, ss⟩) h1 h2 h3 (StmAt.same (hg_mono sB2) hS) hz2
    refine ⟨_, rfl, _, _, _, _, _, rfl, h1, T.cl_rdr, T.n_rdr_program, fs_rdr_program, _, _, _, rfl, h2, fs_prg_no_join_line, _, rfl, _, rfl, _, rfl, p, dp, s', pa, si, sp, pp, (ss : Int), rV as, parV st.prog, sidV st.prog, rfl, h2, h3, h4, h5, m1, m2, m3, ?_, ?_, ?_, ?_⟩
    · rw [rV_length, hlp]; omega
    · rw [parV_length]; omega
    · rw [sidV_length]; omega
    generalize hH3 : upd (upd (upd H2 s' (.lst (rV as ++ [.ref sp]))) pa (.lst (parV st.prog ++ [.int pp]))) si (.lst (sidV st.prog ++ [.int (ss : Int)])) = H3
    have x3' : RdrAt G C B2 H3 r { st with prog := st.prog ++ [⟨h0, pp, ss⟩] } := by rw [← hH3]; exact x3
    obtain ⟨⟨dr3, dp3, p3, s3, pa3, si3, pt3, as3, ps3, g1, g2, g3, g4, g5, g6, g7, g8, _⟩, sB3, wf3, sz3⟩ := id x3'
    have pl3 : ps3.length = st.path.length := g8.len
    -- self.path = self.path[:deep]
    refine ⟨_, rfl, _, _, _, _, _, rfl, g1, T.cl_rdr, T.n_rdr_path, fs_rdr_path, _, rfl, _, rfl, _, _, rfl, SqL.of (sB3 _ _ g7), fun c1 hc1 => ?_⟩
    rw [cut_take]
    obtain ⟨B4, sB4, x4, new4⟩ := x3'.grow (Same.new hc1 (.lst ((rV ps3).take d)))
    refine ⟨_, rfl, _, _, _, _, rfl, (Same.new hc1 _ _ _ g1), T.cl_rdr, T.n_rdr_path, (by rw [fs_rdr_len]; decide), ?_⟩
    rw [fs_rdr_put_path]
    have x5 := x4.setPath (Same.new hc1 _ _ _ g1) (pt := c1) (ps := ps3.take d) (path := st.path.take d) (b := st.waits) (by
        refine new4 _ _ hc1 ?_
        rw [upd_same]
        unfold rV
        rw [List.map_take]) ((AllAt.mono (fun a q => sB4 a _) g8).take d) (fun q hq => wf3 q (List.mem_of_mem_take hq)) (by rw [List.length_take]; have := sz.2; omega)
    have hS5 : StmAt C _ sp h0 := StmAt.same ((hg_same _ _).trans x5.same) (StmAt.same (hg_mono sB4) (StmAt.same (hg_mono sB2) hS))
    -- self.waits = statement.is_header()
    obtain ⟨⟨dx5, wr5, nm5, at5, as5, k1, _⟩, _⟩ := id hS5
    refine ⟨_, rfl, _, _, _, rfl, k1, fs_stm_no_is_header, sp, h0, rfl, hS5, ?_⟩
    refine ⟨_, rfl, _, _, _, _, rfl, upd_same, T.cl_rdr, T.n_rdr_waits, (by rw [fs_rdr_len]; decide), ?_⟩
    rw [fs_rdr_put_waits, upd_upd]
    have x6 := x4.setPath (Same.new hc1 _ _ _ g1) (pt := c1) (ps := ps3.take d) (path := st.path.take d) (b := h0.isHead) (by
        refine new4 _ _ hc1 ?_
        rw [upd_same]
        unfold rV
        rw [List.map_take]) ((AllAt.mono (fun a q => sB4 a _) g8).take d) (fun q hq => wf3 q (List.mem_of_mem_take hq)) (by rw [List.length_take]; have := sz.2; omega)
    have res : takeStmt st d t = some ⟨st.prog ++ [⟨h0, pp, ss⟩], st.path.take d ++ (if h0.isHead = true then [(st.prog.length, 0)] else []), h0.isHead⟩ := by
      unfold takeStmt
      rw [hh]
      dsimp only
      rw [if_neg ng, har]
    have sBB := (sB1.trans sB2).trans sB4
    -- if self.waits
    refine ⟨_, rfl, _, _, _, _, _, rfl, upd_same, T.cl_rdr, T.n_rdr_waits, fs_rdr_waits, _, rfl, ?_⟩
    cases hb : h0.isHead with
    | false =>
      refine if_f rfl ?_
      rw [hb] at res x6
      rw [if_neg (by decide), List.append_nil] at res
      exact k.yes res sBB x6
    | true =>
      refine if_t rfl ?_
      rw [hb] at res x6
      rw [if_pos rfl] at res
      obtain ⟨⟨dr6, dp6, p6, s6, pa6, si6, pt6, as6, ps6, q1, q2, q3, q4, q5, q6, q7, q8, _⟩, sB6, wf6, sz6⟩ := id x6
      have pl6 : ps6.length = (st.path.take d).length := q8.len
      have pl7 : (rV ps6).length ≤ 1000 := by rw [rV_length, pl6, List.length_take]; have := wf3; have := sz.2; omega
      refine ⟨_, rfl, _, _, _, _, _, rfl, q1, T.cl_rdr, T.n_rdr_path, fs_rdr_path, _, rfl, (by show 2 ≤ sizeLine; decide), fun c2 hc2 => ⟨(by show 1 ≤ sizeLine; decide), fun c3 hc3 => ?_⟩⟩
      have sN := (Same.new hc2 (.tup [.int (st.prog.length : Int), .int 0])).trans (Same.new hc3 (.lst [.ref c2]))
      refine ⟨_, _, _, _, rfl, rfl, sN _ _ (sB6 _ _ q7), upd_same, Nat.le_trans (show _ ≤ 1001 by simp only [List.length_singleton]; omega) (by decide), fun c4 hc4 => ?_⟩
      have sM := sN.trans (Same.new hc4 (.lst (rV ps6 ++ [.ref c2])))
      obtain ⟨B7, sB7, x7, new7⟩ := x6.grow sM
      refine ⟨_, rfl, _, _, _, _, rfl, (sM _ _ q1), T.cl_rdr, T.n_rdr_path, (by rw [fs_rdr_len]; decide), ?_⟩
      rw [fs_rdr_put_path]
      refine k.yes res (sBB.trans sB7) (x7.setPath (sM _ _ q1) (pt := c4) (ps := ps6 ++ [c2]) (path := st.path.take d ++ [(st.prog.length, 0)]) (b := true) ?_ ?_ ?_ ?_)
      · refine new7 _ _ (sN.free hc4) ?_
        rw [upd_same]
        exact congrArg (fun l => some (HO.lst l)) (rV_app ps6 [c2])
      · refine AllAt.app (AllAt.mono (fun a q => sB7 a _) q8) (AllAt.one (new7 _ _ hc2 ?_))
        exact Same.new hc4 _ _ _ (Same.new hc3 _ _ _ upd_same)
      · intro q hq
        rcases List.mem_append.mp hq with z | z
        · exact wf6 q z
        · rw [List.mem_singleton.mp z, List.length_append]; simp
      · rw [List.length_append, List.length_take]
        simp only [List.length_singleton]
        have := sz.2
        omega
abbrev s_Reader_init : Stmt := inClass (top 40) 0
theorem sc_Reader_init : FnScope ["self"] ["self"] (defScope s_Reader_init) := ⟨rfl, rfl, rfl, by decide +kernel, rfl, by decide +kernel, by decide +kernel⟩
theorem ok_Reader_init (T : Txt K mg C) : OkI P w K mg base C.rdr 3 ["self"] (spRdr C) := by
  have h_Program_init := ok_Program_init (P := P) (w := w) (base := base) T
  obtain ⟨f, fd, hm, F, b⟩ := T.m_Reader_init
  refine ⟨f, fd, hm, b, F.ok sc_Reader_init (fun vs H Q E h => ?_) (fun cdv A outer s H vs Q E hr h => ?_)⟩
  · obtain ⟨r, dx, rfl, _⟩ := h
    rfl
  refine ⟨_, (pss_cons (ps_fld (pv 0) (pe_mk0 h_Program_init (hr.mono (by decide)) (by rfl) T.g_Program) rfl)
        (pss_cons (ps_fld (pv 0) (pe_lst pa_nil) rfl)
        (pss_one (ps_fld (pv 0) pe_bl rfl)))), ?_⟩
  obtain ⟨r, dx, rfl, hr0, k⟩ := h
  intro p dp np nd ne
  refine ⟨p, dp, rfl, upd_same, fun H1 s' pa si ns npa nsi m1 m2 m3 hp h1 h2 h3 kp => ⟨rfl, ?_⟩⟩
  have e0 : ∀ b, (upd (upd H dp (.own p)) p (.ins C.prg dp [])) b = none → H b = none := fun b e => by
    by_cases z : b = p
    · rw [z]; exact np
    · rw [upd_ne z] at e
      by_cases z2 : b = dp
      · rw [z2]; exact nd
      · rw [upd_ne z2] at e; exact e
  have s1 : Same H H1 := made_same np nd kp
  have hr1 := s1 _ _ hr0
  refine ⟨_, rfl, _, _, _, _, rfl, hr1, T.cl_rdr, T.n_rdr_program, (by refine Nat.lt_of_le_of_lt (m := 7) ?_ (by decide); (repeat refine few1 ?_); exact Nat.zero_le _), ?_⟩
  have nrp : r ≠ p := ne_of_none hr0 np
  have nrs : r ≠ s' := ne_of_none hr0 (e0 _ ns)
  have nrpa : r ≠ pa := ne_of_none hr0 (e0 _ npa)
  have nrsi : r ≠ si := ne_of_none hr0 (e0 _ nsi)
  refine ⟨(by show 0 ≤ sizeLine; decide), fun pt hpt => ?_⟩
  have nrpt : r ≠ pt := ne_of_none upd_same hpt
  refine ⟨_, rfl, _, _, _, _, rfl, (Same.new hpt _ _ _ upd_same), T.cl_rdr, T.n_rdr_path, (by refine Nat.lt_of_le_of_lt (m := 7) ?_ (by decide); (repeat refine few1 ?_); exact Nat.zero_le _), ?_⟩
  refine ⟨_, rfl, _, _, _, _, rfl, upd_same, T.cl_rdr, T.n_rdr_waits, (by refine Nat.lt_of_le_of_lt (m := 7) ?_ (by decide); (repeat refine few1 ?_); exact Nat.zero_le _), ?_⟩
  have fs : putF "waits" (.bl false) (putF "path" (.ref pt) (putF "program" (.ref p) [])) = fs_rdr (.ref p) (.ref pt) (.bl false) := fs_rdr_new
  rw [fs, upd_upd]
  have hpt1 : H1 pt = none := by rw [upd_ne nrpt.symm] at hpt; exact hpt
  generalize hHe : upd (upd (upd H1 r (.ins C.rdr dx (putF "program" (.ref p) []))) pt (.lst [])) r (.ins C.rdr dx (fs_rdr (.ref p) (.ref pt) (.bl false))) = He
  have get : ∀ b o, H1 b = some o → b ≠ r → He b = some o := fun b o e ne => by
    rw [← hHe, upd_ne ne, upd_ne (ne_of_none e hpt1), upd_ne ne]
    exact e
  have hpt2 : He pt = some (.lst []) := by rw [← hHe, upd_ne nrpt.symm]; exact upd_same
  have nin : ∀ b o, H b = some o → b ≠ r → b ∉ [r, p, s', pa, si] := fun b o e ne m => by
    simp only [List.mem_cons, List.not_mem_nil, or_false] at m
    rcases m with rfl | rfl | rfl | rfl | rfl
    · exact ne rfl
    · rw [np] at e; cases e
    · rw [e0 _ ns] at e; cases e
    · rw [e0 _ npa] at e; cases e
    · rw [e0 _ nsi] at e; cases e
  have nptin : pt ∉ [r, p, s', pa, si] := fun m => by
    simp only [List.mem_cons, List.not_mem_nil, or_false] at m
    rcases m with rfl | rfl | rfl | rfl | rfl
    · exact nrpt rfl
    · rw [hp] at hpt1; cases hpt1
    · rw [h1] at hpt1; cases hpt1
    · rw [h2] at hpt1; cases hpt1
    · rw [h3] at hpt1; cases hpt1
  refine k (hide He [r, p, s', pa, si]) He (fun b o e ne => ?_) fun G => ⟨⟨dx, dp, p, s', pa, si, pt, [], [], ?_, get _ _ hp nrp.symm, get _ _ h1 nrs.symm, get _ _ h2 nrpa.symm, get _ _ h3 nrsi.symm, trivial, ?_, trivial,
    hide_in (by simp), hide_in (by simp), hide_in (by simp), hide_in (by simp), hide_in (by simp), m1, m2, m3, nrp⟩, hide_same _ _, (fun q hq => by cases hq), (by decide)⟩
  · rw [hide_out (nin b o e ne)]
    exact get _ _ (s1 _ _ e) ne
  · rw [← hHe]; exact upd_same
  · rw [hide_out nptin]; exact hpt2
abbrev s_Reader_take : Stmt := inClass (top 40) 1
theorem sc_Reader_take : FnScope ["self", "row", "deep", "rest"] ["self", "row"] (defScope s_Reader_take) := ⟨rfl, rfl, rfl, by decide +kernel, rfl, by decide +kernel, by decide +kernel⟩
theorem ok_Reader_take (T : Txt K mg C) : OkM P w K mg base C.rdr 8 "take" ["self", "row"] (spTake C) := by
  have h_Reader_take_else := ok_Reader_take_else (P := P) (w := w) (base := base) T
  have h_Reader_take_statement := ok_Reader_take_statement (P := P) (w := w) (base := base) T
  have h_blanks_ahead := ok_blanks_ahead (P := P) (w := w) (base := base) T
  have h_codes := ok_codes (P := P) (w := w) (base := base) T
  obtain ⟨f, fd, hm, F, b⟩ := T.m_Reader_take
  refine ⟨f, fd, hm, b, F.ok sc_Reader_take (fun vs H Q E h => ?_) (fun cdv A outer s H vs Q E hr h => ?_)⟩
  · obtain ⟨G, r, a, B, st, t, rfl, _⟩ := h
    rfl
  refine ⟨_, (pss_cons (ps_set (i := 2) sc_Reader_take.nd rfl (Or.inl rfl) (pe_op op_fdiv (pe_cf h_blanks_ahead (hr.mono (by decide)) (by rfl) (pa_cons (pv 1) pa_nil)) pe_int))
        (pss_cons (ps_set (i := 3) sc_Reader_take.nd rfl (Or.inl rfl) (pe_slice sl_list (pv 1) (po_some (pe_op op_mul pe_int (pv 2))) po_none))
        (pss_cons (ps_if (pt_cmpR op_gt (pv 2) (pe_callB call_len_seq (by rfl) T.len PySem.boot_len (pa_cons (pe_fld (pv 0) rfl) pa_nil)) (nomark _)) (pss_one (ps_ret pe_bl)) pss_nil)
        (pss_cons (ps_if (PW.pt (pw_and (pt_val (pe_fld (pv 0) rfl)) (pw_and1 (pt_cmpR op_lt (pv 2) (pe_callB call_len_seq (by rfl) T.len PySem.boot_len (pa_cons (pe_fld (pv 0) rfl) pa_nil)) (nomark _))))) (pss_one (ps_ret pe_bl)) pss_nil)
        (pss_cons (ps_if (pt_cmpR (op_eqD hr.units) (pv 3) (pe_cf h_codes (hr.mono (by decide)) (by rfl) (pa_cons pe_str pa_nil)) (nomark _)) (pss_one (ps_ret (pe_cm (pv 0) T.cl_rdr h_Reader_take_else (hr.mono (by decide)) (pa_cons (pv 2) pa_nil)))) pss_nil)
        (pss_one (ps_ret (pe_cm (pv 0) T.cl_rdr h_Reader_take_statement (hr.mono (by decide)) (pa_cons (pv 2) (pa_cons (pv 3) pa_nil)))))))))), ?_⟩
  obtain ⟨G, r, a, B, st, t, rfl, hG, x, hrow', hz, hz2, hz3, k⟩ := h
  have hrow : LB B a t := hrow'.same (hg_same _ _)
  have sB := x.same
  -- deep = blanks_ahead(row) // 2
  refine ⟨_, rfl, a, t, rfl, sB _ _ hrow, _, _, rfl, rfl, ⟨by decide, by decide⟩, ?_⟩
  have ed : ((blanks t : Nat) : Int) / 2 = ((blanks t / 2 : Nat) : Int) := by omega
  dsimp only
  rw [ed]
  generalize hd : blanks t / 2 = d
  have dle : 2 * d ≤ t.length := by
    have : blanks t ≤ t.length := by unfold blanks; exact (List.takeWhile_sublist _).length_le
    omega
  -- rest = row[2 * deep:]
  refine ⟨_, rfl, _, rfl, _, _, rfl, rfl, .inl ⟨by decide, by decide⟩, _, rfl, _, _, rfl, SqL.of (sB _ _ hrow), fun rt hrt => ?_⟩
  have e2 : (2 : Int) * (d : Int) = ((2 * d : Nat) : Int) := by omega
  dsimp only
  rw [e2, cut_drop]
  have e3 : (bV t).drop (2 * d) = bV (t.drop (2 * d)) := by unfold bV; rw [List.map_drop]
  rw [e3]
  obtain ⟨B1, sB1, x1, new1⟩ := x.grow (Same.new hrt (.lst (bV (t.drop (2 * d)))))
  have hG1 : ∀ b, G b → upd H rt (.lst (bV (t.drop (2 * d)))) b ≠ none := fun b g e => hG b g ((Same.new hrt _).free e)
  have hrtG : ¬ G rt := fun g => hG rt g hrt
  have hrt1 : LB B1 rt (t.drop (2 * d)) := new1 _ _ hrt upd_same
  have hrt2 : LB (hg G B1) rt (t.drop (2 * d)) := by unfold LB; rw [hg_get hrtG]; exact hrt1
  have k1 := k.of sB1
  obtain ⟨⟨dr, dp, p, s', pa, si, pt, as, ps, h1, h2, h3, h4, h5, h6, h7, h8, b1, b2, b3, b4, b5, m1, m2, m3, m4⟩, sB', wf, sz⟩ := id x1
  have hl : (rV ps).length = st.path.length := by rw [rV_length, h8.len]
  have tk : take st t = (if st.path.length < d then none else if st.waits = true ∧ d < st.path.length then none else if t.drop (2 * d) = elseText then takeElse st d else takeStmt st d (t.drop (2 * d))) := by
    unfold take
    rw [hd]
  -- if deep > len(self.path)
  refine ⟨_, rfl, _, rfl, _, _, _, _, _, rfl, h1, T.cl_rdr, T.n_rdr_path, fs_rdr_path, _, _, rfl, .inl (SqL.of (sB' _ _ h7)), _, _, rfl, rfl, _, rfl, ?_⟩
  rw [hl]
  refine if_d (fun e => ?_) (fun e => ?_)
  · exact k1.no (by rw [tk, if_pos (by omega)]) sB'
  rw [if_neg (by omega)] at tk
  -- if self.waits and deep < len(self.path)
  refine nx_go (?_)
  by_cases ng : st.waits = true ∧ d < st.path.length
  · rw [if_pos ng] at tk
    refine ⟨_, rfl, _, _, _, _, _, rfl, h1, T.cl_rdr, T.n_rdr_waits, fs_rdr_waits, _, rfl, if_t ng.1 ⟨_, rfl, _, rfl, _, _, _, _, _, rfl, h1, T.cl_rdr, T.n_rdr_path, fs_rdr_path, _, _, rfl, .inl (SqL.of (sB' _ _ h7)), _, _, rfl, rfl, _, rfl, if_t (decide_eq_true (by rw [hl]; omega)) ?_⟩⟩
    exact k1.no tk sB'
  rw [if_neg ng] at tk
  refine sq_no ?_ ?_
  · intro Q0 q0
    refine ⟨_, rfl, _, _, _, _, _, rfl, h1, T.cl_rdr, T.n_rdr_waits, fs_rdr_waits, _, rfl, ?_⟩
    cases hb : st.waits with
    | false => exact if_f rfl q0
    | true =>
      refine if_t rfl ⟨_, rfl, _, rfl, _, _, _, _, _, rfl, h1, T.cl_rdr, T.n_rdr_path, fs_rdr_path, _, _, rfl, .inl (SqL.of (sB' _ _ h7)), _, _, rfl, rfl, _, rfl, ?_⟩
      rw [hl, decide_eq_false (by intro z; exact ng ⟨hb, by omega⟩)]
      exact q0
  -- if rest == codes("else:")
  refine ⟨_, rfl, "else:", rfl, by decide, fun ep hep => ?_⟩
  have pl : (Str.ofString "else:").cps.toList = elseText.map UInt8.toNat := by decide
  rw [pl, ← bV_nV]
  refine eq_bytes (SqL.of (Same.new hep _ _ _ (sB' _ _ hrt1))) (SqL.of upd_same) ⟨_, rfl, ?_⟩
  obtain ⟨B2, sB2, x2, new2⟩ := x1.grow (Same.new hep (.lst (bV elseText)))
  have k2 := k1.of sB2
  obtain ⟨⟨dr2, dp2, p2, s2, pa2, si2, pt2, as2, ps2, g1, _⟩, _, _, _⟩ := id x2
  refine if_d (fun e => ?_) (fun e => ?_)
  · rw [if_pos e] at tk
    rw [tk] at k2
    exact ⟨_, rfl, _, _, _, rfl, g1, fs_rdr_no_take_else, _, rfl, G, r, d, B2, st, rfl, x2, k2⟩
  · rw [if_neg e] at tk
    rw [tk] at k2
    refine ⟨_, rfl, _, _, _, rfl, g1, fs_rdr_no_take_statement, _, rfl, _, rfl, G, r, rt, d, B2, st, t.drop (2 * d), rfl, (fun b g e => hG1 b g ((Same.new hep _).free e)), x2, hrt2.same (hg_mono sB2), by rw [List.length_drop]; omega, hz2, hz3, by omega, k2⟩
abbrev s_read_program : Stmt := top 41
theorem sc_read_program : FnScope ["text", "reader", "row"] ["text"] (defScope s_read_program) := ⟨rfl, rfl, rfl, by decide +kernel, rfl, by decide +kernel, by decide +kernel⟩
theorem ok_read_program (T : Txt K mg C) : OkF P w K mg base 9 "read_program" ["text"] (spReadProg C) := by
  have h_Program_many := ok_Program_many (P := P) (w := w) (base := base) T
  have h_Reader_init := ok_Reader_init (P := P) (w := w) (base := base) T
  have h_Reader_take := ok_Reader_take (P := P) (w := w) (base := base) T
  have h_ends_well := ok_ends_well (P := P) (w := w) (base := base) T
  have h_rows_of := ok_rows_of (P := P) (w := w) (base := base) T
  obtain ⟨f, fd, hm, F, b⟩ := T.f_read_program
  refine ⟨f, fd, hm, F.kp, b, F.ok sc_read_program (fun vs H Q E h => ?_) (fun cdv A outer s H vs Q E hr h => ?_)⟩
  · obtain ⟨a, t, rfl, _⟩ := h
    rfl
  refine ⟨_, (pss_cons (ps_if (pt_not (pt_val (pe_cf h_ends_well (hr.mono (by decide)) (by rfl) (pa_cons (pv 0) pa_nil)))) (pss_one (ps_ret pe_non)) pss_nil)
        (pss_cons (ps_set (i := 1) sc_read_program.nd rfl (Or.inl rfl) (pe_mk0 h_Reader_init (hr.mono (by decide)) (by rfl) T.g_Reader))
        (pss_cons (ps_for PassesOwn.never rfl (pi_list (pe_cf h_rows_of (hr.mono (by decide)) (by rfl) (pa_cons (pv 0) pa_nil))) (pg_name (i := 2) sc_read_program.nd rfl (Or.inl rfl)) (pss_one (ps_if (pt_not (pt_val (pe_cm (pv 1) T.cl_rdr h_Reader_take (hr.mono (by decide)) (pa_cons (pv 2) pa_nil)))) (pss_one (ps_ret pe_non)) pss_nil)))
        (pss_cons (ps_if (PW.pt (pw_or (pt_val (pe_fld (pv 1) rfl)) (pw_or1 (pt_cmpR op_gt (pe_cm0 (pe_fld (pv 1) rfl) T.cl_prg h_Program_many (hr.mono (by decide))) (pe_gi rfl T.c_MOST_LINES) (nomark _))))) (pss_one (ps_ret pe_non)) pss_nil)
        (pss_one (ps_ret (pe_fld (pv 1) rfl))))))), ?_⟩
  obtain ⟨a, t, rfl, ha, hz, k⟩ := h
  -- if not ends_well(text)
  refine ⟨_, rfl, a, t, rfl, ha, _, rfl, ?_⟩
  cases ew : endsWell t with
  | false =>
    refine if_t rfl ?_
    have e : readProgram t = none := by unfold readProgram; rw [if_neg (by rw [ew]; decide)]
    rw [e] at k
    exact k H (Same.refl H)
  | true =>
  refine if_f rfl ?_
  have rp : readProgram t = (match takes RS.start (rowsIn t) with
    | none => none
    | some st => if st.waits = true ∨ 14 < st.prog.length then none else some st.prog) := by
    unfold readProgram
    rw [if_pos ew]
    all_goals (cases takes RS.start (rowsIn t) <;> rfl)
  -- reader = Reader()
  intro r dx nr nd ne
  refine ⟨r, dx, rfl, upd_same, fun B1 H1 hB1 x1' => ⟨rfl, ?_⟩⟩
  have x1 := x1' (fun b => H b ≠ none)
  have sB1 : Same H B1 := fun b o e => hB1 b o (by rw [upd_ne (ne_of_none e nr), upd_ne (ne_of_none e nd)]; exact e) (ne_of_none e nr)
  have ha1 := ha.same (sB1.trans x1.same)
  -- for row in rows_of(text)
  refine ⟨_, rfl, a, t, rfl, ha1, hz, fun H2 p s2 mk => ?_⟩
  obtain ⟨B2, sB2, x2, new2⟩ := x1.grow s2
  have sHB := sB1.trans sB2
  have aliveB : ∀ b, H b ≠ none → B2 b ≠ none := fun b hb e => hb (sHB.free e)
  obtain ⟨rs, hp, hrs⟩ := mk (hg (fun b => H b ≠ none) B2) ((hg_same _ _).trans x2.same) (fun b u n e => by
    rw [hg_get (fun g => g ((sB1.trans x1.same).free n))]
    exact new2 b u n e)
  have rlen : (rowsIn t).length ≤ 1000 := by
    unfold rowsIn
    rw [List.length_dropLast]
    have := len_cut 10 t
    omega
  have hp2 := hg_same _ _ _ _ hp
  refine ⟨p, rfl, ⟨_, SqL.of (x2.same _ _ hp2)⟩, for_list (K := K) (a := p) (xs := rV rs) (fun i σ H' => ∃ v B st, σ = [some (.ref a), some (.ref r), v] ∧ Same B2 B ∧ RdrAt (fun b => H b ≠ none) C B H' r st ∧ takes RS.start ((rowsIn t).take i) = some st ∧ st.prog.length ≤ i ∧ st.path.length ≤ st.prog.length)
    ⟨none, B2, RS.start, rfl, Same.refl _, x2, rfl, Nat.le_refl _, Nat.le_refl _⟩ (fun i σ H' _ ⟨_, B, _, _, sb, x, _⟩ => SqL.of (x.same _ _ (sb _ _ hp2))) ?_ ?_⟩
  · rintro i y σ H' hy ⟨v, B, st, rfl, sb, x, tk, l1, l2⟩
    obtain ⟨ra, hra, rfl⟩ := rV_get hy
    obtain ⟨row, hrow, hLB⟩ := hrs.get' hra
    have hlt : i < (rowsIn t).length := (List.getElem?_eq_some_iff.mp hrow).1
    have tk1 : takes RS.start ((rowsIn t).take (i + 1)) = take st row := by
      rw [take_more hrow, takes_append, tk]
      show (match take st row with
        | none => none
        | some st' => takes st' []) = _
      cases take st row <;> rfl
    have rowlen : row.length ≤ 1000 := by
      have h1 : row ∈ cutAt 10 t := by
        have : row ∈ (cutAt 10 t).dropLast := List.mem_of_getElem? hrow
        exact (List.dropLast_sublist _).mem this
      exact Nat.le_trans (len_word 10 t row h1) hz
    obtain ⟨⟨dr, dp, p', s', pa, si, pt, as, ps, h1, _⟩, _, _, _⟩ := id x
    refine ⟨_, rfl, _, _, _, rfl, h1, fs_rdr_no_take, _, rfl, _, r, ra, B, st, row, rfl, (fun b hb e => hb ((sHB.trans (sb.trans x.same)).free e)), x, hLB.same (hg_mono sb), rowlen, by omega, by omega, ?_⟩
    cases e : take st row with
    | none =>
      intro H3 s3
      refine ⟨_, rfl, if_t rfl ?_⟩
      have e2 : takes RS.start (rowsIn t) = none := by
        rw [← List.take_append_drop (i + 1) (rowsIn t), takes_append, tk1, e]
        rfl
      rw [rp, e2] at k
      exact k H3 (sHB.trans (sb.trans s3))
    | some st' =>
      intro B' H3 s3 x3
      refine ⟨_, rfl, if_f rfl ?_⟩
      obtain ⟨q1, q2⟩ := take_len e
      exact ⟨some (.ref ra), B', st', rfl, sb.trans s3, x3, by rw [tk1, e], by omega, q2 l2⟩
  · rintro σ H' ⟨v, B, st, rfl, sb, x, tk, l1, l2⟩
    rw [rV_length, hrs.len, List.take_length] at tk
    rw [rp, tk] at k
    dsimp only at k
    obtain ⟨⟨dr, dp, p', s', pa, si, pt, as, ps, h1, h2, h3, h4, h5, h6, h7, h8, q1, q2, q3, q4, q5, _⟩, sB, wf, sz⟩ := id x
    have sHH : Same H H' := sHB.trans (sb.trans sB)
    have fr : ∀ b o, B b = none → H' b = some o → hg (fun b => H b ≠ none) H' b = some o := fun b o n e => by
      rw [hg_get (fun g => g ((sHB.trans sb).free n))]
      exact e
    refine nx_go' ?_
    refine ⟨_, rfl, _, _, _, _, _, rfl, h1, T.cl_rdr, T.n_rdr_waits, fs_rdr_waits, _, rfl, ?_⟩
    cases hw : st.waits with
    | true =>
      refine if_t rfl (if_t rfl ?_)
      rw [if_pos (.inl hw)] at k
      exact k H' sHH
    | false =>
      refine if_f rfl ⟨_, rfl, _, _, _, _, _, rfl, h1, T.cl_rdr, T.n_rdr_program, fs_rdr_program, _, _, _, rfl, h2, fs_prg_no_many, p', dp, s', _, _, rV as, rfl, h2, h3, _, _, rfl, rfl, _, rfl, ?_⟩
      rw [rV_length, h6.len]
      refine if_d (fun e => ?_) (fun e => ?_)
      · rw [if_pos (.inr (by omega))] at k
        exact k H' sHH
      · rw [if_neg (by rw [hw]; rintro (z | z); (· cases z); (· omega))] at k
        exact ⟨_, rfl, _, _, _, _, _, rfl, h1, T.cl_rdr, T.n_rdr_program, fs_rdr_program, k H' p' sHH ⟨dp, s', pa, si, as, fr _ _ q2 h2, fr _ _ q3 h3, fr _ _ q4 h4, fr _ _ q5 h5, h6.mono fun a l => StmAt.same (hg_mono sB)⟩⟩
end
end Ld
end
section
set_option Elab.async false
set_option maxRecDepth 100000
set_option maxHeartbeats 4000000
namespace Ld
open PySem PySem.Spec PyProof.Rows L2
open Vaslca (Text ascii isName isDigit isSmall numberOf atomOf valueOf cutAt atomText opText relText opOf relOf exprOf condOf indent)
def spAlone (C : Cs) : Sp := fun vs H Q _ => ∃ (p a : Addr) (P : List PL) (ls : List Nat), vs = [.ref p, .ref a] ∧ PrgAt C H p P ∧ H a = some (.lst (nV ls)) ∧ (∀ n ∈ ls, n < P.length) ∧ ls.length ≤ 1000 ∧ ∀ D, H D = none → Q (.ref D) (upd H D (.lst (nV (aloneL P ls))))
def spOneRow : Sp := fun vs H Q _ => ∃ (d : Nat) (a : Addr) (t : Text), vs = [.int (d : Int), .ref a] ∧ LB H a t ∧ d ≤ 1000 ∧ t.length ≤ 1000 ∧ ∀ H' D, Same H H' → H D = none → LB H' D (rowText d t) → Q (.ref D) H'
def spTextOf (C : Cs) : Sp := fun vs H Q _ => ∃ (p a : Addr) (P : List PL) (A : Nat → List Nat) (ls : List Nat), vs = [.ref p, .ref a] ∧ PrgAt C H p P ∧ H a = some (.lst (nV ls)) ∧ (∀ n ∈ ls, n < P.length) ∧ ls.length ≤ 1000 ∧ Arounds P A ∧ (∀ n, n < P.length → (A n).length ≤ 1000) ∧ (∀ l ∈ P, l.head.text.length ≤ 1000) ∧ (∀ n l, P[n]? = some l → l.side = 1 → 1 ≤ (A n).length) ∧
  ∀ H' D, Same H H' → LB H' D (textL P A ls) → Q (.ref D) H'
theorem sq_asg {te : TE} {g : TG} {u : TS} {D : Ends} {σ : L2.St} {H : Hp} (h : te σ H fun x H1 => g x σ H1 (u D)) : tSeq (tAsg te g) u D σ H := h
theorem flat_nV (l : List Nat) : (nV l).all flatV = true := by
  unfold nV
  rw [List.all_map, List.all_eq_true]
  intro x _
  rfl
theorem flat_iV (l : List Int) : (iV l).all flatV = true := by
  unfold iV
  rw [List.all_map, List.all_eq_true]
  intro x _
  rfl
theorem inV_iV (x : Int) (l : List Int) : inV (.int x) (iV l) = l.any fun y => y == x := by
  unfold inV iV
  rw [List.any_map]
  rfl
theorem inV_nV (x : Int) (l : List Nat) : inV (.int x) (nV l) = l.any fun y : Nat => decide ((y : Int) = x) := by
  unfold inV nV
  rw [List.any_map]
  rfl
theorem aloneL_le (P : List PL) (ls : List Nat) : (aloneL P ls).length ≤ ls.length := by
  have : ∀ (ls left : List Nat), (ls.foldl (fun left n => if keepL P left n = true then left ++ [n] else left) left).length ≤ left.length + ls.length := by
    intro ls
    induction ls with
    | nil => intro left; exact Nat.le_refl _
    | cons n r ih =>
      intro left
      rw [List.foldl_cons, List.length_cons]
      refine Nat.le_trans (ih _) ?_
      split
      · rw [List.length_append]; simp only [List.length_singleton]; omega
      · omega
  exact Nat.le_trans (this ls []) (by simp)
theorem foldl_take {α β : Type} (f : β → α → β) (b : β) {l : List α} {i : Nat} {x : α} (h : l[i]? = some x) : (l.take (i + 1)).foldl f b = f ((l.take i).foldl f b) x := by
  rw [take_more h, List.foldl_append]
  rfl
theorem stepText_len (P : List PL) (A : Nat → List Nat) (hA : ∀ n, n < P.length → (A n).length ≤ 1000) (hP : ∀ l ∈ P, l.head.text.length ≤ 1000) (n : Nat) (s : Text × List Int) :
    (stepText P A s n).1.length ≤ s.1.length + 6100 ∧ (stepText P A s n).2.length ≤ s.2.length + 1 := by
  have rl : ∀ (d : Nat) (t : Text), (rowText d t).length = 2 * d + t.length + 1 := fun d t => by
    unfold rowText Vaslca.indent
    simp
    omega
  unfold stepText
  cases e : P[n]? with
  | none => simp
  | some l =>
    have h1 := hA n (List.getElem?_eq_some_iff.mp e).1
    have h2 := hP l (List.mem_of_getElem? e)
    have h3 : elseText.length = 5 := by decide
    dsimp only
    split
    · simp only [List.length_append, rl, h3, List.length_singleton]
      omega
    · simp only [List.length_append, rl]
      omega
theorem foldText_len (P : List PL) (A : Nat → List Nat) (hA : ∀ n, n < P.length → (A n).length ≤ 1000) (hP : ∀ l ∈ P, l.head.text.length ≤ 1000) : ∀ (ls : List Nat) (s : Text × List Int),
    (ls.foldl (stepText P A) s).1.length ≤ s.1.length + 6100 * ls.length ∧ (ls.foldl (stepText P A) s).2.length ≤ s.2.length + ls.length
  | [], s => by simp
  | n :: r, s => by
    have h1 := stepText_len P A hA hP n s
    have h2 := foldText_len P A hA hP r (stepText P A s n)
    rw [List.foldl_cons, List.length_cons]
    omega
section
variable {P : Program} {w : World} {K : PySem.W.Frag} {mg : Str → Option Value} {base : Heap} {C : Cs}
abbrev s_alone : Stmt := top 42
theorem sc_alone : FnScope ["program", "lines", "left", "line", "parent"] ["program", "lines"] (defScope s_alone) := ⟨rfl, rfl, rfl, by decide +kernel, rfl, by decide +kernel, by decide +kernel⟩
theorem ok_alone (T : Txt K mg C) : OkF P w K mg base 1 "alone" ["program", "lines"] (spAlone C) := by
  obtain ⟨f, fd, hm, F, b⟩ := T.f_alone
  refine ⟨f, fd, hm, F.kp, b, F.ok sc_alone (fun vs H Q E h => ?_) (fun cdv A outer s H vs Q E hr h => ?_)⟩
  · obtain ⟨p, a, P, ls, rfl, _⟩ := h
    rfl
  refine ⟨_, (pss_cons (ps_set (i := 2) sc_alone.nd rfl (Or.inl rfl) (pe_lst pa_nil))
        (pss_cons (ps_for PassesOwn.never rfl (pi_list (pv 1)) (pg_name (i := 3) sc_alone.nd rfl (Or.inl rfl)) (pss_cons (ps_set (i := 4) sc_alone.nd rfl (Or.inl rfl) (pe_ix ix_list (pe_fld (pv 0) rfl) (pv 3) (fun _ _ => rfl)))
        (pss_one (ps_if (PW.pt (pw_or (pt_cmpR op_eq (pv 4) (pe_un un_neg pe_int) (nomark _)) (pw_or1 (pt_cmpR op_in_seq (pv 4) (pv 2) (by rfl))))) (pss_one (ps_expr (pe_bm PySem.F.plainAttrs_list PySem.F.slot_list_append PySem.F.type_list_append mt_append (pv 2) (pa_cons (pv 3) pa_nil)))) pss_nil))))
        (pss_one (ps_ret (pv 2))))), ?_⟩
  obtain ⟨p, a, P0, ls, rfl, ⟨dx, s', pa, si, as, hp, h1, h2, h3, h4⟩, ha, hb, hz, k⟩ := h
  refine ⟨(by show 0 ≤ sizeLine; decide), fun D hD => ?_⟩
  have ne : ∀ b o, H b = some o → b ≠ D := fun b o e => ne_of_none e hD
  have sm : ∀ o, Same H (upd H D o) := fun o => Same.new hD o
  refine ⟨_, rfl, a, rfl, ⟨_, SqL.of (sm _ _ _ ha)⟩, for_list (K := K) (a := a) (xs := nV ls) (fun i σ H' => ∃ v v2, σ = [some (.ref p), some (.ref a), some (.ref D), v, v2] ∧ H' = upd H D (.lst (nV (aloneL P0 (ls.take i)))))
    ⟨none, none, rfl, rfl⟩ (fun i σ H' _ ⟨_, _, _, e⟩ => by rw [e]; exact SqL.of (sm _ _ _ ha)) ?_ ?_⟩
  · rintro i x σ H' hx ⟨v, v2, rfl, rfl⟩
    obtain ⟨n, hn, rfl⟩ := nV_get hx
    have hlt : n < P0.length := hb n (List.mem_of_getElem? hn)
    obtain ⟨l, hl⟩ : ∃ l, P0[n]? = some l := ⟨_, List.getElem?_eq_getElem hlt⟩
    have hilt : i < ls.length := (List.getElem?_eq_some_iff.mp hn).1
    have step : aloneL P0 (ls.take (i + 1)) = (if keepL P0 (aloneL P0 (ls.take i)) n = true then aloneL P0 (ls.take i) ++ [n] else aloneL P0 (ls.take i)) := by
      unfold aloneL
      rw [foldl_take _ _ hn]
    have kp : keepL P0 (aloneL P0 (ls.take i)) n = (decide (l.parent = -1) || (aloneL P0 (ls.take i)).any fun y : Nat => decide ((y : Int) = l.parent)) := by unfold keepL; rw [hl]
    have len1 : (nV (aloneL P0 (ls.take i))).length < sizeLine := by
      rw [nV_length]
      have := aloneL_le P0 (ls.take i)
      rw [List.length_take] at this
      exact small1000 (by omega)
    -- parent = program.parents[line]
    refine ⟨_, rfl, _, _, _, _, _, rfl, (sm _ _ _ hp), T.cl_prg, T.n_prg_parents, fs_prg_parents, _, rfl, _, _, _, _, rfl, rfl, SqL.of (sm _ _ _ h2), parV_at hl, ?_⟩
    refine ⟨_, rfl, _, rfl, rfl, _, rfl, ?_⟩
    have grow : keepL P0 (aloneL P0 (ls.take i)) n = true → ∃ v v2, [some (V.ref p), some (V.ref a), some (V.ref D), some (V.int (n : Int)), some (V.int l.parent)] = [some (.ref p), some (.ref a), some (.ref D), v, v2] ∧ upd (upd H D (.lst (nV (aloneL P0 (ls.take i))))) D (.lst (nV (aloneL P0 (ls.take i)) ++ [.int (n : Int)])) = upd H D (.lst (nV (aloneL P0 (ls.take (i + 1))))) := fun z => by
      refine ⟨_, _, rfl, ?_⟩
      rw [upd_upd, step, if_pos z]
      unfold nV
      rw [List.map_append]
      rfl
    have e1 : decide (V.int l.parent = V.int (-1)) = decide (l.parent = -1) := decide_eq_decide.mpr ⟨fun z => V.int.inj z, fun z => by rw [z]⟩
    show (if decide (V.int l.parent = V.int (-1)) = true then _ else _)
    rw [e1]
    refine if_d (fun e => ?_) (fun e => ?_)
    · refine if_t rfl ⟨_, rfl, .inl ⟨rfl, _, SqL.of upd_same⟩, _, rfl, _, _, _, rfl, rfl, upd_same, len1, ?_⟩
      exact grow (by rw [kp, decide_eq_true e, Bool.true_or])
    · refine ⟨_, rfl, _, rfl, D, _, rfl, .inl (SqL.of upd_same), rfl, flat_nV _, _, rfl, ?_⟩
      rw [inV_nV]
      show (if (aloneL P0 (ls.take i)).any (fun y : Nat => decide ((y : Int) = l.parent)) = true then _ else _)
      rw [decide_eq_false e, Bool.false_or] at kp
      rw [← kp]
      refine if_b (fun e => ?_) (fun e => ?_)
      · refine ⟨_, rfl, .inl ⟨rfl, _, SqL.of upd_same⟩, _, rfl, _, _, _, rfl, rfl, upd_same, len1, ?_⟩
        exact grow e
      · exact ⟨_, _, rfl, by rw [step, if_neg (by rw [e]; decide)]⟩
  · rintro σ H' ⟨v, v2, rfl, rfl⟩
    rw [nV_length, List.take_length]
    exact ⟨_, rfl, k D hD⟩
abbrev s_one_row : Stmt := top 43
theorem sc_one_row : FnScope ["deep", "written", "blanks", "place"] ["deep", "written"] (defScope s_one_row) := ⟨rfl, rfl, rfl, by decide +kernel, rfl, by decide +kernel, by decide +kernel⟩
theorem ok_one_row (T : Txt K mg C) : OkF P w K mg base 1 "one_row" ["deep", "written"] (spOneRow) := by
  obtain ⟨f, fd, hm, F, b⟩ := T.f_one_row
  refine ⟨f, fd, hm, F.kp, b, F.ok sc_one_row (fun vs H Q E h => ?_) (fun cdv A outer s H vs Q E hr h => ?_)⟩
  · obtain ⟨d, a, t, rfl, _⟩ := h
    rfl
  refine ⟨_, (pss_cons (ps_setLc (i := 2) (own := [("place", 3)]) (g := gName 3) rfl sc_one_row.nd rfl rfl (sw_true rfl rfl rfl (by decide +kernel)) (pi_range1 (by rfl) T.range (pa_cons (pe_op op_mul pe_int (pv 0)) pa_nil)) (blkOk_by (own := [("place", 3)]) (N := ["deep", "written", "blanks", "place"]) (sc := defScope s_one_row) (by decide +kernel)) (fun _ _ _ _ _ => pg_name (i := 3) sc_one_row.nd rfl (Or.inl rfl)) (fun _ _ _ _ _ => pts_nil) (fun _ _ _ _ _ => (pe_gi rfl T.c_BLANK)))
        (pss_one (ps_ret (pe_op op_cat (pe_op op_cat (pv 2) (pe_callTy call_list_of (by rfl) T.list (by decide +kernel) (pa_cons (pv 1) pa_nil))) (pe_lst (pa_cons (pe_gi rfl T.c_END) pa_nil)))))), ?_⟩
  obtain ⟨d, a, t, rfl, ha, hd, hz, k⟩ := h
  refine sq_asg ?_
  refine lc_rg (n := 2 * d) (fun n => V.int 32) (fun _ => true) (fun Q' q => ⟨_, rfl, _, _, rfl, rfl, .inl ⟨by decide, by decide⟩, (by
      show Q' [V.int (2 * (d : Int))] H
      rw [show 2 * (d : Int) = ((2 * d : Nat) : Int) by omega]
      exact q)⟩) (Nat.le_trans (show 2 * d ≤ 2000 by omega) (by decide)) (fun v => rfl)
    (fun n hn H' s2 => fun Q q => q) (fun n hn _ H' s2 => val_c) fun D hD => ?_
  have e : ((List.range (2 * d)).filter fun _ => true).map (fun n : Nat => V.int 32) = bV (indent d) := by
    unfold bV indent
    rw [List.filter_eq_self.mpr (fun _ _ => rfl), List.map_replicate]
    apply List.ext_getElem
    · simp
    · intro i h1 h2; simp
  rw [e]
  have s1 := Same.new hD (.lst (bV (indent d)))
  have li : (bV (indent d)).length = 2 * d := by rw [bV_length]; simp [indent]
  refine ⟨_, rfl, _, rfl, a, _, rfl, .inl (SqL.of (s1 _ _ ha)), fun c1 hc1 => ?_⟩
  refine ⟨_, _, _, _, rfl, rfl, Same.new hc1 _ _ _ upd_same, upd_same, ?_, fun c2 hc2 => ?_⟩
  · rw [li, bV_length]; exact Nat.le_trans (show _ ≤ 3000 by omega) (by decide)
  refine ⟨(by show 1 ≤ sizeLine; decide), fun c3 hc3 => ?_⟩
  refine ⟨_, _, _, _, rfl, rfl, Same.new hc3 _ _ _ upd_same, upd_same, ?_, fun c4 hc4 => ?_⟩
  · rw [List.length_append, li, bV_length]; exact Nat.le_trans (show _ ≤ 3001 by simp only [List.length_singleton]; omega) (by decide)
  have sA := s1.trans ((Same.new hc1 _).trans ((Same.new hc2 _).trans (Same.new hc3 (.lst [.int 10]))))
  refine k _ c4 (sA.trans (Same.new hc4 _)) (sA.free hc4) ?_
  unfold LB rowText
  rw [upd_same]
  unfold bV
  rw [List.map_append, List.map_append, List.append_assoc]
  rfl
abbrev s_text_of : Stmt := top 44
theorem sc_text_of : FnScope ["program", "lines", "out", "begun", "line", "parent", "deep"] ["program", "lines"] (defScope s_text_of) := ⟨rfl, rfl, rfl, by decide +kernel, rfl, by decide +kernel, by decide +kernel⟩
theorem ok_text_of (T : Txt K mg C) : OkF P w K mg base 2 "text_of" ["program", "lines"] (spTextOf C) := by
  have h_Program_depth := ok_Program_depth (P := P) (w := w) (base := base) T
  have h_codes := ok_codes (P := P) (w := w) (base := base) T
  have h_one_row := ok_one_row (P := P) (w := w) (base := base) T
  obtain ⟨f, fd, hm, F, b⟩ := T.f_text_of
  refine ⟨f, fd, hm, F.kp, b, F.ok sc_text_of (fun vs H Q E h => ?_) (fun cdv A outer s H vs Q E hr h => ?_)⟩
  · obtain ⟨p, a, P, A, ls, rfl, _⟩ := h
    rfl
  refine ⟨_, (pss_cons (ps_set (i := 2) sc_text_of.nd rfl (Or.inl rfl) (pe_lst pa_nil))
        (pss_cons (ps_set (i := 3) sc_text_of.nd rfl (Or.inl rfl) (pe_lst pa_nil))
        (pss_cons (ps_for PassesOwn.never rfl (pi_list (pv 1)) (pg_name (i := 4) sc_text_of.nd rfl (Or.inl rfl)) (pss_cons (ps_set (i := 5) sc_text_of.nd rfl (Or.inl rfl) (pe_ix ix_list (pe_fld (pv 0) rfl) (pv 4) (fun _ _ => rfl)))
        (pss_cons (ps_set (i := 6) sc_text_of.nd rfl (Or.inl rfl) (pe_cm (pv 0) T.cl_prg h_Program_depth (hr.mono (by decide)) (pa_cons (pv 4) pa_nil)))
        (pss_cons (ps_if (PW.pt (pw_and (pt_cmpR op_eq (pe_ix ix_list (pe_fld (pv 0) rfl) (pv 4) (fun _ _ => rfl)) pe_int (nomark _)) (pw_and1 (pt_cmpR op_notIn_seq (pv 5) (pv 3) (by rfl))))) (pss_cons (ps_expr (pe_bm PySem.F.plainAttrs_list PySem.F.slot_list_append PySem.F.type_list_append mt_append (pv 3) (pa_cons (pv 5) pa_nil)))
        (pss_one (ps_expr (pe_bm PySem.F.plainAttrs_list PySem.F.slot_list_extend PySem.F.type_list_extend mt_extend (pv 2) (pa_cons (pe_cf h_one_row (hr.mono (by decide)) (by rfl) (pa_cons (pe_op op_sub (pv 6) pe_int) (pa_cons (pe_cf h_codes (hr.mono (by decide)) (by rfl) (pa_cons pe_str pa_nil)) pa_nil))) pa_nil))))) pss_nil)
        (pss_one (ps_expr (pe_bm PySem.F.plainAttrs_list PySem.F.slot_list_extend PySem.F.type_list_extend mt_extend (pv 2) (pa_cons (pe_cf h_one_row (hr.mono (by decide)) (by rfl) (pa_cons (pv 6) (pa_cons (pe_fld (pe_ix ix_list (pe_fld (pv 0) rfl) (pv 4) (fun _ _ => rfl)) rfl) pa_nil))) pa_nil))))))))
        (pss_one (ps_ret (pv 2)))))), ?_⟩
  obtain ⟨p, a, P0, A0, ls, rfl, hPr, ha, hb, hz, hA, hA2, hP2, hS2, k⟩ := h
  refine ⟨(by show 0 ≤ sizeLine; decide), fun D hD => ⟨(by show 0 ≤ sizeLine; decide), fun G hG => ?_⟩⟩
  have hDG : D ≠ G := ne_of_none upd_same hG
  have hG0 : H G = none := (Same.new hD _).free hG
  let st := fun i => (ls.take i).foldl (stepText P0 A0) ([], [])
  have slen := fun i => foldText_len P0 A0 hA2 hP2 (ls.take i) ([], [])
  refine ⟨_, rfl, a, rfl, ⟨_, SqL.of ((Same.new hD (.lst [])).trans (Same.new hG (.lst [])) _ _ ha)⟩, for_list (K := K) (a := a) (xs := nV ls) (fun i σ H' => ∃ v1 v2 v3, σ = [some (.ref p), some (.ref a), some (.ref D), some (.ref G), v1, v2, v3] ∧ Same H H' ∧ H' D = some (.lst (bV (st i).1)) ∧ H' G = some (.lst (iV (st i).2)))
    ⟨none, none, none, rfl, (Same.new hD _).trans (Same.new hG _), by rw [upd_ne hDG]; exact upd_same, upd_same⟩ (fun i σ H' _ ⟨_, _, _, _, s1, _⟩ => SqL.of (s1 _ _ ha)) ?_ ?_⟩
  · rintro i x σ H' hx ⟨v1, v2, v3, rfl, s1, hD1, hG1⟩
    obtain ⟨n, hn, rfl⟩ := nV_get hx
    have hlt : n < P0.length := hb n (List.mem_of_getElem? hn)
    obtain ⟨l, hl⟩ : ∃ l, P0[n]? = some l := ⟨_, List.getElem?_eq_getElem hlt⟩
    have hilt : i < ls.length := (List.getElem?_eq_some_iff.mp hn).1
    have step : st (i + 1) = stepText P0 A0 (st i) n := foldl_take _ _ hn
    obtain ⟨dx, s', pa, si, as, hp, h1, h2, h3, h4⟩ := id (hPr.same s1)
    have sl := slen i
    rw [List.length_take, Nat.min_eq_left (by omega)] at sl
    have sl1 : (st i).1.length ≤ 6100 * i := by simpa using sl.1
    have sl2 : (st i).2.length ≤ i := by simpa using sl.2
    have dl := hA2 n hlt
    have tl := hP2 l (List.mem_of_getElem? hl)
    -- parent, deep
    refine ⟨_, rfl, _, _, _, _, _, rfl, hp, T.cl_prg, T.n_prg_parents, fs_prg_parents, _, rfl, _, _, _, _, rfl, rfl, SqL.of h2, parV_at hl, ?_⟩
    refine ⟨_, rfl, _, _, _, rfl, hp, fs_prg_no_depth, _, rfl, p, P0, A0, n, rfl, hPr.same s1, hlt, hA, ?_⟩
    -- the line's own row, at last
    have last : ∀ (H2 : Hp) (o : Text) (g : List Int), Same H H2 → H2 D = some (.lst (bV o)) → H2 G = some (.lst (iV g)) → o.length ≤ 6100 * i + 2006 → stepText P0 A0 (st i) n = (o ++ rowText (A0 n).length l.head.text, g) →
        tDrop (tBM K "list" rExtend (tVar 2) (tCons (tCall spOneRow [] E0 (tCons (tVar 6) (tCons (tFld K (tOp (rIxL K) (tFld K (tVar 0) "statements") (tVar 4)) "written") tNil))) tNil))
          { nx := fun σ H' => ∃ v1 v2 v3, σ = [some (.ref p), some (.ref a), some (.ref D), some (.ref G), v1, v2, v3] ∧ Same H H' ∧ H' D = some (.lst (bV (st (i + 1)).1)) ∧ H' G = some (.lst (iV (st (i + 1)).2)), rt := Q }
          [some (.ref p), some (.ref a), some (.ref D), some (.ref G), some (.int (n : Int)), some (.int l.parent), some (.int ((A0 n).length : Nat))] H2 := by
      intro H2 o g s2 hD2 hG2 hol hst
      obtain ⟨dx, s', pa, si, as, hp, h1, h2, h3, h4⟩ := id (hPr.same s2)
      obtain ⟨la, hla, ⟨dxs, wr, nm, at', as2, g1, g2, _⟩, _⟩ := h4.get hl
      refine ⟨_, rfl, .inl ⟨rfl, _, SqL.of hD2⟩, _, rfl, _, rfl, _, _, _, _, _, rfl, hp, T.cl_prg, T.n_prg_statements, fs_prg_statements, _, rfl, _, _, _, _, rfl, rfl, SqL.of h1, atI_n (rV_at hla), _, _, _, _, _, rfl, g1, T.cl_stm, T.n_stm_written, fs_stm_written, (A0 n).length, wr, l.head.text, rfl, g2, dl, tl, fun H3 D3 s3 n3 hD3 => ?_⟩
      have hD4 := s3 _ _ hD2
      have hl1 : (rowText (A0 n).length l.head.text).length ≤ 3001 := by unfold rowText Vaslca.indent; simp; omega
      refine ⟨_, _, _, _, rfl, rfl, hD4, hD3, ?_, ?_⟩
      · rw [bV_length, bV_length]
        refine Nat.le_trans (show _ ≤ 6110000 by omega) (by decide)
      · have hGD : G ≠ D := hDG.symm
        refine ⟨_, _, _, rfl, (s2.trans s3).put hD _, ?_, ?_⟩
        · rw [upd_same, step, hst]
          unfold bV
          rw [List.map_append]
        · rw [upd_ne hGD, step, hst]
          exact s3 _ _ hG2
    -- if program.sides[line] == 1 and parent not in begun
    have tst : ∀ Q0 : Bool → Hp → Prop, Q0 (decide (l.side = 1) && !((st i).2.any fun y => y == l.parent)) H' → tAnd (tTest (tOp rEq (tOp (rIxL K) (tFld K (tVar 0) "sides") (tVar 4)) (tC (.int 1)))) (tTest (tOp (rIn K true) (tVar 5) (tVar 3)))
        [some (.ref p), some (.ref a), some (.ref D), some (.ref G), some (.int (n : Int)), some (.int l.parent), some (.int ((A0 n).length : Nat))] H' Q0 := by
      refine fun Q0 q0 => ans_and2 (b1 := decide (l.side = 1)) (b2 := !((st i).2.any fun y => y == l.parent)) (ans_eq (val_ix (val_fld (val_var rfl) hp T.cl_prg T.n_prg_sides fs_prg_sides) (val_var rfl) (SqL.of h3) (sidV_at hl)) val_c rfl ?_) (fun Q1 q1 => ?_) Q0 q0
      · exact decide_eq_decide.mpr ⟨fun z => by have := V.int.inj z; omega, fun z => by rw [z]; rfl⟩
      · refine ⟨_, rfl, _, rfl, G, _, rfl, .inl (SqL.of hG1), rfl, flat_iV _, _, rfl, ?_⟩
        rw [inV_iV]
        exact q1
    refine tst _ ?_
    have mem : ((st i).2.any fun y => y == l.parent) = decide (l.parent ∈ (st i).2) := by
      by_cases z : l.parent ∈ (st i).2
      · rw [decide_eq_true z, List.any_eq_true]; exact ⟨_, z, by simp⟩
      · rw [decide_eq_false z, List.any_eq_false]; intro y hy e; exact z (by rw [← eq_of_beq e]; exact hy)
    have st0 : stepText P0 A0 (st i) n = (if l.side = 1 ∧ ¬ l.parent ∈ (st i).2 then ((st i).1 ++ rowText ((A0 n).length - 1) elseText ++ rowText (A0 n).length l.head.text, (st i).2 ++ [l.parent]) else ((st i).1 ++ rowText (A0 n).length l.head.text, (st i).2)) := by
      unfold stepText
      rw [hl]
    rw [mem]
    refine if_b (fun e => ?_) (fun e => ?_)
    · have e' : l.side = 1 ∧ ¬ l.parent ∈ (st i).2 := by simpa using e
      rw [if_pos e'] at st0
      have deep1 : 1 ≤ (A0 n).length := hS2 n l hl e'.1
      refine ⟨_, rfl, .inl ⟨rfl, _, SqL.of hG1⟩, _, rfl, _, _, _, rfl, rfl, hG1, (by unfold iV; rw [List.length_map]; exact small1000 (by omega)), ?_⟩
      have hD5 : (upd H' G (.lst (iV (st i).2 ++ [.int l.parent]))) D = some (.lst (bV (st i).1)) := by rw [upd_ne hDG]; exact hD1
      have s5 : Same H (upd H' G (.lst (iV (st i).2 ++ [.int l.parent]))) := s1.put hG0 _
      refine ⟨_, rfl, .inl ⟨rfl, _, SqL.of hD5⟩, _, rfl, _, _, rfl, rfl, "else:", rfl, by decide, fun ep hep => ?_⟩
      have pl : (Str.ofString "else:").cps.toList = elseText.map UInt8.toNat := by decide
      rw [pl, ← bV_nV]
      refine ⟨(A0 n).length - 1, ep, elseText, ?_, upd_same, by omega, by decide, fun H6 D6 s6 n6 hD6 => ?_⟩
      · show [V.int (((A0 n).length : Nat) - 1 : Int), V.ref ep] = _
        rw [show (((A0 n).length : Nat) : Int) - 1 = (((A0 n).length - 1 : Nat) : Int) by omega]
      have s56 := (Same.new hep (.lst (bV elseText))).trans s6
      have hl2 : (rowText ((A0 n).length - 1) elseText).length ≤ 2006 := by
        unfold rowText Vaslca.indent
        have : elseText.length = 5 := by decide
        simp [this]
        omega
      refine ⟨_, _, _, _, rfl, rfl, s56 _ _ hD5, hD6, ?_, ?_⟩
      · rw [bV_length, bV_length]
        exact Nat.le_trans (show _ ≤ 6110000 by omega) (by decide)
      have hGD : G ≠ D := hDG.symm
      refine nx_go' (last _ ((st i).1 ++ rowText ((A0 n).length - 1) elseText) ((st i).2 ++ [l.parent]) ((s5.trans s56).put hD _) ?_ ?_ ?_ st0)
      · rw [upd_same]
        unfold bV
        rw [List.map_append]
      · rw [upd_ne hGD, s56 _ _ upd_same]
        unfold iV
        rw [List.map_append]
        rfl
      · rw [List.length_append]
        omega
    · have e' : ¬ (l.side = 1 ∧ ¬ l.parent ∈ (st i).2) := by intro z; simp [z.1, z.2] at e
      rw [if_neg e'] at st0
      exact last H' _ _ s1 hD1 hG1 (by omega) st0
  · rintro σ H' ⟨v1, v2, v3, rfl, s1, hD1, hG1⟩
    rw [nV_length] at hD1
    have e : (st ls.length).1 = textL P0 A0 ls := by show ((ls.take ls.length).foldl (stepText P0 A0) ([], [])).1 = _; rw [List.take_length]; rfl
    rw [e] at hD1
    exact ⟨_, rfl, k _ _ s1 hD1⟩
end
end Ld
end
section
set_option Elab.async false
set_option maxRecDepth 100000
set_option maxHeartbeats 4000000
namespace Ld
open PySem PySem.Spec PyProof.Rows L2
open Vaslca (Text ascii isName isDigit isSmall isAtom isExpr isCond numberOf atomOf valueOf decimal cutAt atomText findVar atomValue exprValue condValue withStep withVar doSet doRead doWrite doStop doTest exec rounds held lastOf only runOf statusNumber linesOf deepOf)
abbrev VRun := Vaslca.Run
abbrev VStep := Vaslca.Step
/-! ### a Run -/
def keyOf (t : Text) : List Key := t.map fun b : UInt8 => Sum.inl (b.toNat : Int)
theorem keyOf_kV (t : Text) : (keyOf t).map kV = bV t := by unfold keyOf bV; rw [List.map_map]; rfl
theorem keyOf_inj : ∀ {s t : Text}, keyOf s = keyOf t → s = t
  | [], [], _ => rfl
  | [], _ :: _, h => by cases h
  | _ :: _, [], h => by cases h
  | a :: s, b :: t, h => by
    have h' := List.cons.inj (show (Sum.inl (a.toNat : Int) : Key) :: keyOf s = Sum.inl (b.toNat : Int) :: keyOf t from h)
    have e1 : a = b := UInt8.toNat.inj (by have := Sum.inl.inj h'.1; omega)
    rw [e1, keyOf_inj h'.2]
def letV : Option Nat → V
  | none => .int (-1)
  | some k => .int (k : Int)
def StepAt (B : Hp) (a : Addr) (s : VStep) : Prop := ∃ (f : Addr) (fs : List Nat), B a = some (.tup [.int (s.line : Int), .int (s.value : Int), .ref f]) ∧ B f = some (.lst (nV fs)) ∧ ∀ k, k ∈ fs ↔ k ∈ srcs s
theorem StepAt.same {B B' : Hp} (sm : Same B B') {a : Addr} {s : VStep} (h : StepAt B a s) : StepAt B' a s := by
  obtain ⟨f, fs, h1, h2, h3⟩ := h
  exact ⟨f, fs, sm _ _ h1, sm _ _ h2, h3⟩
structure RunAt (C : Cs) (B H : Hp) (r : Addr) (P : List PL) (d l : List Nat) (x : VRun) : Prop where
  ex : ∃ (dr p da li s c rd : Addr) (ts : List Addr) (kvs : List (List Key × V)) (rs : List Nat), H r = some (.ins C.run dr (fs_run (.ref p) (.ref da) (.ref li) (.ref s) (.ref c) (.ref rd) (.int (statusNumber x.status : Nat)))) ∧
    PrgAt C B p P ∧ B da = some (.lst (nV d)) ∧ B li = some (.lst (nV l)) ∧ H s = some (.lst (rV ts)) ∧ AllAt (StepAt B) ts x.steps ∧ H c = some (.dT kvs) ∧ (∀ t, valV kvs (keyOf t) = (findVar x t).map fun y => V.int (y.src : Nat)) ∧ kvs.length ≤ x.steps.length ∧
    H rd = some (.lst (nV rs)) ∧ x.input = d.drop rs.length ∧ x.read = rs.getLast? ∧ rs.length ≤ x.steps.length ∧ B r = none ∧ B s = none ∧ B c = none ∧ B rd = none ∧ s ≠ rd
  same : Same B H
  ok : RunOk x
theorem RunAt.grow {C : Cs} {B H H1 : Hp} {r : Addr} {P : List PL} {d l : List Nat} {x : VRun} (R : RunAt C B H r P d l x) (sm : Same H H1) : ∃ B1, Same B B1 ∧ RunAt C B1 H1 r P d l x ∧ ∀ b o, H b = none → H1 b = some o → B1 b = some o := by
  obtain ⟨⟨dr, p, da, li, s, c, rd, ts, kvs, rs, h1, h2, h3, h4, h5, h6, h7, h8, h9, h10, h11, h12, h13, b1, b2, b3, b4, ne⟩, sB, ok⟩ := R
  have nin : ∀ b o, B b = some o → b ∉ [r, s, c, rd] := fun b o e m => by
    simp only [List.mem_cons, List.not_mem_nil, or_false] at m
    rcases m with rfl | rfl | rfl | rfl
    · rw [b1] at e; cases e
    · rw [b2] at e; cases e
    · rw [b3] at e; cases e
    · rw [b4] at e; cases e
  have new : ∀ b, H b = none → b ∉ [r, s, c, rd] := fun b e m => by
    simp only [List.mem_cons, List.not_mem_nil, or_false] at m
    rcases m with rfl | rfl | rfl | rfl
    · rw [h1] at e; cases e
    · rw [h5] at e; cases e
    · rw [h7] at e; cases e
    · rw [h10] at e; cases e
  have s1 : Same B (hide H1 [r, s, c, rd]) := fun b o e => by rw [hide_out (nin b o e)]; exact sm _ _ (sB _ _ e)
  refine ⟨hide H1 [r, s, c, rd], s1, ⟨⟨dr, p, da, li, s, c, rd, ts, kvs, rs, sm _ _ h1, h2.same s1, s1 _ _ h3, s1 _ _ h4, sm _ _ h5, h6.mono fun a q => StepAt.same s1, sm _ _ h7, h8, h9, sm _ _ h10, h11, h12, h13,
    hide_in (by simp), hide_in (by simp), hide_in (by simp), hide_in (by simp), ne⟩, hide_same _ _, ok⟩, fun b o n e => by rw [hide_out (new b n)]; exact e⟩
theorem RunAt.addStep {C : Cs} {B H : Hp} {r : Addr} {P : List PL} {d l : List Nat} {x : VRun} (R : RunAt C B H r P d l x) {dr s : Addr} {v0 v1 v2 v4 v5 v6 : V} {ts : List Addr} {t : Addr} {q : VStep} (hr : H r = some (.ins C.run dr (fs_run v0 v1 v2 (.ref s) v4 v5 v6)))
    (hs : H s = some (.lst (rV ts))) (hq : StepAt B t q) (ok' : RunOk (withStep x q)) : RunAt C B (upd H s (.lst (rV ts ++ [.ref t]))) r P d l (withStep x q) := by
  obtain ⟨⟨dr', p, da, li, s', c, rd, ts', kvs, rs, h1, h2, h3, h4, h5, h6, h7, h8, h9, h10, h11, h12, h13, b1, b2, b3, b4, ne⟩, sB, ok⟩ := R
  rw [h1] at hr
  have e := (HO.ins.inj (Option.some.inj hr)).2.2
  have e1 : s' = s := V.ref.inj (Prod.mk.inj (List.cons.inj (List.cons.inj (List.cons.inj (List.cons.inj e).2).2).2).1).2
  subst e1
  have e2 : rV ts' = rV ts := by
    rw [h5] at hs
    exact HO.lst.inj (Option.some.inj hs)
  have len1 : (withStep x q).steps.length = x.steps.length + 1 := by show (x.steps ++ [q]).length = _; simp
  refine ⟨⟨dr', p, da, li, s', c, rd, ts' ++ [t], kvs, rs, ?_, h2, h3, h4, ?_, h6.app (AllAt.one hq), ?_, h8, by rw [len1]; omega, ?_, h11, h12, by rw [len1]; omega, b1, b2, b3, b4, ne⟩, sB.put b2 _, ok'⟩
  · rw [upd_ne (ne_of h1 h5 (by intro z; cases z))]; exact h1
  · rw [upd_same, ← e2]
    exact congrArg (fun l => some (HO.lst l)) (rV_app ts' [t])
  · rw [upd_ne (ne_of h7 h5 (by intro z; cases z))]; exact h7
  · rw [upd_ne ne.symm]; exact h10
/-- a run that is over -/
structure DoneAt (C : Cs) (H : Hp) (r : Addr) (x : VRun) : Prop where
  ex : ∃ (dr s : Addr) (v0 v1 v2 v4 v5 : V) (ts : List Addr), H r = some (.ins C.run dr (fs_run v0 v1 v2 (.ref s) v4 v5 (.int (statusNumber x.status : Nat)))) ∧ H s = some (.lst (rV ts)) ∧ AllAt (StepAt H) ts x.steps
  ok : RunOk x
theorem DoneAt.same {C : Cs} {H H' : Hp} (sm : Same H H') {r : Addr} {x : VRun} (h : DoneAt C H r x) : DoneAt C H' r x := by
  obtain ⟨⟨dr, s, v0, v1, v2, v4, v5, ts, h1, h2, h3⟩, ok⟩ := h
  exact ⟨⟨dr, s, v0, v1, v2, v4, v5, ts, sm _ _ h1, sm _ _ h2, h3.mono fun a q => StepAt.same sm⟩, ok⟩
theorem RunAt.done {C : Cs} {B H : Hp} {r : Addr} {P : List PL} {d l : List Nat} {x : VRun} (R : RunAt C B H r P d l x) : DoneAt C H r x := by
  obtain ⟨⟨dr, p, da, li, s, c, rd, ts, kvs, rs, h1, h2, h3, h4, h5, h6, _⟩, sB, ok⟩ := R
  exact ⟨⟨dr, s, _, _, _, _, _, ts, h1, h5, h6.mono fun a q => StepAt.same sB⟩, ok⟩
def spValue (C : Cs) : Sp := fun vs H Q _ => ∃ (r a : Addr) (B : Hp) (P : List PL) (d l : List Nat) (x : VRun) (t : Vaslca.Atom), vs = [.ref r, .ref a] ∧ RunAt C B H r P d l x ∧ H a = some (.tup (bV (atomText t))) ∧ isAtom t = true ∧ Q (.int (atomValue x t : Nat)) H
def spSources (C : Cs) : Sp := fun vs H Q _ => ∃ (r : Addr) (n : Nat) (k : Option Nat) (B : Hp) (P : List PL) (d l : List Nat) (x : VRun) (pl : PL), vs = [.ref r, .int (n : Int), letV k] ∧ RunAt C B H r P d l x ∧ P[n]? = some pl ∧
  ∀ D fs, H D = none → (∀ m, m ∈ fs ↔ m ∈ useSrc x pl.head.atoms ++ k.toList) → fs.length ≤ 4 → Q (.ref D) (upd H D (.lst (nV fs)))
/-- room for one name more, one read more -/
def Slack (C : Cs) (H : Hp) (r : Addr) (y : VRun) : Prop := ∀ dr v0 v1 v2 v3 c rd v6 kvs rs, H r = some (.ins C.run dr (fs_run v0 v1 v2 v3 (.ref c) (.ref rd) v6)) → H c = some (.dT kvs) → H rd = some (.lst (nV rs)) → kvs.length < y.steps.length ∧ rs.length < y.steps.length
def spMakeStep (C : Cs) : Sp := fun vs H Q _ => ∃ (r f : Addr) (B : Hp) (P : List PL) (d l : List Nat) (x : VRun) (s : VStep) (fs : List Nat), vs = [.ref r, .int (s.line : Int), .int (s.value : Int), .ref f] ∧ RunAt C B H r P d l x ∧ B f = some (.lst (nV fs)) ∧ (∀ k, k ∈ fs ↔ k ∈ srcs s) ∧
  (x.steps.length < 120 → RunOk (withStep x s)) ∧ (120 ≤ x.steps.length → ∀ H', RunAt C B H' r P d l { x with status := .long } → Q (.bl false) H') ∧ (x.steps.length < 120 → ∀ B' H', Same B B' → RunAt C B' H' r P d l (withStep x s) → Slack C H' r (withStep x s) → Q (.bl true) H')
def spReckon (C : Cs) : Sp := fun vs H Q _ => ∃ (r a : Addr) (B : Hp) (P : List PL) (d l : List Nat) (x : VRun) (v : Vaslca.Name) (e : Vaslca.Expr), vs = [.ref r, .ref a] ∧ RunAt C B H r P d l x ∧ StmAt C B a (.set v e) ∧ Q (.int (exprValue x e : Nat)) H
def spHolds (C : Cs) : Sp := fun vs H Q _ => ∃ (r a : Addr) (B : Hp) (P : List PL) (d l : List Nat) (x : VRun) (c : Vaslca.Cond) (h : Head), vs = [.ref r, .ref a] ∧ RunAt C B H r P d l x ∧ StmAt C B a h ∧ (h = .ite c ∨ h = .loop c) ∧ Q (.int (if condValue x c = true then 1 else 0)) H
theorem RunAt.line {C : Cs} {B H : Hp} {p : Addr} {P : List PL} (h : PrgAt C B p P) (sm : Same B H) {n : Nat} {l : PL} (e : P[n]? = some l) : ∃ dx s pa si as a, H p = some (.ins C.prg dx (fs_prg (.ref s) pa si)) ∧ H s = some (.lst (rV as)) ∧ (rV as)[n]? = some (.ref a) ∧ StmAt C B a l.head := by
  obtain ⟨dx, s, pa, si, as, h1, h2, h3, h4, h5⟩ := h
  obtain ⟨a, ha, hS⟩ := h5.get e
  exact ⟨dx, s, _, _, as, a, sm _ _ h1, sm _ _ h2, rV_at ha, hS⟩
def srcOf (x : VRun) : Vaslca.Atom → Option Nat
  | .num _ => none
  | .var v => (findVar x v).map fun y => y.src
theorem find_atom {x : VRun} (ok : RunOk x) {t : Vaslca.Atom} (ht : isAtom t = true) : ((findVar x (atomText t)).map fun y => y.src) = srcOf x t := by
  cases t with
  | var v => rfl
  | num n =>
    show ((findVar x (decimal n)).map fun y => y.src) = none
    cases e : findVar x (decimal n) with
    | none => rfl
    | some y =>
      obtain ⟨hm, hn⟩ := find_mem e
      have h1 := (ok.var y hm).1
      have hd := decimal_digits n (of_decide_eq_true ht)
      rw [hn, name_not_number hd.2 hd.1] at h1
      cases h1
theorem mem_useSrc_more {x : VRun} (ok : RunOk x) {as : List Vaslca.Atom} {i : Nat} {t : Vaslca.Atom} (h : as[i]? = some t) (ht : isAtom t = true) (m : Nat) :
    m ∈ useSrc x (as.take (i + 1)) ↔ m ∈ useSrc x (as.take i) ∨ ((findVar x (atomText t)).map fun y => y.src) = some m := by
  rw [take_more h, useSrc_app, List.mem_append, find_atom ok ht]
  have : m ∈ useSrc x [t] ↔ srcOf x t = some m := by
    unfold useSrc
    rw [List.mem_filterMap]
    constructor
    · rintro ⟨a, ha, e⟩
      rw [List.mem_singleton.mp ha] at e
      cases t <;> exact e
    · intro e
      exact ⟨t, by simp, by cases t <;> exact e⟩
  rw [this]
theorem ok_atoms {h : Head} (hk : h.ok = true) : ∀ a ∈ h.atoms, isAtom a = true := by
  intro a ha
  cases h with
  | set v e =>
    have hk' : (isName v && isExpr e) = true := hk
    rw [Bool.and_eq_true] at hk'
    have he : (isAtom e.one && (isAtom e.two && (e.op != .alone || e.two == .num 0))) = true := hk'.2
    rw [Bool.and_eq_true, Bool.and_eq_true] at he
    have ha' : a ∈ (if e.op = .alone then [e.one] else [e.one, e.two]) := ha
    split at ha'
    · rw [List.mem_singleton.mp ha']; exact he.1
    · simp only [List.mem_cons, List.not_mem_nil, or_false] at ha'
      rcases ha' with rfl | rfl
      · exact he.1
      · exact he.2.1
  | read v => cases ha
  | write t =>
    have ha' : a ∈ [t] := ha
    rw [List.mem_singleton.mp ha']
    exact hk
  | halt => cases ha
  | ite c =>
    have hk' : (isAtom c.one && isAtom c.two) = true := hk
    rw [Bool.and_eq_true] at hk'
    have ha' : a ∈ [c.one, c.two] := ha
    simp only [List.mem_cons, List.not_mem_nil, or_false] at ha'
    rcases ha' with rfl | rfl
    · exact hk'.1
    · exact hk'.2
  | loop c =>
    have hk' : (isAtom c.one && isAtom c.two) = true := hk
    rw [Bool.and_eq_true] at hk'
    have ha' : a ∈ [c.one, c.two] := ha
    simp only [List.mem_cons, List.not_mem_nil, or_false] at ha'
    rcases ha' with rfl | rfl
    · exact hk'.1
    · exact hk'.2
theorem atoms_len (h : Head) : h.atoms.length ≤ 2 := by
  cases h with
  | set v e => show (if e.op = .alone then [e.one] else [e.one, e.two]).length ≤ 2; split <;> simp
  | _ => simp [Head.atoms]
theorem valueOf_decimal {n : Nat} (h : n ≤ 99) : valueOf (decimal n) = n := ((number_text (numberOf_decimal n h)).2.2.2).symm
section
variable {P : Program} {w : World} {K : PySem.W.Frag} {mg : Str → Option Value} {base : Heap} {C : Cs}
abbrev s_Run_value : Stmt := inClass (top 20) 1
theorem sc_Run_value : FnScope ["self", "atom"] ["self", "atom"] (defScope s_Run_value) := ⟨rfl, rfl, rfl, by decide +kernel, rfl, by decide +kernel, by decide +kernel⟩
theorem ok_Run_value (T : Txt K mg C) : OkM P w K mg base C.run 2 "value" ["self", "atom"] (spValue C) := by
  have h_number_of := ok_number_of (P := P) (w := w) (base := base) T
  obtain ⟨f, fd, hm, F, b⟩ := T.m_Run_value
  refine ⟨f, fd, hm, b, F.ok sc_Run_value (fun vs H Q E h => ?_) (fun cdv A outer s H vs Q E hr h => ?_)⟩
  · obtain ⟨r, a, B, P, d, l, x, t, rfl, _⟩ := h
    rfl
  refine ⟨_, (pss_cons (ps_if (pt_cmpR op_lt (pe_ix ix_tup (pv 1) pe_int (fun _ _ => rfl)) (pe_gi rfl T.c_SMALL_A) (nomark _)) (pss_one (ps_ret (pe_cf h_number_of (hr.mono (by decide)) (by rfl) (pa_cons (pv 1) pa_nil)))) pss_nil)
        (pss_cons (ps_if (pt_cmp (pc_din (hu_of hr) (pv 1) (pe_fld (pv 0) rfl))) (pss_one (ps_ret (pe_ix ix_tup (pe_ix ix_list (pe_fld (pv 0) rfl) (pe_dget (hu_of hr) (pe_fld (pv 0) rfl) (pv 1) (fun _ _ => rfl)) (fun _ _ => rfl)) pe_int (fun _ _ => rfl)))) pss_nil)
        (pss_one (ps_ret pe_int)))), ?_⟩
  obtain ⟨r, a, B, P0, d, l, x, t, rfl, R, ha, ht, k⟩ := h
  obtain ⟨⟨dr, p, da, li, s', c, rd, ts, kvs, rs, h1, h2, h3, h4, h5, h6, h7, h8, h9, h10, h11, h12, h13, b1, b2, b3, b4, ne⟩, sB, ok⟩ := id R
  obtain ⟨hne, hcl⟩ := atom_clean ht
  obtain ⟨b0, tr, et⟩ : ∃ b tr, atomText t = b :: tr := by
    cases q : atomText t with
    | nil => exact absurd q hne
    | cons b tr => exact ⟨b, tr, rfl⟩
  have at0 : atI (bV (atomText t)) 0 = some (.int (b0.toNat : Int)) := by
    rw [et]
    exact atI_n (i := 0) rfl
  have ha2 : H a = some (.tup ((keyOf (atomText t)).map kV)) := by rw [keyOf_kV]; exact ha
  -- if atom[0] < SMALL_A
  refine ⟨_, rfl, _, _, _, _, rfl, rfl, SqT.of ha, at0, _, _, rfl, rfl, _, rfl, ?_⟩
  cases t with
  | num n =>
    have hn : n ≤ 99 := of_decide_eq_true ht
    have hd := decimal_digits n hn
    have et' : decimal n = b0 :: tr := et
    have hb0 : isDigit b0 = true := by
      have := hd.1
      rw [et', List.all_cons, Bool.and_eq_true] at this
      exact this.1
    have := digit_nat hb0
    refine if_t (decide_eq_true (by omega)) ?_
    refine ⟨_, rfl, a, decimal n, rfl, SqT.of ha, hd.1, ?_⟩
    rw [valueOf_decimal hn]
    exact k
  | var v =>
    have hv : isName v = true := ht
    have hb0 : isSmall b0 = true := (name_facts hv).2.2.1 b0 (by
      have et' : v = b0 :: tr := et
      rw [et']; simp)
    have := small_nat hb0
    refine if_f (decide_eq_false (by omega)) ?_
    have lk := h8 v
    -- if atom in self.came
    refine ⟨_, rfl, _, rfl, _, _, _, _, _, rfl, h1, T.cl_run, T.n_run_came, fs_run_came, _, _, rfl, DGet.t h7 ha2, _, rfl, ?_⟩
    show (if (valV kvs (keyOf v)).isSome = true then _ else _)
    rw [lk]
    cases e : findVar x v with
    | none =>
      refine if_f rfl ?_
      have : atomValue x (.var v) = 0 := by show ((findVar x v).map fun y => y.value).getD 0 = 0; rw [e]; rfl
      rw [this] at k
      exact k
    | some y =>
      refine if_t rfl ?_
      have ev : atomValue x (.var v) = y.value := by show ((findVar x v).map fun y => y.value).getD 0 = _; rw [e]; rfl
      obtain ⟨_, st, hst, hsv⟩ := ok.var y (find_mem e).1
      obtain ⟨ta, hta, f, fs, g1, g2, g3⟩ := h6.get hst
      have dg : DGet H c (.ref a) (some (.int (y.src : Nat))) := by
        have := DGet.t h7 ha2
        rw [show valV kvs (keyOf (atomText (.var v))) = some (V.int (y.src : Nat)) by show valV kvs (keyOf v) = _; rw [lk, e]; rfl] at this
        exact this
      refine ⟨_, rfl, _, _, _, _, _, rfl, h1, T.cl_run, T.n_run_steps, fs_run_steps, _, rfl, _, _, _, _, _, rfl, h1, T.cl_run, T.n_run_came, fs_run_came, _, rfl, _, _, rfl, dg, _, _, _, _, rfl, rfl, SqL.of h5, atI_n (rV_at hta), _, _, _, _, rfl, rfl, SqT.of (sB _ _ g1), atI_n (i := 1) rfl, ?_⟩
      rw [hsv, ← ev]
      exact k
abbrev s_Run_sources : Stmt := inClass (top 20) 2
theorem sc_Run_sources : FnScope ["self", "line", "let", "froms", "atom"] ["self", "line", "let"] (defScope s_Run_sources) := ⟨rfl, rfl, rfl, by decide +kernel, rfl, by decide +kernel, by decide +kernel⟩
theorem ok_Run_sources (T : Txt K mg C) : OkM P w K mg base C.run 1 "sources" ["self", "line", "let"] (spSources C) := by
  obtain ⟨f, fd, hm, F, b⟩ := T.m_Run_sources
  refine ⟨f, fd, hm, b, F.ok sc_Run_sources (fun vs H Q E h => ?_) (fun cdv A outer s H vs Q E hr h => ?_)⟩
  · obtain ⟨r, n, k, B, P, d, l, x, pl, rfl, _⟩ := h
    rfl
  refine ⟨_, (pss_cons (ps_set (i := 3) sc_Run_sources.nd rfl (Or.inl rfl) (pe_lst pa_nil))
        (pss_cons (ps_for PassesOwn.never rfl (pi_list (pe_fld (pe_ix ix_list (pe_fld (pe_fld (pv 0) rfl) rfl) (pv 1) (fun _ _ => rfl)) rfl)) (pg_name (i := 4) sc_Run_sources.nd rfl (Or.inl rfl)) (pss_one (ps_if (PW.pt (pw_and (pt_cmp (pc_din (hu_of hr) (pv 4) (pe_fld (pv 0) rfl))) (pw_and1 (pt_cmpR op_notIn_seq (pe_dget (hu_of hr) (pe_fld (pv 0) rfl) (pv 4) (fun _ _ => rfl)) (pv 3) (by rfl))))) (pss_one (ps_expr (pe_bm PySem.F.plainAttrs_list PySem.F.slot_list_append PySem.F.type_list_append mt_append (pv 3) (pa_cons (pe_dget (hu_of hr) (pe_fld (pv 0) rfl) (pv 4) (fun _ _ => rfl)) pa_nil)))) pss_nil)))
        (pss_cons (ps_if (pt_cmpR op_ge (pv 2) pe_int (nomark _)) (pss_one (ps_expr (pe_bm PySem.F.plainAttrs_list PySem.F.slot_list_append PySem.F.type_list_append mt_append (pv 3) (pa_cons (pv 2) pa_nil)))) pss_nil)
        (pss_one (ps_ret (pv 3)))))), ?_⟩
  obtain ⟨r, n, k0, B, P0, d, l, x, pl, rfl, R, hpl, k⟩ := h
  obtain ⟨⟨dr, p, da, li, s', c, rd, ts, kvs, rs, h1, h2, h3, h4, h5, h6, h7, h8, h9, h10, h11, h12, h13, b1, b2, b3, b4, ne⟩, sB, ok⟩ := id R
  refine ⟨(by show 0 ≤ sizeLine; decide), fun D hD => ?_⟩
  have sm : ∀ o, Same H (upd H D o) := fun o => Same.new hD o
  obtain ⟨dx, ss, v1, v2, as, st, p1, p2, p3, hS⟩ := RunAt.line h2 sB hpl
  obtain ⟨⟨dxs, wr, nm, at', ats, g1, g2, g3, g4, g5⟩, gok⟩ := id hS
  have hat := ok_atoms gok
  refine ⟨_, rfl, _, _, _, _, _, rfl, (sm _ _ _ h1), T.cl_run, T.n_run_program, fs_run_program, _, _, _, _, _, rfl, (sm _ _ _ p1), T.cl_prg, T.n_prg_statements, fs_prg_statements, _, rfl, _, _, _, _, rfl, rfl, SqL.of (sm _ _ _ p2), atI_n p3, _, _, _, _, _, rfl, (sm _ _ _ (sB _ _ g1)), T.cl_stm, T.n_stm_atoms, fs_stm_atoms, at', rfl, ⟨rV ats, SqL.of (sm _ _ _ (sB _ _ g4))⟩, ?_⟩
  refine for_list (K := K) (a := at') (xs := rV ats) (fun i σ H' => ∃ v fs, σ = [some (.ref r), some (.int (n : Int)), some (letV k0), some (.ref D), v] ∧ H' = upd H D (.lst (nV fs)) ∧ (∀ m, m ∈ fs ↔ m ∈ useSrc x (pl.head.atoms.take i)) ∧ fs.length ≤ i)
    ⟨none, [], rfl, rfl, fun m => by simp [useSrc], Nat.le_refl _⟩ (fun i σ H' _ ⟨_, _, _, e, _⟩ => by rw [e]; exact SqL.of (sm _ _ _ (sB _ _ g4))) ?_ ?_
  · rintro i y σ H' hy ⟨v, fs, rfl, rfl, hfs, hlen⟩
    obtain ⟨ta, hta, rfl⟩ := rV_get hy
    obtain ⟨t, htt, hLB⟩ := g5.get' hta
    have ht := hat t (List.mem_of_getElem? htt)
    have mm := mem_useSrc_more ok htt ht
    have hilt : i < 2 := Nat.lt_of_lt_of_le (List.getElem?_eq_some_iff.mp htt).1 (atoms_len _)
    have ha2 : (upd H D (.lst (nV fs))) ta = some (.tup ((keyOf (atomText t)).map kV)) := by rw [keyOf_kV]; exact sm _ _ _ (sB _ _ hLB)
    have lk := h8 (atomText t)
    refine ⟨_, rfl, _, rfl, _, _, _, _, _, rfl, (sm _ _ _ h1), T.cl_run, T.n_run_came, fs_run_came, _, _, rfl, DGet.t (sm _ _ _ h7) ha2, _, rfl, ?_⟩
    show (if (valV kvs (keyOf (atomText t))).isSome = true then _ else _)
    rw [lk]
    cases e : findVar x (atomText t) with
    | none =>
      refine if_f rfl (if_f rfl ?_)
      refine ⟨_, fs, rfl, rfl, fun m => ?_, by omega⟩
      rw [mm m, e]
      simp [hfs m]
    | some y =>
      refine if_t rfl ?_
      have dg : DGet (upd H D (.lst (nV fs))) c (.ref ta) (some (.int (y.src : Nat))) := by
        have := DGet.t (sm (.lst (nV fs)) _ _ h7) ha2
        rw [lk, e] at this
        exact this
      refine ⟨_, rfl, _, _, _, _, _, rfl, (sm _ _ _ h1), T.cl_run, T.n_run_came, fs_run_came, _, rfl, _, _, rfl, dg, _, rfl, D, _, rfl, .inl (SqL.of upd_same), rfl, flat_nV _, _, rfl, ?_⟩
      rw [inV_nV]
      have mem : (fs.any fun z : Nat => decide ((z : Int) = ((y.src : Nat) : Int))) = decide (y.src ∈ fs) := by
        by_cases z : y.src ∈ fs
        · rw [decide_eq_true z, List.any_eq_true]; exact ⟨_, z, by simp⟩
        · rw [decide_eq_false z, List.any_eq_false]; intro q hq e'; exact z (by have := of_decide_eq_true e'; rw [show y.src = q by omega]; exact hq)
      rw [mem]
      refine if_nd (fun z => ?_) (fun z => ?_)
      · refine ⟨_, rfl, .inl ⟨rfl, _, SqL.of upd_same⟩, _, rfl, _, _, _, _, _, rfl, (sm _ _ _ h1), T.cl_run, T.n_run_came, fs_run_came, _, rfl, _, _, rfl, dg, _, _, _, rfl, rfl, upd_same, (by rw [nV_length]; exact small1000 (by omega)), ?_⟩
        refine ⟨_, fs ++ [y.src], rfl, ?_, fun m => ?_, by rw [List.length_append]; simp only [List.length_singleton]; omega⟩
        · rw [upd_upd]
          unfold nV
          rw [List.map_append]
          rfl
        · rw [mm m, e, List.mem_append, hfs m, List.mem_singleton]
          simp [eq_comm]
      · refine ⟨_, fs, rfl, rfl, fun m => ?_, by omega⟩
        rw [mm m, e, hfs m]
        constructor
        · exact .inl
        · rintro (q | q)
          · exact q
          · have : y.src = m := by simpa using q
            rw [← this]; exact (hfs _).mp z
  · rintro σ H' ⟨v, fs, rfl, rfl, hfs, hlen⟩
    rw [rV_length, g5.len, List.take_length] at hfs
    have hl2 : fs.length ≤ 2 := by rw [rV_length, g5.len] at hlen; exact Nat.le_trans hlen (atoms_len _)
    refine nx_go' ?_
    cases k0 with
    | none =>
      refine ⟨_, rfl, _, _, rfl, rfl, _, rfl, if_f (by decide) ?_⟩
      refine ⟨_, rfl, k D fs hD (fun m => ?_) (by omega)⟩
      simp [hfs m]
    | some j =>
      refine ⟨_, rfl, _, _, rfl, rfl, _, rfl, if_t (decide_eq_true (by omega)) ?_⟩
      refine ⟨_, rfl, .inl ⟨rfl, _, SqL.of upd_same⟩, _, rfl, _, _, _, rfl, rfl, upd_same, (by rw [nV_length]; exact small1000 (by omega)), ?_⟩
      refine ⟨_, rfl, ?_⟩
      rw [upd_upd]
      have e : nV fs ++ [letV (some j)] = nV (fs ++ [j]) := by unfold nV letV; rw [List.map_append]; rfl
      rw [e]
      refine k D (fs ++ [j]) hD (fun m => ?_) (by rw [List.length_append]; simp only [List.length_singleton]; omega)
      rw [List.mem_append, hfs m, List.mem_append]
      rfl
abbrev s_Run_make_step : Stmt := inClass (top 20) 3
theorem sc_Run_make_step : FnScope ["self", "line", "value", "froms"] ["self", "line", "value", "froms"] (defScope s_Run_make_step) := ⟨rfl, rfl, rfl, by decide +kernel, rfl, by decide +kernel, by decide +kernel⟩
theorem ok_Run_make_step (T : Txt K mg C) : OkM P w K mg base C.run 1 "make_step" ["self", "line", "value", "froms"] (spMakeStep C) := by
  obtain ⟨f, fd, hm, F, b⟩ := T.m_Run_make_step
  refine ⟨f, fd, hm, b, F.ok sc_Run_make_step (fun vs H Q E h => ?_) (fun cdv A outer s H vs Q E hr h => ?_)⟩
  · obtain ⟨r, f, B, P, d, l, x, st, fs, rfl, _⟩ := h
    rfl
  refine ⟨_, (pss_cons (ps_if (pt_cmpR op_ge (pe_callB call_len_seq (by rfl) T.len PySem.boot_len (pa_cons (pe_fld (pv 0) rfl) pa_nil)) (pe_gi rfl T.c_MOST_STEPS) (nomark _)) (pss_cons (ps_fld (pv 0) (pe_gi rfl T.c_LONG) rfl)
        (pss_one (ps_ret pe_bl))) pss_nil)
        (pss_cons (ps_expr (pe_bm PySem.F.plainAttrs_list PySem.F.slot_list_append PySem.F.type_list_append mt_append (pe_fld (pv 0) rfl) (pa_cons (pe_tup (pa_cons (pv 1) (pa_cons (pv 2) (pa_cons (pv 3) pa_nil)))) pa_nil)))
        (pss_one (ps_ret pe_bl)))), ?_⟩
  obtain ⟨r, f0, B, P0, d, l, x, st, fs, rfl, R, hf, hfs, kok, k1, k2⟩ := h
  obtain ⟨⟨dr, p, da, li, s', c, rd, ts, kvs, rs, h1, h2, h3, h4, h5, h6, h7, h8, h9, h10, h11, h12, h13, b1, b2, b3, b4, ne⟩, sB, ok⟩ := id R
  have hl : (rV ts).length = x.steps.length := by rw [rV_length, h6.len]
  have nrs : r ≠ s' := ne_of h1 h5 (by intro z; cases z)
  have nrc : r ≠ c := ne_of h1 h7 (by intro z; cases z)
  have nrrd : r ≠ rd := ne_of h1 h10 (by intro z; cases z)
  have nsc : s' ≠ c := ne_of h5 h7 (by intro z; cases z)
  -- if len(self.steps) >= MOST_STEPS
  refine ⟨_, rfl, _, _, _, _, _, rfl, h1, T.cl_run, T.n_run_steps, fs_run_steps, _, _, rfl, .inl (SqL.of h5), _, _, rfl, rfl, _, rfl, ?_⟩
  rw [hl]
  refine if_d (fun e => ?_) (fun e => ?_)
  · have e' : 120 ≤ x.steps.length := by omega
    refine ⟨_, rfl, _, _, _, _, rfl, h1, T.cl_run, T.n_run_how, (by rw [fs_run_len]; decide), ?_⟩
    rw [fs_run_put_how]
    refine k1 e' _ ⟨⟨dr, p, da, li, s', c, rd, ts, kvs, rs, upd_same, h2, h3, h4, ?_, h6, ?_, h8, h9, ?_, h11, h12, h13, b1, b2, b3, b4, ne⟩, sB.put b1 _, ok.stat _⟩
    · rw [upd_ne nrs.symm]; exact h5
    · rw [upd_ne nrc.symm]; exact h7
    · rw [upd_ne nrrd.symm]; exact h10
  · have e' : x.steps.length < 120 := by omega
    refine ⟨_, rfl, _, _, _, _, _, rfl, h1, T.cl_run, T.n_run_steps, fs_run_steps, .inl ⟨rfl, _, SqL.of h5⟩, _, rfl, _, rfl, _, rfl, (by show 3 ≤ sizeLine; decide), fun t ht => ?_⟩
    obtain ⟨B1, sB1, R1, new⟩ := R.grow (Same.new ht (.tup [.int (st.line : Int), .int (st.value : Int), .ref f0]))
    refine ⟨_, _, _, rfl, rfl, Same.new ht _ _ _ h5, (by rw [hl]; exact small1000 (by omega)), ?_⟩
    have nts : t ≠ s' := (ne_of_none h5 ht).symm
    refine k2 e' _ _ sB1 (R1.addStep (Same.new ht _ _ _ h1) (Same.new ht _ _ _ h5) ⟨f0, fs, new _ _ ht upd_same, sB1 _ _ hf, hfs⟩ (kok e')) ?_
    intro dr' v0 v1 v2 v3 c' rd' v6 kvs' rs' q1 q2 q3
    rw [upd_ne nrs, upd_ne (ne_of_none h1 ht), h1] at q1
    have e := (HO.ins.inj (Option.some.inj q1)).2.2
    have a4 := List.cons.inj (List.cons.inj (List.cons.inj (List.cons.inj (List.cons.inj e).2).2).2).2
    have ec : c = c' := V.ref.inj (Prod.mk.inj a4.1).2
    have er : rd = rd' := V.ref.inj (Prod.mk.inj (List.cons.inj a4.2).1).2
    subst ec er
    rw [upd_ne nsc.symm, upd_ne (ne_of_none h7 ht), h7] at q2
    rw [upd_ne ne.symm, upd_ne (ne_of_none h10 ht), h10] at q3
    have f2 := HO.dT.inj (Option.some.inj q2)
    have f3 := congrArg List.length (HO.lst.inj (Option.some.inj q3))
    rw [nV_length, nV_length] at f3
    subst f2
    have len1 : (withStep x st).steps.length = x.steps.length + 1 := by show (x.steps ++ [st]).length = _; simp
    rw [len1]
    omega
abbrev s_Run_reckon : Stmt := inClass (top 20) 4
theorem sc_Run_reckon : FnScope ["self", "statement", "left", "right"] ["self", "statement"] (defScope s_Run_reckon) := ⟨rfl, rfl, rfl, by decide +kernel, rfl, by decide +kernel, by decide +kernel⟩
theorem ok_Run_reckon (T : Txt K mg C) : OkM P w K mg base C.run 3 "reckon" ["self", "statement"] (spReckon C) := by
  have h_Run_value := ok_Run_value (P := P) (w := w) (base := base) T
  obtain ⟨f, fd, hm, F, b⟩ := T.m_Run_reckon
  refine ⟨f, fd, hm, b, F.ok sc_Run_reckon (fun vs H Q E h => ?_) (fun cdv A outer s H vs Q E hr h => ?_)⟩
  · obtain ⟨r, a, B, P, d, l, x, v, e, rfl, _⟩ := h
    rfl
  refine ⟨_, (pss_cons (ps_set (i := 2) sc_Run_reckon.nd rfl (Or.inl rfl) (pe_cm (pv 0) T.cl_run h_Run_value (hr.mono (by decide)) (pa_cons (pe_ix ix_list (pe_fld (pv 1) rfl) pe_int (fun _ _ => rfl)) pa_nil)))
        (pss_cons (ps_if (pt_cmpR op_eq (pe_fld (pv 1) rfl) pe_str (nomark _)) (pss_one (ps_ret (pv 2))) pss_nil)
        (pss_cons (ps_set (i := 3) sc_Run_reckon.nd rfl (Or.inl rfl) (pe_cm (pv 0) T.cl_run h_Run_value (hr.mono (by decide)) (pa_cons (pe_ix ix_list (pe_fld (pv 1) rfl) pe_int (fun _ _ => rfl)) pa_nil)))
        (pss_cons (ps_if (pt_cmpR op_eq (pe_fld (pv 1) rfl) pe_str (nomark _)) (pss_one (ps_ret (pe_op op_mod (pe_op op_add (pv 2) (pv 3)) pe_int))) pss_nil)
        (pss_cons (ps_if (pt_cmpR op_eq (pe_fld (pv 1) rfl) pe_str (nomark _)) (pss_one (ps_ret (pe_op op_mod (pe_op op_sub (pv 2) (pv 3)) pe_int))) pss_nil)
        (pss_one (ps_ret (pe_op op_mod (pe_op op_mul (pv 2) (pv 3)) pe_int)))))))), ?_⟩
  obtain ⟨r, a, B, P0, d, l, x, v, e, rfl, R, hS, k⟩ := h
  obtain ⟨⟨dxs, wr, nm, at', ats, g1, g2, g3, g4, g5⟩, gok⟩ := id hS
  have sB := R.same
  have ok := R.ok
  have hat := ok_atoms gok
  have hk' : (isName v && isExpr e) = true := gok
  rw [Bool.and_eq_true] at hk'
  have eat : (Head.set v e).atoms = if e.op = .alone then [e.one] else [e.one, e.two] := rfl
  have h0 : (Head.set v e).atoms[0]? = some e.one := by rw [eat]; split <;> rfl
  obtain ⟨t0, i0, l0⟩ := g5.get h0
  have a1 := hat _ (List.mem_of_getElem? h0)
  -- left = self.value(statement.atoms[0])
  obtain ⟨⟨dr, p, da, li, s', c, rd, ts, kvs, rs, h1, _⟩, _, _⟩ := id R
  refine ⟨_, rfl, _, _, _, rfl, h1, fs_run_no_value, _, rfl, _, _, _, _, _, rfl, (sB _ _ g1), T.cl_stm, T.n_stm_atoms, fs_stm_atoms, _, _, _, _, rfl, rfl, SqL.of (sB _ _ g4), atI_n (i := 0) (rV_at i0), r, t0, B, P0, d, l, x, e.one, rfl, R, sB _ _ l0, a1, ?_⟩
  have v1 := ok.atom a1
  refine ⟨_, rfl, _, _, _, _, _, rfl, (sB _ _ g1), T.cl_stm, T.n_stm_sign, fs_stm_sign, rfl, _, rfl, ?_⟩
  have sgn : decide (V.str (Str.ofString (Head.set v e).sign) = V.str (Str.ofString "")) = decide (e.op = .alone) := by
    show decide (V.str (Str.ofString (opStr e.op)) = V.str (Str.ofString "")) = _
    cases e.op <;> decide
  show (if decide (V.str (Str.ofString (Head.set v e).sign) = V.str (Str.ofString "")) = true then _ else _)
  rw [sgn]
  have ev : exprValue x e = Vaslca.reckoned e.op (atomValue x e.one) (atomValue x e.two) := rfl
  refine if_d (fun c => ?_) (fun c => ?_)
  · rw [ev, c] at k
    exact ⟨_, rfl, k⟩
  have h1' : (Head.set v e).atoms[1]? = some e.two := by rw [eat, if_neg c]; rfl
  obtain ⟨t1, i1, l1⟩ := g5.get h1'
  have a2 := hat _ (List.mem_of_getElem? h1')
  have v2 := ok.atom a2
  refine ⟨_, rfl, _, _, _, rfl, h1, fs_run_no_value, _, rfl, _, _, _, _, _, rfl, (sB _ _ g1), T.cl_stm, T.n_stm_atoms, fs_stm_atoms, _, _, _, _, rfl, rfl, SqL.of (sB _ _ g4), atI_n (i := 1) (rV_at i1), r, t1, B, P0, d, l, x, e.two, rfl, R, sB _ _ l1, a2, ?_⟩
  have sg2 : ∀ o : String, o ∈ ["+", "-"] → decide (V.str (Str.ofString (Head.set v e).sign) = V.str (Str.ofString o)) = decide (opStr e.op = o) := by
    intro o ho
    show decide (V.str (Str.ofString (opStr e.op)) = V.str (Str.ofString o)) = _
    have q : ∀ o ∈ ["+", "-"], ∀ p ∈ ["", "+", "-", "*"], decide (V.str (Str.ofString p) = V.str (Str.ofString o)) = decide (p = o) := by decide
    refine q o ho _ ?_
    cases e.op <;> simp [opStr]
  generalize hA : atomValue x e.one = va at *
  generalize hB : atomValue x e.two = vb at *
  rw [ev] at k
  refine ⟨_, rfl, _, _, _, _, _, rfl, (sB _ _ g1), T.cl_stm, T.n_stm_sign, fs_stm_sign, rfl, _, rfl, ?_⟩
  show (if decide (V.str (Str.ofString (Head.set v e).sign) = V.str (Str.ofString "+")) = true then _ else _)
  rw [sg2 "+" (by decide)]
  cases ho : e.op with
  | alone => exact absurd ho c
  | add =>
    rw [ho] at k
    refine if_t (by decide) ⟨_, rfl, _, rfl, _, _, rfl, rfl, _, _, rfl, rfl, (by show (0 : Int) < 1000; decide), ?_⟩
    exact k
  | sub =>
    rw [ho] at k
    refine if_f (by decide) ⟨_, rfl, _, _, _, _, _, rfl, (sB _ _ g1), T.cl_stm, T.n_stm_sign, fs_stm_sign, rfl, _, rfl, ?_⟩
    show (if decide (V.str (Str.ofString (Head.set v e).sign) = V.str (Str.ofString "-")) = true then _ else _)
    rw [sg2 "-" (by decide), ho]
    refine if_t (by decide) ⟨_, rfl, _, rfl, _, _, rfl, rfl, _, _, rfl, rfl, (by show (0 : Int) < 1000; decide), ?_⟩
    have e3 : ((va : Int) - (vb : Int)) % 1000 = ((Vaslca.reckoned .sub va vb : Nat) : Int) := by
      show _ = (((va + (1000 - vb % 1000)) % 1000 : Nat) : Int)
      omega
    show Q (.int (((va : Int) - (vb : Int)) % 1000)) H
    rw [e3]
    exact k
  | mul =>
    rw [ho] at k
    refine if_f (by decide) ⟨_, rfl, _, _, _, _, _, rfl, (sB _ _ g1), T.cl_stm, T.n_stm_sign, fs_stm_sign, rfl, _, rfl, ?_⟩
    show (if decide (V.str (Str.ofString (Head.set v e).sign) = V.str (Str.ofString "-")) = true then _ else _)
    rw [sg2 "-" (by decide), ho]
    refine if_f (by decide) ⟨_, rfl, _, rfl, _, _, rfl, rfl, .inl ⟨by omega, by omega⟩, _, _, rfl, rfl, (by show (0 : Int) < 1000; decide), ?_⟩
    have e3 : ((va : Int) * (vb : Int)) % 1000 = ((Vaslca.reckoned .mul va vb : Nat) : Int) := by
      show _ = (((va * vb) % 1000 : Nat) : Int)
      rw [Int.natCast_emod, Int.natCast_mul]
      rfl
    show Q (.int (((va : Int) * (vb : Int)) % 1000)) H
    rw [e3]
    exact k
abbrev s_Run_holds : Stmt := inClass (top 20) 5
theorem sc_Run_holds : FnScope ["self", "statement", "left", "right"] ["self", "statement"] (defScope s_Run_holds) := ⟨rfl, rfl, rfl, by decide +kernel, rfl, by decide +kernel, by decide +kernel⟩
theorem ok_Run_holds (T : Txt K mg C) : OkM P w K mg base C.run 3 "holds" ["self", "statement"] (spHolds C) := by
  have h_Run_value := ok_Run_value (P := P) (w := w) (base := base) T
  obtain ⟨f, fd, hm, F, b⟩ := T.m_Run_holds
  refine ⟨f, fd, hm, b, F.ok sc_Run_holds (fun vs H Q E h => ?_) (fun cdv A outer s H vs Q E hr h => ?_)⟩
  · obtain ⟨r, a, B, P, d, l, x, c, h0, rfl, _⟩ := h
    rfl
  refine ⟨_, (pss_cons (ps_set (i := 2) sc_Run_holds.nd rfl (Or.inl rfl) (pe_cm (pv 0) T.cl_run h_Run_value (hr.mono (by decide)) (pa_cons (pe_ix ix_list (pe_fld (pv 1) rfl) pe_int (fun _ _ => rfl)) pa_nil)))
        (pss_cons (ps_set (i := 3) sc_Run_holds.nd rfl (Or.inl rfl) (pe_cm (pv 0) T.cl_run h_Run_value (hr.mono (by decide)) (pa_cons (pe_ix ix_list (pe_fld (pv 1) rfl) pe_int (fun _ _ => rfl)) pa_nil)))
        (pss_cons (ps_if (pt_cmpR op_eq (pe_fld (pv 1) rfl) pe_str (nomark _)) (pss_one (ps_ret (pe_ifExp (pt_cmpR op_lt (pv 2) (pv 3) (nomark _)) pe_int pe_int))) pss_nil)
        (pss_cons (ps_if (pt_cmpR op_eq (pe_fld (pv 1) rfl) pe_str (nomark _)) (pss_one (ps_ret (pe_ifExp (pt_cmpR op_eq (pv 2) (pv 3) (nomark _)) pe_int pe_int))) pss_nil)
        (pss_one (ps_ret (pe_ifExp (pt_cmpR op_ne (pv 2) (pv 3) (nomark _)) pe_int pe_int))))))), ?_⟩
  obtain ⟨r, a, B, P0, d, l, x, c, h0, rfl, R, hS, hh, k⟩ := h
  obtain ⟨⟨dxs, wr, nm, at', ats, g1, g2, g3, g4, g5⟩, gok⟩ := id hS
  have sB := R.same
  have ok := R.ok
  have hat := ok_atoms gok
  have eat : h0.atoms = [c.one, c.two] := by rcases hh with e | e <;> (subst e; rfl)
  have esg : h0.sign = relStr c.rel := by rcases hh with e | e <;> (subst e; rfl)
  have e0 : h0.atoms[0]? = some c.one := by rw [eat]; rfl
  have e1 : h0.atoms[1]? = some c.two := by rw [eat]; rfl
  obtain ⟨t0, i0, l0⟩ := g5.get e0
  obtain ⟨t1, i1, l1⟩ := g5.get e1
  have a1 := hat _ (List.mem_of_getElem? e0)
  have a2 := hat _ (List.mem_of_getElem? e1)
  obtain ⟨⟨dr, p, da, li, s', cc, rd, ts, kvs, rs, h1, _⟩, _, _⟩ := id R
  refine ⟨_, rfl, _, _, _, rfl, h1, fs_run_no_value, _, rfl, _, _, _, _, _, rfl, (sB _ _ g1), T.cl_stm, T.n_stm_atoms, fs_stm_atoms, _, _, _, _, rfl, rfl, SqL.of (sB _ _ g4), atI_n (i := 0) (rV_at i0), r, t0, B, P0, d, l, x, c.one, rfl, R, sB _ _ l0, a1, ?_⟩
  refine ⟨_, rfl, _, _, _, rfl, h1, fs_run_no_value, _, rfl, _, _, _, _, _, rfl, (sB _ _ g1), T.cl_stm, T.n_stm_atoms, fs_stm_atoms, _, _, _, _, rfl, rfl, SqL.of (sB _ _ g4), atI_n (i := 1) (rV_at i1), r, t1, B, P0, d, l, x, c.two, rfl, R, sB _ _ l1, a2, ?_⟩
  have sg2 : ∀ o : String, o ∈ ["<", "=="] → decide (V.str (Str.ofString h0.sign) = V.str (Str.ofString o)) = decide (relStr c.rel = o) := by
    intro o ho
    rw [esg]
    have q : ∀ o ∈ ["<", "=="], ∀ p ∈ ["<", "==", "!="], decide (V.str (Str.ofString p) = V.str (Str.ofString o)) = decide (p = o) := by decide
    refine q o ho _ ?_
    cases c.rel <;> simp [relStr]
  have cv : condValue x c = Vaslca.related c.rel (atomValue x c.one) (atomValue x c.two) := rfl
  generalize hA : atomValue x c.one = va at *
  generalize hB : atomValue x c.two = vb at *
  refine ⟨_, rfl, _, _, _, _, _, rfl, (sB _ _ g1), T.cl_stm, T.n_stm_sign, fs_stm_sign, rfl, _, rfl, ?_⟩
  show (if decide (V.str (Str.ofString h0.sign) = V.str (Str.ofString "<")) = true then _ else _)
  rw [sg2 "<" (by decide)]
  have fin : ∀ b : Bool, condValue x c = b → (if b = true then tRet (tC (.int 1)) else tRet (tC (.int 0))) { nx := fun _ _ => True, rt := Q } ([] : L2.St) H := fun b e => by
    rw [e] at k
    cases b <;> exact k
  cases hr' : c.rel with
  | lt =>
    refine if_t (by decide) ⟨_, rfl, _, rfl, _, _, rfl, rfl, _, rfl, ?_⟩
    have e : condValue x c = decide ((va : Int) < (vb : Int)) := by rw [cv, hr']; exact decide_eq_decide.mpr (by omega)
    rw [e] at k
    refine if_d (fun z => ?_) (fun z => ?_)
    · rw [decide_eq_true z] at k; exact k
    · rw [decide_eq_false z] at k; exact k
  | eq =>
    refine if_f (by decide) ⟨_, rfl, _, _, _, _, _, rfl, (sB _ _ g1), T.cl_stm, T.n_stm_sign, fs_stm_sign, rfl, _, rfl, ?_⟩
    show (if decide (V.str (Str.ofString h0.sign) = V.str (Str.ofString "==")) = true then _ else _)
    rw [sg2 "==" (by decide), hr']
    refine if_t (by decide) ⟨_, rfl, _, rfl, rfl, _, rfl, ?_⟩
    have e : condValue x c = decide (V.int (va : Int) = V.int (vb : Int)) := by
      rw [cv, hr']
      show (va == vb) = _
      by_cases z : va = vb
      · subst z; simp
      · rw [decide_eq_false (fun y => z (by have := V.int.inj y; omega))]; simpa using z
    rw [e] at k
    refine if_d (fun z => ?_) (fun z => ?_)
    · rw [decide_eq_true z] at k; exact k
    · rw [decide_eq_false z] at k; exact k
  | ne =>
    refine if_f (by decide) ⟨_, rfl, _, _, _, _, _, rfl, (sB _ _ g1), T.cl_stm, T.n_stm_sign, fs_stm_sign, rfl, _, rfl, ?_⟩
    show (if decide (V.str (Str.ofString h0.sign) = V.str (Str.ofString "==")) = true then _ else _)
    rw [sg2 "==" (by decide), hr']
    refine if_f (by decide) ⟨_, rfl, _, rfl, rfl, _, rfl, ?_⟩
    have e : condValue x c = !decide (V.int (va : Int) = V.int (vb : Int)) := by
      rw [cv, hr']
      show (va != vb) = _
      by_cases z : va = vb
      · subst z; simp
      · rw [decide_eq_false (fun y => z (by have := V.int.inj y; omega))]; simpa using z
    rw [e] at k
    refine if_nd (fun z => ?_) (fun z => ?_)
    · rw [decide_eq_false z] at k; exact k
    · rw [decide_eq_true z] at k; exact k
end
end Ld
end
section
set_option Elab.async false
set_option maxRecDepth 100000
set_option maxHeartbeats 4000000
namespace Ld
open PySem PySem.Spec PyProof.Rows L2
open Vaslca (Text ascii isName isDigit isSmall isAtom isExpr isCond numberOf atomOf valueOf decimal cutAt atomText findVar atomValue exprValue exprUses condValue condUses atomUses withStep withVar doSet doRead doWrite doStop doTest exec rounds held lastOf only runOf statusNumber linesOf deepOf)
def setVar (y : VRun) (v : Vaslca.Name) (val src : Nat) : VRun := { y with vars := ⟨v, val, src⟩ :: y.vars.filter fun z => z.name != v }
theorem find_setVar (x : VRun) (v : Vaslca.Name) (val src : Nat) (t : Vaslca.Name) : findVar (setVar x v val src) t = if t = v then some ⟨v, val, src⟩ else findVar x t := by
  unfold findVar setVar
  show ((⟨v, val, src⟩ : Vaslca.Var) :: x.vars.filter fun y => y.name != v).find? (fun y => y.name == t) = _
  rw [List.find?_cons]
  by_cases c : t = v
  · subst c
    simp
  · have c' : (v == t) = false := by simpa using fun z : v = t => c z.symm
    rw [if_neg c]
    dsimp only
    rw [c']
    dsimp only
    induction x.vars with
    | nil => rfl
    | cons y r ih =>
      by_cases d : y.name = v
      · have d1 : (y.name != v) = false := by simp [d]
        have d2 : (y.name == t) = false := by rw [d]; exact c'
        rw [List.filter_cons, List.find?_cons, d1, d2]
        simpa using ih
      · have d1 : (y.name != v) = true := by simp [d]
        rw [List.filter_cons, d1]
        simp only [if_true]
        rw [List.find?_cons, List.find?_cons]
        cases y.name == t with
        | true => rfl
        | false => exact ih
theorem RunAt.setVar {C : Cs} {B H : Hp} {r : Addr} {P : List PL} {d l : List Nat} {y : VRun} (R : RunAt C B H r P d l y) {dr c : Addr} {v0 v1 v2 v3 v5 v6 : V} {kvs : List (List Key × V)} {v : Vaslca.Name} {val src : Nat} (hr : H r = some (.ins C.run dr (fs_run v0 v1 v2 v3 (.ref c) v5 v6)))
    (hc : H c = some (.dT kvs)) (hlen : kvs.length < y.steps.length) (ok' : RunOk (Ld.setVar y v val src)) : RunAt C B (upd H c (.dT (putK kvs (keyOf v) (.int (src : Nat))))) r P d l (Ld.setVar y v val src) := by
  obtain ⟨⟨dr', p, da, li, s', c', rd, ts, kvs', rs, h1, h2, h3, h4, h5, h6, h7, h8, h9, h10, h11, h12, h13, b1, b2, b3, b4, ne⟩, sB, ok⟩ := R
  rw [h1] at hr
  have e := (HO.ins.inj (Option.some.inj hr)).2.2
  have e1 : c' = c := V.ref.inj (Prod.mk.inj (List.cons.inj (List.cons.inj (List.cons.inj (List.cons.inj (List.cons.inj e).2).2).2).2).1).2
  subst e1
  have e2 : kvs' = kvs := by
    rw [h7] at hc
    exact HO.dT.inj (Option.some.inj hc)
  subst e2
  have pl := length_putK kvs' (keyOf v) (V.int (src : Nat))
  refine ⟨⟨dr', p, da, li, s', c', rd, ts, _, rs, ?_, h2, h3, h4, ?_, h6, upd_same, fun t => ?_, ?_, ?_, h11, h12, h13, b1, b2, b3, b4, ne⟩, sB.put b3 _, ok'⟩
  · rw [upd_ne (ne_of h1 h7 (by intro z; cases z))]; exact h1
  · rw [upd_ne (ne_of h5 h7 (by intro z; cases z))]; exact h5
  · rw [valV_put, find_setVar]
    by_cases z : t = v
    · subst z; rw [if_pos rfl, if_pos rfl]; rfl
    · rw [if_neg z, if_neg (fun q => z (keyOf_inj q))]; exact h8 t
  · exact Nat.le_trans pl (show _ ≤ y.steps.length by omega)
  · rw [upd_ne (ne_of h10 h7 (by intro z; cases z))]; exact h10
theorem RunAt.addRead {C : Cs} {B H : Hp} {r : Addr} {P : List PL} {d l : List Nat} {y : VRun} (R : RunAt C B H r P d l y) {dr rd : Addr} {v0 v1 v2 v3 v4 v6 : V} {rs : List Nat} {k : Nat} (hr : H r = some (.ins C.run dr (fs_run v0 v1 v2 v3 v4 (.ref rd) v6)))
    (hrd : H rd = some (.lst (nV rs))) (hlen : rs.length < y.steps.length) (ok' : RunOk { y with input := y.input.drop 1, read := some k }) : RunAt C B (upd H rd (.lst (nV rs ++ [.int (k : Int)]))) r P d l { y with input := y.input.drop 1, read := some k } := by
  obtain ⟨⟨dr', p, da, li, s', c', rd', ts, kvs', rs', h1, h2, h3, h4, h5, h6, h7, h8, h9, h10, h11, h12, h13, b1, b2, b3, b4, ne⟩, sB, ok⟩ := R
  rw [h1] at hr
  have e := (HO.ins.inj (Option.some.inj hr)).2.2
  have e1 : rd' = rd := V.ref.inj (Prod.mk.inj (List.cons.inj (List.cons.inj (List.cons.inj (List.cons.inj (List.cons.inj (List.cons.inj e).2).2).2).2).2).1).2
  subst e1
  have e2 : rs' = rs := by
    rw [h10] at hrd
    have q := HO.lst.inj (Option.some.inj hrd)
    have inj : ∀ {a b : List Nat}, nV a = nV b → a = b := by
      intro a b h
      refine nats_inj.mp ?_
      rw [nV_iV, nV_iV] at h
      unfold iV at h
      exact List.map_inj_right (fun x y z => V.int.inj z) |>.mp h
    exact inj q
  subst e2
  refine ⟨⟨dr', p, da, li, s', c', rd', ts, kvs', rs' ++ [k], ?_, h2, h3, h4, ?_, h6, ?_, h8, h9, ?_, ?_, by simp, ?_, b1, b2, b3, b4, ne⟩, sB.put b4 _, ok'⟩
  · rw [upd_ne (ne_of h1 h10 (by intro z; cases z))]; exact h1
  · rw [upd_ne ne]; exact h5
  · rw [upd_ne (ne_of h7 h10 (by intro z; cases z))]; exact h7
  · rw [upd_same]; unfold nV; rw [List.map_append]; rfl
  · show y.input.drop 1 = _
    rw [h11, List.drop_drop, List.length_append]
    rfl
  · rw [List.length_append]; simp only [List.length_singleton]; exact hlen
theorem RunAt.stop {C : Cs} {B H : Hp} {r : Addr} {P : List PL} {d l : List Nat} {y : VRun} (R : RunAt C B H r P d l y) {dr : Addr} {v0 v1 v2 v3 v4 v5 v6 : V} (t : Vaslca.Status) (hr : H r = some (.ins C.run dr (fs_run v0 v1 v2 v3 v4 v5 v6))) :
    RunAt C B (upd H r (.ins C.run dr (fs_run v0 v1 v2 v3 v4 v5 (.int (statusNumber t : Nat))))) r P d l { y with status := t } := by
  obtain ⟨⟨dr', p, da, li, s', c', rd, ts, kvs', rs, h1, h2, h3, h4, h5, h6, h7, h8, h9, h10, h11, h12, h13, b1, b2, b3, b4, ne⟩, sB, ok⟩ := R
  have hr' := hr
  rw [h1] at hr'
  have e0 := HO.ins.inj (Option.some.inj hr')
  have e := e0.2.2
  have a0 := List.cons.inj e
  have a1 := List.cons.inj a0.2
  have a2 := List.cons.inj a1.2
  have a3 := List.cons.inj a2.2
  have a4 := List.cons.inj a3.2
  have a5 := List.cons.inj a4.2
  have f0 := (Prod.mk.inj a0.1).2
  have f1 := (Prod.mk.inj a1.1).2
  have f2 := (Prod.mk.inj a2.1).2
  have f3 := (Prod.mk.inj a3.1).2
  have f4 := (Prod.mk.inj a4.1).2
  have f5 := (Prod.mk.inj a5.1).2
  rw [← f0, ← f1, ← f2, ← f3, ← f4, ← f5, ← e0.2.1]
  refine ⟨⟨dr', p, da, li, s', c', rd, ts, kvs', rs, upd_same, h2, h3, h4, ?_, h6, ?_, h8, h9, ?_, h11, h12, h13, b1, b2, b3, b4, ne⟩, sB.put b1 _, ok.stat t⟩
  · rw [upd_ne (ne_of h5 h1 (by intro z; cases z))]; exact h5
  · rw [upd_ne (ne_of h7 h1 (by intro z; cases z))]; exact h7
  · rw [upd_ne (ne_of h10 h1 (by intro z; cases z))]; exact h10
def ResRun (C : Cs) (B : Hp) (r : Addr) (P : List PL) (d l : List Nat) (y : VRun) (Q : VK) : Prop := ∀ B' H', Same B B' → RunAt C B' H' r P d l y → Q .non H'
def ctrlOk (k : Option Nat) (x : VRun) : Prop := ∀ j, k = some j → j < x.steps.length
def spDoSet (C : Cs) : Sp := fun vs H Q _ => ∃ (r : Addr) (n : Nat) (k : Option Nat) (B : Hp) (P : List PL) (d l : List Nat) (x : VRun) (pl : PL) (v : Vaslca.Name) (e : Vaslca.Expr), vs = [.ref r, .int (n : Int), letV k] ∧ RunAt C B H r P d l x ∧ P[n]? = some pl ∧ pl.head = .set v e ∧ x.status = .going ∧ ctrlOk k x ∧ ResRun C B r P d l (doSet k n v e x) Q
def spDoRead (C : Cs) : Sp := fun vs H Q _ => ∃ (r : Addr) (n : Nat) (k : Option Nat) (B : Hp) (P : List PL) (d l : List Nat) (x : VRun) (pl : PL) (v : Vaslca.Name), vs = [.ref r, .int (n : Int), letV k] ∧ RunAt C B H r P d l x ∧ P[n]? = some pl ∧ pl.head = .read v ∧ x.status = .going ∧ ctrlOk k x ∧ ResRun C B r P d l (doRead k n v x) Q
def spDoWrite (C : Cs) : Sp := fun vs H Q _ => ∃ (r : Addr) (n : Nat) (k : Option Nat) (B : Hp) (P : List PL) (d l : List Nat) (x : VRun) (pl : PL) (a : Vaslca.Atom), vs = [.ref r, .int (n : Int), letV k] ∧ RunAt C B H r P d l x ∧ P[n]? = some pl ∧ pl.head = .write a ∧ x.status = .going ∧ ctrlOk k x ∧ ResRun C B r P d l (doWrite k n a x) Q
def spDoStop (C : Cs) : Sp := fun vs H Q _ => ∃ (r : Addr) (n : Nat) (k : Option Nat) (B : Hp) (P : List PL) (d l : List Nat) (x : VRun) (pl : PL), vs = [.ref r, .int (n : Int), letV k] ∧ RunAt C B H r P d l x ∧ P[n]? = some pl ∧ pl.head = .halt ∧ x.status = .going ∧ ctrlOk k x ∧ ResRun C B r P d l (doStop k n x) Q
def testV (x : VRun) (k : Option Nat) (n : Nat) (c : Vaslca.Cond) : Int := if (doTest k n c x).status = .going then (if condValue x c = true then 1 else 0) else -1
def ResTest (C : Cs) (B : Hp) (r : Addr) (P : List PL) (d l : List Nat) (x : VRun) (k : Option Nat) (n : Nat) (c : Vaslca.Cond) (Q : VK) : Prop := ∀ B' H', Same B B' → RunAt C B' H' r P d l (doTest k n c x) → Q (.int (testV x k n c)) H'
def spDoTest (C : Cs) : Sp := fun vs H Q _ => ∃ (r : Addr) (n : Nat) (k : Option Nat) (B : Hp) (P : List PL) (d l : List Nat) (x : VRun) (pl : PL) (c : Vaslca.Cond), vs = [.ref r, .int (n : Int), letV k] ∧ RunAt C B H r P d l x ∧ P[n]? = some pl ∧ (pl.head = .ite c ∨ pl.head = .loop c) ∧ x.status = .going ∧ ctrlOk k x ∧ ResTest C B r P d l x k n c Q
def spAsk (C : Cs) : Sp := fun vs H Q _ => ∃ (r : Addr) (n j : Nat) (B : Hp) (P : List PL) (d l : List Nat) (x : VRun) (pl : PL) (c : Vaslca.Cond), vs = [.ref r, .int (n : Int), .int (j : Int)] ∧ RunAt C B H r P d l x ∧ P[n]? = some pl ∧ (pl.head = .ite c ∨ pl.head = .loop c) ∧ j < x.steps.length ∧ ResTest C B r P d l x (some j) n c Q
theorem status_dec (t : Vaslca.Status) : decide (V.int (statusNumber t : Nat) = V.int 0) = decide (t = .going) := by cases t <;> decide
/-- what a line's own Statement is -/
theorem RunAt.stm {C : Cs} {B H : Hp} {r : Addr} {P : List PL} {d l : List Nat} {x : VRun} (R : RunAt C B H r P d l x) {n : Nat} {pl : PL} (e : P[n]? = some pl) :
    ∃ dr p v1 v2 v3 v4 v5 v6 dx s pa si as a, H r = some (.ins C.run dr (fs_run (.ref p) v1 v2 v3 v4 v5 v6)) ∧ H p = some (.ins C.prg dx (fs_prg (.ref s) pa si)) ∧ H s = some (.lst (rV as)) ∧ (rV as)[n]? = some (.ref a) ∧ StmAt C B a pl.head := by
  obtain ⟨⟨dr, p, da, li, s', c, rd, ts, kvs, rs, h1, h2, _⟩, sB, ok⟩ := R
  obtain ⟨dx, s, pa, si, as, a, p1, p2, p3, hS⟩ := RunAt.line h2 sB e
  exact ⟨dr, p, _, _, _, _, _, _, dx, s, pa, si, as, a, h1, p1, p2, p3, hS⟩
section
variable {P : Program} {w : World} {K : PySem.W.Frag} {mg : Str → Option Value} {base : Heap} {C : Cs}
abbrev s_Run_do_set : Stmt := inClass (top 20) 8
theorem sc_Run_do_set : FnScope ["self", "line", "let", "statement"] ["self", "line", "let"] (defScope s_Run_do_set) := ⟨rfl, rfl, rfl, by decide +kernel, rfl, by decide +kernel, by decide +kernel⟩
theorem ok_Run_do_set (T : Txt K mg C) : OkM P w K mg base C.run 4 "do_set" ["self", "line", "let"] (spDoSet C) := by
  have h_Run_make_step := ok_Run_make_step (P := P) (w := w) (base := base) T
  have h_Run_reckon := ok_Run_reckon (P := P) (w := w) (base := base) T
  have h_Run_sources := ok_Run_sources (P := P) (w := w) (base := base) T
  obtain ⟨f, fd, hm, F, b⟩ := T.m_Run_do_set
  refine ⟨f, fd, hm, b, F.ok sc_Run_do_set (fun vs H Q E h => ?_) (fun cdv A outer s H vs Q E hr h => ?_)⟩
  · obtain ⟨r, n, k, B, P, d, l, x, pl, v, e, rfl, _⟩ := h
    rfl
  refine ⟨_, (pss_cons (ps_set (i := 3) sc_Run_do_set.nd rfl (Or.inl rfl) (pe_ix ix_list (pe_fld (pe_fld (pv 0) rfl) rfl) (pv 1) (fun _ _ => rfl)))
        (pss_one (ps_if (pt_val (pe_cm (pv 0) T.cl_run h_Run_make_step (hr.mono (by decide)) (pa_cons (pv 1) (pa_cons (pe_cm (pv 0) T.cl_run h_Run_reckon (hr.mono (by decide)) (pa_cons (pv 3) pa_nil)) (pa_cons (pe_cm (pv 0) T.cl_run h_Run_sources (hr.mono (by decide)) (pa_cons (pv 1) (pa_cons (pv 2) pa_nil))) pa_nil))))) (pss_one (ps_dput (hu_of hr) (pe_fld (pv 0) rfl) (pe_fld (pv 3) rfl) (pe_op op_sub (pe_callB call_len_seq (by rfl) T.len PySem.boot_len (pa_cons (pe_fld (pv 0) rfl) pa_nil)) pe_int) rfl)) pss_nil))), ?_⟩
  obtain ⟨r, n, k0, B, P0, d, l, x, pl, v, e, rfl, R, hpl, hh, hg, hk, k⟩ := h
  obtain ⟨dr, p, v1, v2, v3, v4, v5, v6, dx, s', pa, si, as, a, h1, p1, p2, p3, hS⟩ := R.stm hpl
  rw [hh] at hS
  have ok := R.ok
  have gok : (isName v && isExpr e) = true := hS.ok
  rw [Bool.and_eq_true] at gok
  refine ⟨_, rfl, _, _, _, _, _, rfl, h1, T.cl_run, T.n_run_program, fs_run_program, _, _, _, _, _, rfl, p1, T.cl_prg, T.n_prg_statements, fs_prg_statements, _, rfl, _, _, _, _, rfl, rfl, SqL.of p2, atI_n p3, ?_⟩
  refine ⟨_, rfl, _, _, _, rfl, h1, fs_run_no_make_step, _, rfl, _, rfl, _, _, _, rfl, h1, fs_run_no_reckon, _, rfl, r, a, B, P0, d, l, x, v, e, rfl, R, hS, ?_⟩
  refine ⟨_, rfl, _, _, _, rfl, h1, fs_run_no_sources, _, rfl, _, rfl, r, n, k0, B, P0, d, l, x, pl, rfl, R, hpl, fun D fs hD hfs hfl => ?_⟩
  obtain ⟨B1, sB1, R1, new⟩ := R.grow (Same.new hD (.lst (nV fs)))
  have hat : pl.head.atoms = if e.op = .alone then [e.one] else [e.one, e.two] := by rw [hh]; rfl
  have src : ∀ m, m ∈ fs ↔ m ∈ srcs ⟨n, exprValue x e, exprUses x e, k0⟩ := fun m => by rw [hfs m, srcs_expr, hat]
  have lt : ∀ m ∈ srcs ⟨n, exprValue x e, exprUses x e, k0⟩, m < x.steps.length := fun m hm => by
    rw [srcs_expr, List.mem_append] at hm
    rcases hm with z | z
    · exact useSrc_lt ok m z
    · cases k0 with
      | none => cases z
      | some j => rw [List.mem_singleton.mp z]; exact hk j rfl
  have hval := ok.expr gok.2
  refine ⟨r, D, B1, P0, d, l, x, ⟨n, exprValue x e, exprUses x e, k0⟩, fs, rfl, R1, new _ _ hD upd_same, src, fun z => ok.step z hval lt, fun z H' R' => ?_, fun z B' H' s2 R' sl' => ?_⟩
  · refine ⟨_, rfl, if_f rfl ?_⟩
    have e1 : doSet k0 n v e x = { x with status := .long } := by
      unfold Vaslca.doSet Vaslca.step1
      rw [if_neg (by rw [hg]; simp), if_pos (show Vaslca.STEPS ≤ x.steps.length from z)]
    rw [e1] at k
    exact k B1 H' sB1 R'
  · refine ⟨_, rfl, if_t rfl ?_⟩
    obtain ⟨⟨dr2, p2', da, li, s2', c, rd, ts, kvs, rs, g1, g2, g3, g4, g5, g6, g7, g8, g9, g10, _⟩, sB', ok'⟩ := id R'
    have sl : (rV ts).length = x.steps.length + 1 := by rw [rV_length, g6.len]; show (x.steps ++ [_]).length = _; simp
    have e1 : doSet k0 n v e x = setVar (withStep x ⟨n, exprValue x e, exprUses x e, k0⟩) v (exprValue x e) x.steps.length := by
      unfold Vaslca.doSet Vaslca.step1
      rw [if_neg (by rw [hg]; simp), if_neg (show ¬ Vaslca.STEPS ≤ x.steps.length by show ¬ 120 ≤ _; omega)]
      rfl
    obtain ⟨⟨dxs, wr, nm, at', ats, q1, q2, q3, q4, q5⟩, _⟩ := id (StmAt.same (sB1.trans s2) hS)
    have okf : RunOk (setVar (withStep x ⟨n, exprValue x e, exprUses x e, k0⟩) v (exprValue x e) x.steps.length) := ok.set (s := ⟨n, exprValue x e, exprUses x e, k0⟩) gok.1 z hval lt
    -- self.came[statement.name] = len(self.steps) - 1
    refine ⟨_, rfl, _, _, _, _, _, rfl, g1, T.cl_run, T.n_run_steps, fs_run_steps, _, _, rfl, .inl (SqL.of g5), _, _, rfl, rfl, ?_⟩
    refine ⟨_, rfl, _, _, _, _, _, rfl, g1, T.cl_run, T.n_run_came, fs_run_came, _, rfl, _, _, _, _, _, rfl, (sB' _ _ q1), T.cl_stm, T.n_stm_name, fs_stm_name, c, _, rfl, DPut.t g7 (k := keyOf v) (by rw [keyOf_kV]; exact sB' _ _ q3) ?_, ?_⟩
    · have : kvs.length ≤ x.steps.length + 1 := by have := g9; show _ ≤ _; exact Nat.le_trans this (by show (x.steps ++ [_]).length ≤ _; simp)
      exact small1000 (by omega)
    rw [e1] at k
    refine k B' _ (sB1.trans s2) ?_
    have ei : (fun i j : Int => V.int (i - j)) (((rV ts).length : Nat) : Int) 1 = V.int (x.steps.length : Nat) := by
      rw [sl]
      show V.int (((x.steps.length + 1 : Nat) : Int) - 1) = _
      congr 1
      omega
    rw [ei]
    exact R'.setVar g1 g7 (sl' _ _ _ _ _ _ _ _ _ _ g1 g7 g10).1 okf
abbrev s_Run_do_read : Stmt := inClass (top 20) 9
theorem sc_Run_do_read : FnScope ["self", "line", "let", "at", "value", "froms", "number"] ["self", "line", "let"] (defScope s_Run_do_read) := ⟨rfl, rfl, rfl, by decide +kernel, rfl, by decide +kernel, by decide +kernel⟩
theorem ok_Run_do_read (T : Txt K mg C) : OkM P w K mg base C.run 2 "do_read" ["self", "line", "let"] (spDoRead C) := by
  have h_Run_make_step := ok_Run_make_step (P := P) (w := w) (base := base) T
  have h_Run_sources := ok_Run_sources (P := P) (w := w) (base := base) T
  obtain ⟨f, fd, hm, F, b⟩ := T.m_Run_do_read
  refine ⟨f, fd, hm, b, F.ok sc_Run_do_read (fun vs H Q E h => ?_) (fun cdv A outer s H vs Q E hr h => ?_)⟩
  · obtain ⟨r, n, k, B, P, d, l, x, pl, v, rfl, _⟩ := h
    rfl
  refine ⟨_, (pss_cons (ps_set (i := 3) sc_Run_do_read.nd rfl (Or.inl rfl) (pe_callB call_len_seq (by rfl) T.len PySem.boot_len (pa_cons (pe_fld (pv 0) rfl) pa_nil)))
        (pss_cons (ps_set (i := 4) sc_Run_do_read.nd rfl (Or.inl rfl) (pe_ifExp (pt_cmpR op_lt (pv 3) (pe_callB call_len_seq (by rfl) T.len PySem.boot_len (pa_cons (pe_fld (pv 0) rfl) pa_nil)) (nomark _)) (pe_ix ix_list (pe_fld (pv 0) rfl) (pv 3) (fun _ _ => rfl)) pe_int))
        (pss_cons (ps_set (i := 5) sc_Run_do_read.nd rfl (Or.inl rfl) (pe_cm (pv 0) T.cl_run h_Run_sources (hr.mono (by decide)) (pa_cons (pv 1) (pa_cons (pv 2) pa_nil))))
        (pss_cons (ps_if (pt_cmpR op_gt (pv 3) pe_int (nomark _)) (pss_one (ps_expr (pe_bm PySem.F.plainAttrs_list PySem.F.slot_list_append PySem.F.type_list_append mt_append (pv 5) (pa_cons (pe_ix ix_list (pe_fld (pv 0) rfl) (pe_op op_sub (pv 3) pe_int) (fun _ _ => rfl)) pa_nil)))) pss_nil)
        (pss_one (ps_if (pt_val (pe_cm (pv 0) T.cl_run h_Run_make_step (hr.mono (by decide)) (pa_cons (pv 1) (pa_cons (pv 4) (pa_cons (pv 5) pa_nil))))) (pss_cons (ps_set (i := 6) sc_Run_do_read.nd rfl (Or.inl rfl) (pe_op op_sub (pe_callB call_len_seq (by rfl) T.len PySem.boot_len (pa_cons (pe_fld (pv 0) rfl) pa_nil)) pe_int))
        (pss_cons (ps_expr (pe_bm PySem.F.plainAttrs_list PySem.F.slot_list_append PySem.F.type_list_append mt_append (pe_fld (pv 0) rfl) (pa_cons (pv 6) pa_nil)))
        (pss_one (ps_dput (hu_of hr) (pe_fld (pv 0) rfl) (pe_fld (pe_ix ix_list (pe_fld (pe_fld (pv 0) rfl) rfl) (pv 1) (fun _ _ => rfl)) rfl) (pv 6) rfl)))) pss_nil)))))), ?_⟩
  obtain ⟨r, n, k0, B, P0, d, l, x, pl, v, rfl, R, hpl, hh, hg, hk, k⟩ := h
  obtain ⟨⟨dr, p, da, li, s', c, rd, ts, kvs, rs, h1, h2, h3, h4, h5, h6, h7, h8, h9, h10, h11, h12, h13, b1, b2, b3, b4, ne⟩, sB, ok⟩ := id R
  obtain ⟨_, _, _, _, _, _, _, _, _, _, _, _, _, _, _, _, _, _, hS⟩ := R.stm hpl
  rw [hh] at hS
  have gok : isName v = true := hS.ok
  -- at = len(self.reads)
  refine ⟨_, rfl, _, _, _, _, _, rfl, h1, T.cl_run, T.n_run_reads, fs_run_reads, _, _, rfl, .inl (SqL.of h10), ?_⟩
  rw [nV_length]
  -- value = self.data[at] if at < len(self.data) else 0
  have hin : x.input.headD 0 = (d[rs.length]?).getD 0 := by
    rw [h11, List.headD_eq_head?_getD, List.head?_drop]
  have vle : x.input.headD 0 ≤ 999 := by
    cases e : x.input with
    | nil => simp
    | cons a t => exact ok.inp a (by rw [e]; simp)
  refine nx_go' (sq_asgH (PV := fun u H2 => u = .int (x.input.headD 0 : Nat) ∧ H2 = H) ?_ ?_)
  · intro Q0 q0
    refine ⟨_, rfl, _, rfl, _, _, _, _, _, rfl, h1, T.cl_run, T.n_run_data, fs_run_data, _, _, rfl, .inl (SqL.of (sB _ _ h3)), _, _, rfl, rfl, _, rfl, ?_⟩
    rw [nV_length]
    refine if_d (fun z => ?_) (fun z => ?_)
    · have hlt : rs.length < d.length := by omega
      have hd : (nV d)[rs.length]? = some (.int (d[rs.length] : Nat)) := by unfold nV; rw [List.getElem?_map, List.getElem?_eq_getElem hlt]; rfl
      refine ⟨_, rfl, _, _, _, _, _, rfl, h1, T.cl_run, T.n_run_data, fs_run_data, _, rfl, _, _, _, _, rfl, rfl, SqL.of (sB _ _ h3), atI_n hd, ?_⟩
      refine q0 _ _ ⟨?_, rfl⟩
      rw [hin, List.getElem?_eq_getElem hlt]
      rfl
    · refine q0 _ _ ⟨?_, rfl⟩
      rw [hin, List.getElem?_eq_none (by omega)]
      rfl
  rintro u H2 ⟨rfl, rfl⟩
  -- froms = self.sources(line, let)
  refine ⟨_, rfl, _, _, _, rfl, h1, fs_run_no_sources, _, rfl, _, rfl, r, n, k0, B, P0, d, l, x, pl, rfl, R, hpl, fun D fs hD hfs hfl => ?_⟩
  have hat : pl.head.atoms = [] := by rw [hh]; rfl
  have hfs' : ∀ m, m ∈ fs ↔ m ∈ k0.toList := fun m => by rw [hfs m, hat]; simp [useSrc]
  -- if at > 0: froms.append(self.reads[at - 1])
  suffices next : ∀ (fs2 : List Nat), (∀ m, m ∈ fs2 ↔ m ∈ srcs ⟨n, x.input.headD 0, [⟨[], x.read⟩], k0⟩) → tIfS (tB (tMeth C.run "make_step" (spMakeStep C) [] E0 (tVar 0) (tCons (tVar 1) (tCons (tVar 4) (tCons (tVar 5) tNil)))))
      _ _ { nx := fun _ H' => Q .non H', rt := Q } [some (.ref r), some (.int (n : Int)), some (letV k0), some (.int (rs.length : Nat)), some (.int (x.input.headD 0 : Nat)), some (.ref D), none] (upd H2 D (.lst (nV fs2))) by
    refine nx_go' ?_
    refine ⟨_, rfl, _, _, rfl, rfl, _, rfl, ?_⟩
    refine if_d (fun z => ?_) (fun z => ?_)
    · have hlt : 0 < rs.length := by omega
      obtain ⟨q, hq⟩ : ∃ q, rs[rs.length - 1]? = some q := ⟨_, List.getElem?_eq_getElem (by omega)⟩
      have hrd : x.read = some q := by rw [h12, List.getLast?_eq_getElem?, hq]
      have hq2 : (nV rs)[rs.length - 1]? = some (.int (q : Nat)) := by unfold nV; rw [List.getElem?_map, hq]; rfl
      have nD : D ≠ rd := (ne_of_none h10 hD).symm
      have hat2 : atI (nV rs) ((rs.length : Int) - 1) = some (.int (q : Nat)) := by
        rw [show ((rs.length : Int) - 1) = ((rs.length - 1 : Nat) : Int) by omega]
        exact atI_n hq2
      refine ⟨_, rfl, .inl ⟨rfl, _, SqL.of upd_same⟩, _, rfl, _, _, _, _, _, rfl, (Same.new hD _ _ _ h1), T.cl_run, T.n_run_reads, fs_run_reads, _, rfl, _, _, rfl, rfl, _, _, _, _, rfl, rfl, SqL.of (Same.new hD _ _ _ h10), hat2, _, _, _, rfl, rfl, upd_same, (by rw [nV_length]; exact small1000 (by omega)), ?_⟩
      have en : nV fs ++ [V.int (q : Nat)] = nV (fs ++ [q]) := by unfold nV; rw [List.map_append]; rfl
      rw [en, upd_upd]
      refine nx_go' (next (fs ++ [q]) fun m => ?_)
      rw [srcs_read, hrd, List.mem_append, hfs' m, List.mem_append]
      exact Or.comm
    · have e0 : rs = [] := List.length_eq_zero_iff.mp (by omega)
      have hrd : x.read = none := by rw [h12, e0]; rfl
      refine nx_go (next fs fun m => ?_)
      rw [srcs_read, hrd, hfs' m]
      simp
  intro fs2 hsrc
  obtain ⟨B1, sB1, R1, new⟩ := R.grow (Same.new hD (.lst (nV fs2)))
  have lt : ∀ m ∈ srcs ⟨n, x.input.headD 0, [⟨[], x.read⟩], k0⟩, m < x.steps.length := fun m hm => by
    rw [srcs_read, List.mem_append] at hm
    rcases hm with z | z
    · cases e : x.read with
      | none => rw [e] at z; cases z
      | some j => rw [e] at z; rw [List.mem_singleton.mp z]; exact ok.rd j e
    · cases k0 with
      | none => cases z
      | some j => rw [List.mem_singleton.mp z]; exact hk j rfl
  refine ⟨_, rfl, _, _, _, rfl, (Same.new hD _ _ _ h1), fs_run_no_make_step, _, rfl, _, rfl, _, rfl, r, D, B1, P0, d, l, x, ⟨n, x.input.headD 0, [⟨[], x.read⟩], k0⟩, fs2, rfl, R1, new _ _ hD upd_same, hsrc, fun z => ok.step z vle lt, fun z H' R' => ?_, fun z B' H' s2 R' sl' => ?_⟩
  · refine ⟨_, rfl, if_f rfl ?_⟩
    have e1 : doRead k0 n v x = { x with status := .long } := by
      unfold Vaslca.doRead Vaslca.step1
      rw [if_neg (by rw [hg]; simp), if_pos (show Vaslca.STEPS ≤ x.steps.length from z)]
    rw [e1] at k
    exact k B1 H' sB1 R'
  · refine ⟨_, rfl, if_t rfl ?_⟩
    obtain ⟨⟨dr2, p2', da2, li2, s2', c2, rd2, ts2, kvs2, rs2, g1, g2, g3, g4, g5, g6, g7, g8, g9, g10, _⟩, sB', ok'⟩ := id R'
    have sl : (rV ts2).length = x.steps.length + 1 := by rw [rV_length, g6.len]; show (x.steps ++ [_]).length = _; simp
    have e1 : doRead k0 n v x = setVar { withStep x ⟨n, x.input.headD 0, [⟨[], x.read⟩], k0⟩ with input := x.input.drop 1, read := some x.steps.length } v (x.input.headD 0) x.steps.length := by
      unfold Vaslca.doRead Vaslca.step1
      rw [if_neg (by rw [hg]; simp), if_neg (show ¬ Vaslca.STEPS ≤ x.steps.length by show ¬ 120 ≤ _; omega)]
      rfl
    have slk := sl' _ _ _ _ _ _ _ _ _ _ g1 g7 g10
    have len1 : (withStep x ⟨n, x.input.headD 0, [⟨[], x.read⟩], k0⟩).steps.length = x.steps.length + 1 := by show (x.steps ++ [_]).length = _; simp
    have dle : ∀ u ∈ x.input.drop 1, u ≤ 999 := fun u hu => ok.inp u (List.mem_of_mem_drop hu)
    have okr : RunOk { withStep x ⟨n, x.input.headD 0, [⟨[], x.read⟩], k0⟩ with input := x.input.drop 1, read := some x.steps.length } := (ok.step z vle lt).readd _ _ (by rw [len1]; omega) dle
    have okf : RunOk (setVar { withStep x ⟨n, x.input.headD 0, [⟨[], x.read⟩], k0⟩ with input := x.input.drop 1, read := some x.steps.length } v (x.input.headD 0) x.steps.length) :=
      (ok.set (s := ⟨n, x.input.headD 0, [⟨[], x.read⟩], k0⟩) gok z vle lt).readd x.steps.length (x.input.drop 1) (by show x.steps.length < (x.steps ++ [_]).length; simp) dle
    -- number = len(self.steps) - 1
    refine ⟨_, rfl, _, _, _, _, _, rfl, g1, T.cl_run, T.n_run_steps, fs_run_steps, _, _, rfl, .inl (SqL.of g5), _, _, rfl, rfl, ?_⟩
    have ei : (fun i j : Int => V.int (i - j)) (((rV ts2).length : Nat) : Int) 1 = V.int (x.steps.length : Nat) := by
      rw [sl]
      show V.int (((x.steps.length + 1 : Nat) : Int) - 1) = _
      congr 1
      omega
    rw [ei]
    have rl : rs2.length ≤ x.steps.length := by have := slk.2; rw [len1] at this; omega
    have zl : x.steps.length ≤ 120 := ok.len
    refine ⟨_, rfl, _, _, _, _, _, rfl, g1, T.cl_run, T.n_run_reads, fs_run_reads, .inl ⟨rfl, _, SqL.of g10⟩, _, rfl, _, _, _, rfl, rfl, g10, (by rw [nV_length]; exact small1000 (by omega)), ?_⟩
    have R3 := R'.addRead (k := x.steps.length) g1 g10 slk.2 okr
    obtain ⟨dr3, p3, u1, u2, u3, u4, u5, u6, dx3, s3, pa3, si3, as3, a3, m1, m2, m3, m4, hS3⟩ := R3.stm hpl
    have ng1 : r ≠ rd2 := ne_of g1 g10 (by intro z; cases z)
    have ng2 : c2 ≠ rd2 := ne_of g7 g10 (by intro z; cases z)
    have g1' := (upd_ne (H := H') (o := .lst (nV rs2 ++ [.int (x.steps.length : Nat)])) ng1).trans g1
    have g7' := (upd_ne (H := H') (o := .lst (nV rs2 ++ [.int (x.steps.length : Nat)])) ng2).trans g7
    rw [hh] at hS3
    obtain ⟨⟨dxs, wr, nm, at', ats, q1, q2, q3, q4, q5⟩, _⟩ := id (StmAt.same R3.same hS3)
    have kl : kvs2.length ≤ x.steps.length := by have := slk.1; rw [len1] at this; omega
    refine ⟨_, rfl, _, rfl, _, _, _, _, _, rfl, g1', T.cl_run, T.n_run_came, fs_run_came, _, rfl, _, _, _, _, _, rfl, m1, T.cl_run, T.n_run_program, fs_run_program, _, _, _, _, _, rfl, m2, T.cl_prg, T.n_prg_statements, fs_prg_statements, _, rfl, _, _, _, _, rfl, rfl, SqL.of m3, atI_n m4, _, _, _, _, _, rfl, q1, T.cl_stm, T.n_stm_name, fs_stm_name, c2, _, rfl, DPut.t g7' (k := keyOf v) (by rw [keyOf_kV]; exact q3) (small1000 (by omega)), ?_⟩
    rw [e1] at k
    exact k B' _ (sB1.trans s2) (R3.setVar g1' g7' slk.1 okf)
abbrev s_Run_do_write : Stmt := inClass (top 20) 10
theorem sc_Run_do_write : FnScope ["self", "line", "let", "value"] ["self", "line", "let"] (defScope s_Run_do_write) := ⟨rfl, rfl, rfl, by decide +kernel, rfl, by decide +kernel, by decide +kernel⟩
theorem ok_Run_do_write (T : Txt K mg C) : OkM P w K mg base C.run 3 "do_write" ["self", "line", "let"] (spDoWrite C) := by
  have h_Run_make_step := ok_Run_make_step (P := P) (w := w) (base := base) T
  have h_Run_sources := ok_Run_sources (P := P) (w := w) (base := base) T
  have h_Run_value := ok_Run_value (P := P) (w := w) (base := base) T
  obtain ⟨f, fd, hm, F, b⟩ := T.m_Run_do_write
  refine ⟨f, fd, hm, b, F.ok sc_Run_do_write (fun vs H Q E h => ?_) (fun cdv A outer s H vs Q E hr h => ?_)⟩
  · obtain ⟨r, n, k, B, P, d, l, x, pl, a, rfl, _⟩ := h
    rfl
  refine ⟨_, (pss_cons (ps_set (i := 3) sc_Run_do_write.nd rfl (Or.inl rfl) (pe_cm (pv 0) T.cl_run h_Run_value (hr.mono (by decide)) (pa_cons (pe_ix ix_list (pe_fld (pe_ix ix_list (pe_fld (pe_fld (pv 0) rfl) rfl) (pv 1) (fun _ _ => rfl)) rfl) pe_int (fun _ _ => rfl)) pa_nil)))
        (pss_one (ps_expr (pe_cm (pv 0) T.cl_run h_Run_make_step (hr.mono (by decide)) (pa_cons (pv 1) (pa_cons (pv 3) (pa_cons (pe_cm (pv 0) T.cl_run h_Run_sources (hr.mono (by decide)) (pa_cons (pv 1) (pa_cons (pv 2) pa_nil))) pa_nil))))))), ?_⟩
  obtain ⟨r, n, k0, B, P0, d, l, x, pl, t, rfl, R, hpl, hh, hg, hk, k⟩ := h
  obtain ⟨dr, p, v1, v2, v3, v4, v5, v6, dx, s', pa, si, as, a, h1, p1, p2, p3, hS⟩ := R.stm hpl
  rw [hh] at hS
  have ok := R.ok
  have sB := R.same
  have gok : isAtom t = true := hS.ok
  obtain ⟨⟨dxs, wr, nm, at', ats, g1, g2, g3, g4, g5⟩, _⟩ := id hS
  obtain ⟨t0, i0, l0⟩ := g5.get (i := 0) (x := t) rfl
  refine ⟨_, rfl, _, _, _, rfl, h1, fs_run_no_value, _, rfl, _, _, _, _, _, rfl, h1, T.cl_run, T.n_run_program, fs_run_program, _, _, _, _, _, rfl, p1, T.cl_prg, T.n_prg_statements, fs_prg_statements, _, rfl, _, _, _, _, rfl, rfl, SqL.of p2, atI_n p3, _, _, _, _, _, rfl, (sB _ _ g1), T.cl_stm, T.n_stm_atoms, fs_stm_atoms, _, _, _, _, rfl, rfl, SqL.of (sB _ _ g4), atI_n (i := 0) (rV_at i0), r, t0, B, P0, d, l, x, t, rfl, R, sB _ _ l0, gok, ?_⟩
  refine ⟨_, rfl, _, _, _, rfl, h1, fs_run_no_make_step, _, rfl, _, rfl, _, rfl, _, _, _, rfl, h1, fs_run_no_sources, _, rfl, _, rfl, r, n, k0, B, P0, d, l, x, pl, rfl, R, hpl, fun D fs hD hfs hfl => ?_⟩
  obtain ⟨B1, sB1, R1, new⟩ := R.grow (Same.new hD (.lst (nV fs)))
  have hat : pl.head.atoms = [t] := by rw [hh]; rfl
  have src : ∀ m, m ∈ fs ↔ m ∈ srcs ⟨n, atomValue x t, atomUses x t, k0⟩ := fun m => by rw [hfs m, srcs_write, hat]
  have lt : ∀ m ∈ srcs ⟨n, atomValue x t, atomUses x t, k0⟩, m < x.steps.length := fun m hm => by
    rw [srcs_write, List.mem_append] at hm
    rcases hm with z | z
    · exact useSrc_lt ok m z
    · cases k0 with
      | none => cases z
      | some j => rw [List.mem_singleton.mp z]; exact hk j rfl
  have hval := ok.atom gok
  refine ⟨r, D, B1, P0, d, l, x, ⟨n, atomValue x t, atomUses x t, k0⟩, fs, rfl, R1, new _ _ hD upd_same, src, fun z => ok.step z hval lt, fun z H' R' => ?_, fun z B' H' s2 R' sl' => ?_⟩
  · have e1 : doWrite k0 n t x = { x with status := .long } := by
      unfold Vaslca.doWrite Vaslca.step1
      rw [if_neg (by rw [hg]; simp), if_pos (show Vaslca.STEPS ≤ x.steps.length from z)]
    rw [e1] at k
    exact k B1 H' sB1 R'
  · have e1 : doWrite k0 n t x = withStep x ⟨n, atomValue x t, atomUses x t, k0⟩ := by
      unfold Vaslca.doWrite Vaslca.step1
      rw [if_neg (by rw [hg]; simp), if_neg (show ¬ Vaslca.STEPS ≤ x.steps.length by show ¬ 120 ≤ _; omega)]
    rw [e1] at k
    exact k B' H' (sB1.trans s2) R'
abbrev s_Run_do_stop : Stmt := inClass (top 20) 11
theorem sc_Run_do_stop : FnScope ["self", "line", "let"] ["self", "line", "let"] (defScope s_Run_do_stop) := ⟨rfl, rfl, rfl, by decide +kernel, rfl, by decide +kernel, by decide +kernel⟩
theorem ok_Run_do_stop (T : Txt K mg C) : OkM P w K mg base C.run 2 "do_stop" ["self", "line", "let"] (spDoStop C) := by
  have h_Run_make_step := ok_Run_make_step (P := P) (w := w) (base := base) T
  have h_Run_sources := ok_Run_sources (P := P) (w := w) (base := base) T
  obtain ⟨f, fd, hm, F, b⟩ := T.m_Run_do_stop
  refine ⟨f, fd, hm, b, F.ok sc_Run_do_stop (fun vs H Q E h => ?_) (fun cdv A outer s H vs Q E hr h => ?_)⟩
  · obtain ⟨r, n, k, B, P, d, l, x, pl, rfl, _⟩ := h
    rfl
  refine ⟨_, (pss_one (ps_if (pt_val (pe_cm (pv 0) T.cl_run h_Run_make_step (hr.mono (by decide)) (pa_cons (pv 1) (pa_cons pe_int (pa_cons (pe_cm (pv 0) T.cl_run h_Run_sources (hr.mono (by decide)) (pa_cons (pv 1) (pa_cons (pv 2) pa_nil))) pa_nil))))) (pss_one (ps_fld (pv 0) (pe_gi rfl T.c_STOPPED) rfl)) pss_nil)), ?_⟩
  obtain ⟨r, n, k0, B, P0, d, l, x, pl, rfl, R, hpl, hh, hg, hk, k⟩ := h
  obtain ⟨dr, p, v1, v2, v3, v4, v5, v6, dx, s', pa, si, as, a, h1, p1, p2, p3, hS⟩ := R.stm hpl
  have ok := R.ok
  refine ⟨_, rfl, _, _, _, rfl, h1, fs_run_no_make_step, _, rfl, _, rfl, _, _, _, rfl, h1, fs_run_no_sources, _, rfl, _, rfl, r, n, k0, B, P0, d, l, x, pl, rfl, R, hpl, fun D fs hD hfs hfl => ?_⟩
  obtain ⟨B1, sB1, R1, new⟩ := R.grow (Same.new hD (.lst (nV fs)))
  have hat : pl.head.atoms = [] := by rw [hh]; rfl
  have src : ∀ m, m ∈ fs ↔ m ∈ srcs ⟨n, 0, [], k0⟩ := fun m => by rw [hfs m, srcs_none, hat]; simp [useSrc]
  have lt : ∀ m ∈ srcs ⟨n, 0, [], k0⟩, m < x.steps.length := fun m hm => by
    rw [srcs_none] at hm
    cases k0 with
    | none => cases hm
    | some j => rw [List.mem_singleton.mp hm]; exact hk j rfl
  refine ⟨r, D, B1, P0, d, l, x, ⟨n, 0, [], k0⟩, fs, rfl, R1, new _ _ hD upd_same, src, fun z => ok.step z (Nat.zero_le _) lt, fun z H' R' => ?_, fun z B' H' s2 R' sl' => ?_⟩
  · refine ⟨_, rfl, if_f rfl ?_⟩
    have e1 : doStop k0 n x = { x with status := .long } := by
      unfold Vaslca.doStop Vaslca.step1
      rw [if_neg (by rw [hg]; simp), if_pos (show Vaslca.STEPS ≤ x.steps.length from z)]
    rw [e1] at k
    exact k B1 H' sB1 R'
  · refine ⟨_, rfl, if_t rfl ?_⟩
    have e1 : doStop k0 n x = { withStep x ⟨n, 0, [], k0⟩ with status := .stopped } := by
      unfold Vaslca.doStop Vaslca.step1
      rw [if_neg (by rw [hg]; simp), if_neg (show ¬ Vaslca.STEPS ≤ x.steps.length by show ¬ 120 ≤ _; omega)]
    rw [e1] at k
    obtain ⟨⟨dr2, p2', da2, li2, s2', c2, rd2, ts2, kvs2, rs2, g1, _⟩, sB', ok'⟩ := id R'
    refine ⟨_, rfl, _, _, _, _, rfl, g1, T.cl_run, T.n_run_how, (by rw [fs_run_len]; decide), ?_⟩
    rw [fs_run_put_how]
    exact k B' _ (sB1.trans s2) (R'.stop .stopped g1)
abbrev s_Run_do_test : Stmt := inClass (top 20) 12
theorem sc_Run_do_test : FnScope ["self", "line", "let", "value"] ["self", "line", "let"] (defScope s_Run_do_test) := ⟨rfl, rfl, rfl, by decide +kernel, rfl, by decide +kernel, by decide +kernel⟩
theorem ok_Run_do_test (T : Txt K mg C) : OkM P w K mg base C.run 4 "do_test" ["self", "line", "let"] (spDoTest C) := by
  have h_Run_holds := ok_Run_holds (P := P) (w := w) (base := base) T
  have h_Run_make_step := ok_Run_make_step (P := P) (w := w) (base := base) T
  have h_Run_sources := ok_Run_sources (P := P) (w := w) (base := base) T
  obtain ⟨f, fd, hm, F, b⟩ := T.m_Run_do_test
  refine ⟨f, fd, hm, b, F.ok sc_Run_do_test (fun vs H Q E h => ?_) (fun cdv A outer s H vs Q E hr h => ?_)⟩
  · obtain ⟨r, n, k, B, P, d, l, x, pl, c, rfl, _⟩ := h
    rfl
  refine ⟨_, (pss_cons (ps_set (i := 3) sc_Run_do_test.nd rfl (Or.inl rfl) (pe_cm (pv 0) T.cl_run h_Run_holds (hr.mono (by decide)) (pa_cons (pe_ix ix_list (pe_fld (pe_fld (pv 0) rfl) rfl) (pv 1) (fun _ _ => rfl)) pa_nil)))
        (pss_cons (ps_if (pt_val (pe_cm (pv 0) T.cl_run h_Run_make_step (hr.mono (by decide)) (pa_cons (pv 1) (pa_cons (pv 3) (pa_cons (pe_cm (pv 0) T.cl_run h_Run_sources (hr.mono (by decide)) (pa_cons (pv 1) (pa_cons (pv 2) pa_nil))) pa_nil))))) (pss_one (ps_ret (pv 3))) pss_nil)
        (pss_one (ps_ret (pe_un un_neg pe_int))))), ?_⟩
  obtain ⟨r, n, k0, B, P0, d, l, x, pl, c, rfl, R, hpl, hh, hg, hk, k⟩ := h
  obtain ⟨dr, p, v1, v2, v3, v4, v5, v6, dx, s', pa, si, as, a, h1, p1, p2, p3, hS⟩ := R.stm hpl
  have ok := R.ok
  have hat : pl.head.atoms = [c.one, c.two] := by rcases hh with e | e <;> (rw [e]; rfl)
  refine ⟨_, rfl, _, _, _, rfl, h1, fs_run_no_holds, _, rfl, _, _, _, _, _, rfl, h1, T.cl_run, T.n_run_program, fs_run_program, _, _, _, _, _, rfl, p1, T.cl_prg, T.n_prg_statements, fs_prg_statements, _, rfl, _, _, _, _, rfl, rfl, SqL.of p2, atI_n p3, r, a, B, P0, d, l, x, c, pl.head, rfl, R, hS, hh, ?_⟩
  refine ⟨_, rfl, _, _, _, rfl, h1, fs_run_no_make_step, _, rfl, _, rfl, _, rfl, _, _, _, rfl, h1, fs_run_no_sources, _, rfl, _, rfl, r, n, k0, B, P0, d, l, x, pl, rfl, R, hpl, fun D fs hD hfs hfl => ?_⟩
  obtain ⟨B1, sB1, R1, new⟩ := R.grow (Same.new hD (.lst (nV fs)))
  have src : ∀ m, m ∈ fs ↔ m ∈ srcs ⟨n, if condValue x c = true then 1 else 0, condUses x c, k0⟩ := fun m => by rw [hfs m, srcs_cond, hat]
  have lt : ∀ m ∈ srcs ⟨n, if condValue x c = true then 1 else 0, condUses x c, k0⟩, m < x.steps.length := fun m hm => by
    rw [srcs_cond, List.mem_append] at hm
    rcases hm with z | z
    · exact useSrc_lt ok m z
    · cases k0 with
      | none => cases z
      | some j => rw [List.mem_singleton.mp z]; exact hk j rfl
  have hval : (if condValue x c = true then 1 else 0) ≤ 999 := by split <;> omega
  refine ⟨r, D, B1, P0, d, l, x, ⟨n, if condValue x c = true then 1 else 0, condUses x c, k0⟩, fs, ?_, R1, new _ _ hD upd_same, src, fun z => ok.step z hval lt, fun z H' R' => ?_, fun z B' H' s2 R' sl' => ?_⟩
  · cases condValue x c <;> rfl
  · refine ⟨_, rfl, if_f rfl ?_⟩
    have e1 := test_long (k := k0) (n := n) (c := c) hg z
    have e2 : testV x k0 n c = -1 := by unfold testV; rw [e1]; rfl
    unfold ResTest at k
    rw [e1, e2] at k
    exact ⟨_, rfl, k B1 H' sB1 R'⟩
  · refine ⟨_, rfl, if_t rfl ?_⟩
    have e1 := test_step (k := k0) (n := n) (c := c) hg z
    have e2 : testV x k0 n c = if condValue x c = true then 1 else 0 := by unfold testV; rw [e1]; exact if_pos hg
    unfold ResTest at k
    rw [e1, e2] at k
    exact ⟨_, rfl, k B' H' (sB1.trans s2) R'⟩
abbrev s_Run_ask_again : Stmt := inClass (top 20) 15
theorem sc_Run_ask_again : FnScope ["self", "line", "last"] ["self", "line", "last"] (defScope s_Run_ask_again) := ⟨rfl, rfl, rfl, by decide +kernel, rfl, by decide +kernel, by decide +kernel⟩
theorem ok_Run_ask_again (T : Txt K mg C) : OkM P w K mg base C.run 5 "ask_again" ["self", "line", "last"] (spAsk C) := by
  have h_Run_do_test := ok_Run_do_test (P := P) (w := w) (base := base) T
  obtain ⟨f, fd, hm, F, b⟩ := T.m_Run_ask_again
  refine ⟨f, fd, hm, b, F.ok sc_Run_ask_again (fun vs H Q E h => ?_) (fun cdv A outer s H vs Q E hr h => ?_)⟩
  · obtain ⟨r, n, j, B, P, d, l, x, pl, c, rfl, _⟩ := h
    rfl
  refine ⟨_, (pss_cons (ps_if (pt_cmpR op_ne (pe_fld (pv 0) rfl) (pe_gi rfl T.c_ENDED) (nomark _)) (pss_one (ps_ret (pe_un un_neg pe_int))) pss_nil)
        (pss_one (ps_ret (pe_cm (pv 0) T.cl_run h_Run_do_test (hr.mono (by decide)) (pa_cons (pv 1) (pa_cons (pv 2) pa_nil)))))), ?_⟩
  obtain ⟨r, n, j, B, P0, d, l, x, pl, c, rfl, R, hpl, hh, hj, k⟩ := h
  obtain ⟨⟨dr, p, da, li, s', cc, rd, ts, kvs, rs, h1, _⟩, _, _⟩ := id R
  refine ⟨_, rfl, _, _, _, _, _, rfl, h1, T.cl_run, T.n_run_how, fs_run_how, rfl, _, rfl, ?_⟩
  rw [status_dec]
  refine if_nd (fun z => ?_) (fun z => ?_)
  · have e1 : doTest (some j) n c x = x := step1_stop z
    have e2 : testV x (some j) n c = -1 := by unfold testV; rw [e1, if_neg z]
    unfold ResTest at k
    rw [e1, e2] at k
    exact ⟨_, rfl, k B H (Same.refl B) R⟩
  · exact ⟨_, rfl, _, _, _, rfl, h1, fs_run_no_do_test, _, rfl, _, rfl, r, n, some j, B, P0, d, l, x, pl, c, rfl, R, hpl, hh, z, (fun i hi => by cases hi; exact hj), k⟩
end
end Ld
end
section
set_option Elab.async false
set_option maxRecDepth 100000
set_option maxHeartbeats 4000000
namespace Ld
open PySem PySem.Spec PyProof.Rows L2
open Vaslca (Text ascii isName isDigit isSmall isAtom isExpr isCond numberOf atomOf valueOf decimal cutAt atomText findVar atomValue exprValue condValue withStep withVar doSet doRead doWrite doStop doTest exec rounds held lastOf only runOf statusNumber linesOf deepOf)
def spBlock (C : Cs) (dd : Nat) : Sp := fun vs H Q _ => ∃ (r : Addr) (parent : Int) (side : Nat) (k : Option Nat) (B : Hp) (P : List PL) (d l : List Nat) (x : VRun) (c : Vaslca.Code), vs = [.ref r, .int parent, .int (side : Int), letV k] ∧ RunAt C B H r P d l x ∧ Has P parent side c ∧ insideL P parent side = tops c ∧ deepOf c ≤ dd ∧ P.length ≤ 14 ∧ ctrlOk k x ∧ ResRun C B r P d l (exec (only l c) k x) Q
def spLine (C : Cs) (dd : Nat) : Sp := fun vs H Q _ => ∃ (r : Addr) (n : Nat) (k : Option Nat) (B : Hp) (P : List PL) (d l : List Nat) (x : VRun) (p : Int) (s : Nat) (c : Vaslca.Code), vs = [.ref r, .int (n : Int), letV k] ∧ RunAt C B H r P d l x ∧ Has P p s (one c) ∧ (tops c).head? = some n ∧ l.contains n = true ∧ deepOf (one c) ≤ dd ∧ P.length ≤ 14 ∧ x.status = .going ∧ ctrlOk k x ∧ ResRun C B r P d l (exec (only l (one c)) k x) Q
def ifRun (l : List Nat) (n : Nat) (cc : Vaslca.Cond) (a b : Vaslca.Code) (k : Option Nat) (x : VRun) : VRun := if held (doTest k n cc x) = true then exec (only l a) (lastOf (doTest k n cc x)) (doTest k n cc x) else if (doTest k n cc x).status = .going then exec (only l b) (lastOf (doTest k n cc x)) (doTest k n cc x) else doTest k n cc x
def spIf (C : Cs) (dd : Nat) : Sp := fun vs H Q _ => ∃ (r : Addr) (n : Nat) (k : Option Nat) (B : Hp) (P : List PL) (d l : List Nat) (x : VRun) (pl : PL) (cc : Vaslca.Cond) (a b : Vaslca.Code), vs = [.ref r, .int (n : Int), letV k] ∧ RunAt C B H r P d l x ∧ P[n]? = some pl ∧ pl.head = .ite cc ∧ Has P n 0 a ∧ Has P n 1 b ∧ insideL P n 0 = tops a ∧ insideL P n 1 = tops b ∧
  deepOf a + 1 ≤ dd ∧ deepOf b + 1 ≤ dd ∧ P.length ≤ 14 ∧ x.status = .going ∧ ctrlOk k x ∧ ResRun C B r P d l (ifRun l n cc a b k x) Q
def spWhile (C : Cs) (dd : Nat) : Sp := fun vs H Q _ => ∃ (r : Addr) (n : Nat) (k : Option Nat) (B : Hp) (P : List PL) (d l : List Nat) (x : VRun) (pl : PL) (cc : Vaslca.Cond) (b : Vaslca.Code), vs = [.ref r, .int (n : Int), letV k] ∧ RunAt C B H r P d l x ∧ P[n]? = some pl ∧ pl.head = .loop cc ∧ Has P n 0 b ∧ insideL P n 0 = tops b ∧
  deepOf b + 1 ≤ dd ∧ P.length ≤ 14 ∧ x.status = .going ∧ ctrlOk k x ∧ ResRun C B r P d l (rounds (exec (only l b)) n cc 121 k x) Q
theorem ctrlOk.len {k : Option Nat} {x y : VRun} (h : ctrlOk k x) (l : x.steps.length ≤ y.steps.length) : ctrlOk k y := fun j e => Nat.lt_of_lt_of_le (h j e) l
theorem test_held {x : VRun} {k : Option Nat} {n : Nat} {c : Vaslca.Cond} (h : held (doTest k n c x) = true) : x.status = .going ∧ x.steps.length < 120 ∧ condValue x c = true ∧ (doTest k n c x).steps.length = x.steps.length + 1 ∧ lastOf (doTest k n c x) = some x.steps.length := by
  by_cases hg : x.status = .going
  · by_cases hl : x.steps.length < 120
    · obtain ⟨h1, h2, h3, h4⟩ := held_step (k := k) (n := n) (c := c) hg hl
      exact ⟨hg, hl, by rw [← h1]; exact h, h4, h2⟩
    · rw [test_long hg (by omega)] at h
      rw [held_stop (by simp)] at h
      cases h
  · have e : doTest k n c x = x := step1_stop hg
    rw [e, held_stop hg] at h
    cases h
theorem testV_held (x : VRun) (k : Option Nat) (n : Nat) (c : Vaslca.Cond) : testV x k n c = 1 ↔ held (doTest k n c x) = true := by
  unfold testV
  by_cases hg : x.status = .going
  · by_cases hl : x.steps.length < 120
    · obtain ⟨h1, h2, h3, h4⟩ := held_step (k := k) (n := n) (c := c) hg hl
      rw [if_pos h3, h1]
      cases condValue x c <;> simp
    · rw [test_long hg (by omega), held_stop (by simp)]
      simp
  · have e : doTest k n c x = x := step1_stop hg
    rw [e, if_neg hg, held_stop hg]
    simp
section
variable {P : Program} {w : World} {K : PySem.W.Frag} {mg : Str → Option Value} {base : Heap} {C : Cs}
abbrev s_Run_do_block : Stmt := inClass (top 20) 6
theorem sc_Run_do_block : FnScope ["self", "parent", "side", "let", "line"] ["self", "parent", "side", "let"] (defScope s_Run_do_block) := ⟨rfl, rfl, rfl, by decide +kernel, rfl, by decide +kernel, by decide +kernel⟩
theorem ok_Run_do_block (T : Txt K mg C) {dd : Nat} (h_Run_do_line : OkM P w K mg base C.run (5 + 3 * dd) "do_line" ["self", "line", "let"] (spLine C dd)) : OkM P w K mg base C.run ((5 + 3 * dd) + 1) "do_block" ["self", "parent", "side", "let"] (spBlock C dd) := by
  have h_Program_inside := ok_Program_inside (P := P) (w := w) (base := base) T
  obtain ⟨f, fd, hm, F, b⟩ := T.m_Run_do_block
  refine ⟨f, fd, hm, b, F.ok sc_Run_do_block (fun vs H Q E h => ?_) (fun cdv A outer s H vs Q E hr h => ?_)⟩
  · obtain ⟨r, parent, side, k, B, P, d, l, x, c, rfl, _⟩ := h
    rfl
  refine ⟨_, (pss_one (ps_for PassesOwn.never rfl (pi_list (pe_cm (pe_fld (pv 0) rfl) T.cl_prg h_Program_inside (hr.mono (by omega)) (pa_cons (pv 1) (pa_cons (pv 2) pa_nil)))) (pg_name (i := 4) sc_Run_do_block.nd rfl (Or.inl rfl)) (pss_one (ps_if (PW.pt (pw_and (pt_cmpR op_eq (pe_fld (pv 0) rfl) (pe_gi rfl T.c_ENDED) (nomark _)) (pw_and1 (pt_cmpR op_in_seq (pv 4) (pe_fld (pv 0) rfl) (by rfl))))) (pss_one (ps_expr (pe_cm (pv 0) T.cl_run h_Run_do_line (hr.mono (by omega)) (pa_cons (pv 4) (pa_cons (pv 3) pa_nil))))) pss_nil)))), ?_⟩
  obtain ⟨r, parent, side, k0, B, P0, d, l, x, c, rfl, R, hH, hI, hD, hPl, hk, k⟩ := h
  obtain ⟨⟨dr, p, da, li, s', cd, rd, ts, kvs, rs, h1, h2, h3, h4, _⟩, sB, ok⟩ := id R
  obtain ⟨dx, ps, ppa, psi, pas, p1, _⟩ := id (h2.same sB)
  refine ⟨_, rfl, _, _, _, _, _, rfl, h1, T.cl_run, T.n_run_program, fs_run_program, _, _, _, rfl, p1, fs_prg_no_inside, _, rfl, _, rfl, p, P0, parent, side, rfl, h2.same sB, by omega, fun D hD' => ?_⟩
  rw [hI]
  obtain ⟨B1, sB1, R1, new⟩ := R.grow (Same.new hD' (.lst (nV (tops c))))
  have hD1 : B1 D = some (.lst (nV (tops c))) := new _ _ hD' upd_same
  refine ⟨D, rfl, ⟨_, SqL.of upd_same⟩, for_list (K := K) (a := D) (xs := nV (tops c)) (fun i σ H' => ∃ v B' y, σ = [some (.ref r), some (.int parent), some (.int (side : Int)), some (letV k0), v] ∧ Same B1 B' ∧ RunAt C B' H' r P0 d l y ∧ exec (only l (skip i c)) k0 y = exec (only l c) k0 x ∧ x.steps.length ≤ y.steps.length)
    ⟨none, B1, x, rfl, Same.refl _, R1, rfl, Nat.le_refl _⟩ (fun i σ H' _ ⟨_, B', _, _, s2, R', _⟩ => SqL.of (R'.same _ _ (s2 _ _ hD1))) ?_ ?_⟩
  · rintro i q σ H' hq ⟨v, B', y, rfl, s2, R', he, hl⟩
    obtain ⟨n, hn, rfl⟩ := nV_get hq
    have hHc := hH.skip i
    have hhd : (tops (skip i c)).head? = some n := by rw [tops_skip, List.head?_drop]; exact hn
    have sp' := exec_split l (skip i c) k0 y
    obtain ⟨⟨dr', p', da', li', s2', cd', rd', ts', kvs', rs', g1, g2, g3, g4, _⟩, sB', ok'⟩ := id R'
    -- where the line is not done
    have stay : exec (only l (one (skip i c))) k0 y = y → ∃ v B' y, [some (.ref r), some (.int parent), some (.int (side : Int)), some (letV k0), some (V.int (n : Int))] = [some (.ref r), some (.int parent), some (.int (side : Int)), some (letV k0), v] ∧ Same B1 B' ∧ RunAt C B' H' r P0 d l y ∧ exec (only l (skip (i + 1) c)) k0 y = exec (only l c) k0 x ∧ x.steps.length ≤ y.steps.length := fun e => by
      refine ⟨_, B', y, rfl, s2, R', ?_, hl⟩
      rw [skip_succ, ← he, sp', e]
    refine ⟨_, rfl, _, _, _, _, _, rfl, g1, T.cl_run, T.n_run_how, fs_run_how, rfl, _, rfl, ?_⟩
    rw [status_dec]
    refine if_d (fun z => ?_) (fun z => ?_)
    · refine ⟨_, rfl, _, rfl, _, _, _, _, _, rfl, g1, T.cl_run, T.n_run_lines, fs_run_lines, li', _, rfl, .inl (SqL.of (sB' _ _ g4)), rfl, flat_nV _, _, rfl, ?_⟩
      rw [inV_nV]
      have mem : (l.any fun y : Nat => decide ((y : Int) = (n : Int))) = l.contains n := by
        rw [Bool.eq_iff_iff, List.any_eq_true, List.contains_iff_mem]
        constructor
        · rintro ⟨m, hm, e⟩
          have := of_decide_eq_true e
          rw [show n = m by omega]; exact hm
        · exact fun h => ⟨n, h, by simp⟩
      rw [mem]
      refine if_b (fun z2 => ?_) (fun z2 => ?_)
      · refine ⟨_, rfl, _, _, _, rfl, g1, fs_run_no_do_line, _, rfl, _, rfl, r, n, k0, B', P0, d, l, y, parent, side, skip i c, rfl, R', hHc.one, hhd, z2, Nat.le_trans (deep_one _) (Nat.le_trans (deep_skip i c) hD), hPl, z, hk.len hl, fun B2 H2 s3 R2 => ?_⟩
        refine ⟨_, B2, _, rfl, s2.trans s3, R2, ?_, Nat.le_trans hl (len_exec _ _ _)⟩
        rw [skip_succ, ← sp', he]
      · exact stay (only_one_not hhd z2 k0 y)
    · exact if_f rfl (stay (exec_stop _ k0 y z))
  · rintro σ H' ⟨v, B', y, rfl, s2, R', he, hl⟩
    rw [nV_length] at he
    have e : skip (tops c).length c = .done := by
      have := tops_skip (tops c).length c
      rw [List.drop_length] at this
      cases q : skip (tops c).length c <;> rw [q] at this <;> first | rfl | (simp [tops] at this)
    rw [e] at he
    have he' : y = exec (only l c) k0 x := he
    rw [← he'] at k
    exact k B' H' (sB1.trans s2) R'
abbrev s_Run_do_line : Stmt := inClass (top 20) 7
theorem sc_Run_do_line : FnScope ["self", "line", "let", "kind"] ["self", "line", "let"] (defScope s_Run_do_line) := ⟨rfl, rfl, rfl, by decide +kernel, rfl, by decide +kernel, by decide +kernel⟩
theorem ok_Run_do_line (T : Txt K mg C) {dd : Nat} (h_Run_do_if : OkM P w K mg base C.run (4 + 3 * dd) "do_if" ["self", "line", "let"] (spIf C dd)) (h_Run_do_while : OkM P w K mg base C.run (4 + 3 * dd) "do_while" ["self", "line", "let"] (spWhile C dd)) : OkM P w K mg base C.run ((4 + 3 * dd) + 1) "do_line" ["self", "line", "let"] (spLine C dd) := by
  have h_Run_do_read := ok_Run_do_read (P := P) (w := w) (base := base) T
  have h_Run_do_set := ok_Run_do_set (P := P) (w := w) (base := base) T
  have h_Run_do_stop := ok_Run_do_stop (P := P) (w := w) (base := base) T
  have h_Run_do_write := ok_Run_do_write (P := P) (w := w) (base := base) T
  obtain ⟨f, fd, hm, F, b⟩ := T.m_Run_do_line
  refine ⟨f, fd, hm, b, F.ok sc_Run_do_line (fun vs H Q E h => ?_) (fun cdv A outer s H vs Q E hr h => ?_)⟩
  · obtain ⟨r, n, k, B, P, d, l, x, p, s, c, rfl, _⟩ := h
    rfl
  refine ⟨_, (pss_cons (ps_set (i := 3) sc_Run_do_line.nd rfl (Or.inl rfl) (pe_fld (pe_ix ix_list (pe_fld (pe_fld (pv 0) rfl) rfl) (pv 1) (fun _ _ => rfl)) rfl))
        (pss_one (ps_if (pt_cmpR op_eq (pv 3) pe_str (nomark _)) (pss_one (ps_expr (pe_cm (pv 0) T.cl_run h_Run_do_set (hr.mono (by omega)) (pa_cons (pv 1) (pa_cons (pv 2) pa_nil))))) (pss_one (ps_if (pt_cmpR op_eq (pv 3) pe_str (nomark _)) (pss_one (ps_expr (pe_cm (pv 0) T.cl_run h_Run_do_read (hr.mono (by omega)) (pa_cons (pv 1) (pa_cons (pv 2) pa_nil))))) (pss_one (ps_if (pt_cmpR op_eq (pv 3) pe_str (nomark _)) (pss_one (ps_expr (pe_cm (pv 0) T.cl_run h_Run_do_write (hr.mono (by omega)) (pa_cons (pv 1) (pa_cons (pv 2) pa_nil))))) (pss_one (ps_if (pt_cmpR op_eq (pv 3) pe_str (nomark _)) (pss_one (ps_expr (pe_cm (pv 0) T.cl_run h_Run_do_stop (hr.mono (by omega)) (pa_cons (pv 1) (pa_cons (pv 2) pa_nil))))) (pss_one (ps_if (pt_cmpR op_eq (pv 3) pe_str (nomark _)) (pss_one (ps_expr (pe_cm (pv 0) T.cl_run h_Run_do_if (hr.mono (by omega)) (pa_cons (pv 1) (pa_cons (pv 2) pa_nil))))) (pss_one (ps_expr (pe_cm (pv 0) T.cl_run h_Run_do_while (hr.mono (by omega)) (pa_cons (pv 1) (pa_cons (pv 2) pa_nil)))))))))))))))), ?_⟩
  obtain ⟨r, n, k0, B, P0, d, l, x, p, s', c, rfl, R, hH, hhd, hl, hD, hPl, hg, hk, k⟩ := h
  cases c with
  | done => cases hhd
  | set m v e r0 =>
    have em : m = n := by simpa [tops] using hhd
    subst em
    have e1 : exec (only l (one (.set m v e r0))) k0 x = doSet k0 m v e x := by
      show exec (if l.contains m = true then .set m v e .done else .done) k0 x = _
      rw [if_pos hl]; rfl
    rw [e1] at k
    obtain ⟨dr, p', v1, v2, v3, v4, v5, v6, dx, s2, pa, si, as, a, h1, p1, p2, p3, hS⟩ := R.stm hH.1
    obtain ⟨⟨dxs, wr, nm, at', ats, g1, _⟩, _⟩ := id hS
    refine ⟨_, rfl, _, _, _, _, _, rfl, h1, T.cl_run, T.n_run_program, fs_run_program, _, _, _, _, _, rfl, p1, T.cl_prg, T.n_prg_statements, fs_prg_statements, _, rfl, _, _, _, _, rfl, rfl, SqL.of p2, atI_n p3, _, _, _, _, _, rfl, (R.same _ _ g1), T.cl_stm, T.n_stm_kind, fs_stm_kind, ?_⟩
    refine ⟨_, rfl, rfl, _, rfl, if_t (by rw [kind_dec _ (by decide)]; rfl) ?_⟩
    exact ⟨_, rfl, _, _, _, rfl, h1, fs_run_no_do_set, _, rfl, _, rfl, r, m, k0, B, P0, d, l, x, _, v, e, rfl, R, hH.1, rfl, hg, hk, k⟩
  | read m v r0 =>
    have em : m = n := by simpa [tops] using hhd
    subst em
    have e1 : exec (only l (one (.read m v r0))) k0 x = doRead k0 m v x := by
      show exec (if l.contains m = true then .read m v .done else .done) k0 x = _
      rw [if_pos hl]; rfl
    rw [e1] at k
    obtain ⟨dr, p', v1, v2, v3, v4, v5, v6, dx, s2, pa, si, as, a, h1, p1, p2, p3, hS⟩ := R.stm hH.1
    obtain ⟨⟨dxs, wr, nm, at', ats, g1, _⟩, _⟩ := id hS
    refine ⟨_, rfl, _, _, _, _, _, rfl, h1, T.cl_run, T.n_run_program, fs_run_program, _, _, _, _, _, rfl, p1, T.cl_prg, T.n_prg_statements, fs_prg_statements, _, rfl, _, _, _, _, rfl, rfl, SqL.of p2, atI_n p3, _, _, _, _, _, rfl, (R.same _ _ g1), T.cl_stm, T.n_stm_kind, fs_stm_kind, ?_⟩
    refine ⟨_, rfl, rfl, _, rfl, if_f (by rw [kind_dec _ (by decide)]; rfl) ?_⟩
    refine ⟨_, rfl, rfl, _, rfl, if_t (by rw [kind_dec _ (by decide)]; rfl) ?_⟩
    exact ⟨_, rfl, _, _, _, rfl, h1, fs_run_no_do_read, _, rfl, _, rfl, r, m, k0, B, P0, d, l, x, _, v, rfl, R, hH.1, rfl, hg, hk, k⟩
  | write m t r0 =>
    have em : m = n := by simpa [tops] using hhd
    subst em
    have e1 : exec (only l (one (.write m t r0))) k0 x = doWrite k0 m t x := by
      show exec (if l.contains m = true then .write m t .done else .done) k0 x = _
      rw [if_pos hl]; rfl
    rw [e1] at k
    obtain ⟨dr, p', v1, v2, v3, v4, v5, v6, dx, s2, pa, si, as, a, h1, p1, p2, p3, hS⟩ := R.stm hH.1
    obtain ⟨⟨dxs, wr, nm, at', ats, g1, _⟩, _⟩ := id hS
    refine ⟨_, rfl, _, _, _, _, _, rfl, h1, T.cl_run, T.n_run_program, fs_run_program, _, _, _, _, _, rfl, p1, T.cl_prg, T.n_prg_statements, fs_prg_statements, _, rfl, _, _, _, _, rfl, rfl, SqL.of p2, atI_n p3, _, _, _, _, _, rfl, (R.same _ _ g1), T.cl_stm, T.n_stm_kind, fs_stm_kind, ?_⟩
    refine ⟨_, rfl, rfl, _, rfl, if_f (by rw [kind_dec _ (by decide)]; rfl) ?_⟩
    refine ⟨_, rfl, rfl, _, rfl, if_f (by rw [kind_dec _ (by decide)]; rfl) ?_⟩
    refine ⟨_, rfl, rfl, _, rfl, if_t (by rw [kind_dec _ (by decide)]; rfl) ?_⟩
    exact ⟨_, rfl, _, _, _, rfl, h1, fs_run_no_do_write, _, rfl, _, rfl, r, m, k0, B, P0, d, l, x, _, t, rfl, R, hH.1, rfl, hg, hk, k⟩
  | halt_ m r0 =>
    have em : m = n := by simpa [tops] using hhd
    subst em
    have e1 : exec (only l (one (.halt_ m r0))) k0 x = doStop k0 m x := by
      show exec (if l.contains m = true then .halt_ m .done else .done) k0 x = _
      rw [if_pos hl]; rfl
    rw [e1] at k
    obtain ⟨dr, p', v1, v2, v3, v4, v5, v6, dx, s2, pa, si, as, a, h1, p1, p2, p3, hS⟩ := R.stm hH.1
    obtain ⟨⟨dxs, wr, nm, at', ats, g1, _⟩, _⟩ := id hS
    refine ⟨_, rfl, _, _, _, _, _, rfl, h1, T.cl_run, T.n_run_program, fs_run_program, _, _, _, _, _, rfl, p1, T.cl_prg, T.n_prg_statements, fs_prg_statements, _, rfl, _, _, _, _, rfl, rfl, SqL.of p2, atI_n p3, _, _, _, _, _, rfl, (R.same _ _ g1), T.cl_stm, T.n_stm_kind, fs_stm_kind, ?_⟩
    refine ⟨_, rfl, rfl, _, rfl, if_f (by rw [kind_dec _ (by decide)]; rfl) ?_⟩
    refine ⟨_, rfl, rfl, _, rfl, if_f (by rw [kind_dec _ (by decide)]; rfl) ?_⟩
    refine ⟨_, rfl, rfl, _, rfl, if_f (by rw [kind_dec _ (by decide)]; rfl) ?_⟩
    refine ⟨_, rfl, rfl, _, rfl, if_t (by rw [kind_dec _ (by decide)]; rfl) ?_⟩
    exact ⟨_, rfl, _, _, _, rfl, h1, fs_run_no_do_stop, _, rfl, _, rfl, r, m, k0, B, P0, d, l, x, _, rfl, R, hH.1, rfl, hg, hk, k⟩
  | ite m cc a0 b0 r0 =>
    have em : m = n := by simpa [tops] using hhd
    subst em
    have e1 : exec (only l (one (.ite m cc a0 b0 r0))) k0 x = ifRun l m cc a0 b0 k0 x := by
      show exec (if l.contains m = true then .ite m cc (only l a0) (only l b0) .done else .done) k0 x = _
      rw [if_pos hl]; rfl
    rw [e1] at k
    have hdp : deepOf (one (.ite m cc a0 b0 r0)) = max (max (deepOf a0) (deepOf b0) + 1) 0 := rfl
    obtain ⟨dr, p', v1, v2, v3, v4, v5, v6, dx, s2, pa, si, as, a, h1, p1, p2, p3, hS⟩ := R.stm hH.1
    obtain ⟨⟨dxs, wr, nm, at', ats, g1, _⟩, _⟩ := id hS
    refine ⟨_, rfl, _, _, _, _, _, rfl, h1, T.cl_run, T.n_run_program, fs_run_program, _, _, _, _, _, rfl, p1, T.cl_prg, T.n_prg_statements, fs_prg_statements, _, rfl, _, _, _, _, rfl, rfl, SqL.of p2, atI_n p3, _, _, _, _, _, rfl, (R.same _ _ g1), T.cl_stm, T.n_stm_kind, fs_stm_kind, ?_⟩
    refine ⟨_, rfl, rfl, _, rfl, if_f (by rw [kind_dec _ (by decide)]; rfl) ?_⟩
    refine ⟨_, rfl, rfl, _, rfl, if_f (by rw [kind_dec _ (by decide)]; rfl) ?_⟩
    refine ⟨_, rfl, rfl, _, rfl, if_f (by rw [kind_dec _ (by decide)]; rfl) ?_⟩
    refine ⟨_, rfl, rfl, _, rfl, if_f (by rw [kind_dec _ (by decide)]; rfl) ?_⟩
    refine ⟨_, rfl, rfl, _, rfl, if_t (by rw [kind_dec _ (by decide)]; rfl) ?_⟩
    exact ⟨_, rfl, _, _, _, rfl, h1, fs_run_no_do_if, _, rfl, _, rfl, r, m, k0, B, P0, d, l, x, _, cc, a0, b0, rfl, R, hH.1, rfl, hH.2.2.2.1, hH.2.2.2.2.1, hH.2.1, hH.2.2.1, by omega, by omega, hPl, hg, hk, k⟩
  | loop m cc b0 r0 =>
    have em : m = n := by simpa [tops] using hhd
    subst em
    have e1 : exec (only l (one (.loop m cc b0 r0))) k0 x = rounds (exec (only l b0)) m cc 121 k0 x := by
      show exec (if l.contains m = true then .loop m cc (only l b0) .done else .done) k0 x = _
      rw [if_pos hl]; rfl
    rw [e1] at k
    have hdp : deepOf (one (.loop m cc b0 r0)) = max (deepOf b0 + 1) 0 := rfl
    obtain ⟨dr, p', v1, v2, v3, v4, v5, v6, dx, s2, pa, si, as, a, h1, p1, p2, p3, hS⟩ := R.stm hH.1
    obtain ⟨⟨dxs, wr, nm, at', ats, g1, _⟩, _⟩ := id hS
    refine ⟨_, rfl, _, _, _, _, _, rfl, h1, T.cl_run, T.n_run_program, fs_run_program, _, _, _, _, _, rfl, p1, T.cl_prg, T.n_prg_statements, fs_prg_statements, _, rfl, _, _, _, _, rfl, rfl, SqL.of p2, atI_n p3, _, _, _, _, _, rfl, (R.same _ _ g1), T.cl_stm, T.n_stm_kind, fs_stm_kind, ?_⟩
    refine ⟨_, rfl, rfl, _, rfl, if_f (by rw [kind_dec _ (by decide)]; rfl) ?_⟩
    refine ⟨_, rfl, rfl, _, rfl, if_f (by rw [kind_dec _ (by decide)]; rfl) ?_⟩
    refine ⟨_, rfl, rfl, _, rfl, if_f (by rw [kind_dec _ (by decide)]; rfl) ?_⟩
    refine ⟨_, rfl, rfl, _, rfl, if_f (by rw [kind_dec _ (by decide)]; rfl) ?_⟩
    refine ⟨_, rfl, rfl, _, rfl, if_f (by rw [kind_dec _ (by decide)]; rfl) ?_⟩
    exact ⟨_, rfl, _, _, _, rfl, h1, fs_run_no_do_while, _, rfl, _, rfl, r, m, k0, B, P0, d, l, x, _, cc, b0, rfl, R, hH.1, rfl, hH.2.2.1, hH.2.1, by omega, hPl, hg, hk, k⟩
abbrev s_Run_do_if : Stmt := inClass (top 20) 13
theorem sc_Run_do_if : FnScope ["self", "line", "let", "value"] ["self", "line", "let"] (defScope s_Run_do_if) := ⟨rfl, rfl, rfl, by decide +kernel, rfl, by decide +kernel, by decide +kernel⟩
theorem ok_Run_do_if (T : Txt K mg C) {dd : Nat} (h_Run_do_block : OkM P w K mg base C.run (6 + 3 * dd) "do_block" ["self", "parent", "side", "let"] (spBlock C dd)) : OkM P w K mg base C.run ((6 + 3 * dd) + 1) "do_if" ["self", "line", "let"] (spIf C (dd + 1)) := by
  have h_Run_do_test := ok_Run_do_test (P := P) (w := w) (base := base) T
  obtain ⟨f, fd, hm, F, b⟩ := T.m_Run_do_if
  refine ⟨f, fd, hm, b, F.ok sc_Run_do_if (fun vs H Q E h => ?_) (fun cdv A outer s H vs Q E hr h => ?_)⟩
  · obtain ⟨r, n, k, B, P, d, l, x, pl, cc, a, b, rfl, _⟩ := h
    rfl
  refine ⟨_, (pss_cons (ps_set (i := 3) sc_Run_do_if.nd rfl (Or.inl rfl) (pe_cm (pv 0) T.cl_run h_Run_do_test (hr.mono (by omega)) (pa_cons (pv 1) (pa_cons (pv 2) pa_nil))))
        (pss_one (ps_if (pt_cmpR op_ge (pv 3) pe_int (nomark _)) (pss_one (ps_expr (pe_cm (pv 0) T.cl_run h_Run_do_block (hr.mono (by omega)) (pa_cons (pv 1) (pa_cons (pe_op op_sub pe_int (pv 3)) (pa_cons (pe_op op_sub (pe_callB call_len_seq (by rfl) T.len PySem.boot_len (pa_cons (pe_fld (pv 0) rfl) pa_nil)) pe_int) pa_nil)))))) pss_nil))), ?_⟩
  obtain ⟨r, n, k0, B, P0, d, l, x, pl, cc, a, b, rfl, R, hpl, hh, hHa, hHb, hIa, hIb, da, db, hPl, hg, hk, k⟩ := h
  obtain ⟨⟨dr, p, dat, li, s', c, rd, ts, kvs, rs, h1, _⟩, _, _⟩ := id R
  refine ⟨_, rfl, _, _, _, rfl, h1, fs_run_no_do_test, _, rfl, _, rfl, r, n, k0, B, P0, d, l, x, pl, cc, rfl, R, hpl, .inl hh, hg, hk, fun B1 H1 s1 R1 => ?_⟩
  obtain ⟨⟨dr', p', dat', li', s2', c', rd', ts', kvs', rs', g1, g2, g3, g4, g5, g6, _⟩, sB', ok'⟩ := id R1
  have sl : (rV ts').length = (doTest k0 n cc x).steps.length := by rw [rV_length, g6.len]
  by_cases hl : x.steps.length < 120
  · obtain ⟨e1, e2, e3, e4⟩ := held_step (k := k0) (n := n) (c := cc) hg hl
    have tv : testV x k0 n cc = if condValue x cc = true then 1 else 0 := if_pos e3
    have lst : (fun i j : Int => V.int (i - j)) (((rV ts').length : Nat) : Int) 1 = letV (some x.steps.length) := by
      rw [sl, e4]
      show V.int (((x.steps.length + 1 : Nat) : Int) - 1) = V.int (x.steps.length : Nat)
      congr 1
      omega
    have lk : ctrlOk (some x.steps.length) (doTest k0 n cc x) := fun j hj => by cases hj; rw [e4]; omega
    rw [tv]
    cases hc : condValue x cc with
    | true =>
      refine ⟨_, rfl, _, _, rfl, rfl, _, rfl, if_t (by decide) ?_⟩
      refine ⟨_, rfl, _, _, _, rfl, g1, fs_run_no_do_block, _, rfl, _, rfl, _, _, rfl, rfl, _, rfl, _, _, _, _, _, rfl, g1, T.cl_run, T.n_run_steps, fs_run_steps, _, _, rfl, .inl (SqL.of g5), _, _, rfl, rfl, ?_⟩
      rw [lst]
      refine ⟨r, n, 0, some x.steps.length, B1, P0, d, l, _, a, rfl, R1, hHa, hIa, by omega, hPl, lk, fun B2 H2 s2 R2 => ?_⟩
      have e : ifRun l n cc a b k0 x = exec (only l a) (some x.steps.length) (doTest k0 n cc x) := by
        unfold ifRun
        rw [e1, hc, if_pos rfl, e2]
      rw [e] at k
      exact k B2 H2 (s1.trans s2) R2
    | false =>
      refine ⟨_, rfl, _, _, rfl, rfl, _, rfl, if_t (by decide) ?_⟩
      refine ⟨_, rfl, _, _, _, rfl, g1, fs_run_no_do_block, _, rfl, _, rfl, _, _, rfl, rfl, _, rfl, _, _, _, _, _, rfl, g1, T.cl_run, T.n_run_steps, fs_run_steps, _, _, rfl, .inl (SqL.of g5), _, _, rfl, rfl, ?_⟩
      rw [lst]
      refine ⟨r, n, 1, some x.steps.length, B1, P0, d, l, _, b, rfl, R1, hHb, hIb, by omega, hPl, lk, fun B2 H2 s2 R2 => ?_⟩
      have e : ifRun l n cc a b k0 x = exec (only l b) (some x.steps.length) (doTest k0 n cc x) := by
        unfold ifRun
        rw [e1, hc, if_neg (by decide), if_pos e3, e2]
      rw [e] at k
      exact k B2 H2 (s1.trans s2) R2
  · have e0 := test_long (k := k0) (n := n) (c := cc) hg (by omega)
    have tv : testV x k0 n cc = -1 := by unfold testV; rw [e0]; rfl
    rw [tv]
    refine ⟨_, rfl, _, _, rfl, rfl, _, rfl, if_f (by decide) ?_⟩
    have e : ifRun l n cc a b k0 x = doTest k0 n cc x := by
      unfold ifRun
      rw [e0, held_stop (by simp), if_neg (by decide), if_neg (by simp)]
    rw [e] at k
    exact k B1 H1 s1 R1
abbrev s_Run_do_while : Stmt := inClass (top 20) 14
theorem sc_Run_do_while : FnScope ["self", "line", "let", "value", "last"] ["self", "line", "let"] (defScope s_Run_do_while) := ⟨rfl, rfl, rfl, by decide +kernel, rfl, by decide +kernel, by decide +kernel⟩
theorem ok_Run_do_while (T : Txt K mg C) {dd : Nat} (h_Run_do_block : OkM P w K mg base C.run (6 + 3 * dd) "do_block" ["self", "parent", "side", "let"] (spBlock C dd)) : OkM P w K mg base C.run ((6 + 3 * dd) + 1) "do_while" ["self", "line", "let"] (spWhile C (dd + 1)) := by
  have h_Run_ask_again := ok_Run_ask_again (P := P) (w := w) (base := base) T
  have h_Run_do_test := ok_Run_do_test (P := P) (w := w) (base := base) T
  obtain ⟨f, fd, hm, F, b⟩ := T.m_Run_do_while
  refine ⟨f, fd, hm, b, F.ok sc_Run_do_while (fun vs H Q E h => ?_) (fun cdv A outer s H vs Q E hr h => ?_)⟩
  · obtain ⟨r, n, k, B, P, d, l, x, pl, cc, b, rfl, _⟩ := h
    rfl
  refine ⟨_, (pss_cons (ps_set (i := 3) sc_Run_do_while.nd rfl (Or.inl rfl) (pe_cm (pv 0) T.cl_run h_Run_do_test (hr.mono (by omega)) (pa_cons (pv 1) (pa_cons (pv 2) pa_nil))))
        (pss_one (ps_while PassesOwn.never (pt_cmpR op_eq (pv 3) pe_int (nomark _)) (pss_cons (ps_set (i := 4) sc_Run_do_while.nd rfl (Or.inl rfl) (pe_op op_sub (pe_callB call_len_seq (by rfl) T.len PySem.boot_len (pa_cons (pe_fld (pv 0) rfl) pa_nil)) pe_int))
        (pss_cons (ps_expr (pe_cm (pv 0) T.cl_run h_Run_do_block (hr.mono (by omega)) (pa_cons (pv 1) (pa_cons pe_int (pa_cons (pv 4) pa_nil)))))
        (pss_one (ps_set (i := 3) sc_Run_do_while.nd rfl (Or.inl rfl) (pe_cm (pv 0) T.cl_run h_Run_ask_again (hr.mono (by omega)) (pa_cons (pv 1) (pa_cons (pv 4) pa_nil)))))))))), ?_⟩
  obtain ⟨r, n, k0, B, P0, d, l, x, pl, cc, b, rfl, R, hpl, hh, hHb, hIb, db, hPl, hg, hk, k⟩ := h
  obtain ⟨⟨dr, p, dat, li, s', c, rd, ts, kvs, rs, h1, _⟩, _, _⟩ := id R
  refine ⟨_, rfl, _, _, _, rfl, h1, fs_run_no_do_test, _, rfl, _, rfl, r, n, k0, B, P0, d, l, x, pl, cc, rfl, R, hpl, .inr hh, hg, hk, fun B1 H1 s1 R1 => ?_⟩
  refine ⟨fun m σ H' => ∃ B' y v lst, σ = [some (.ref r), some (.int (n : Int)), some (letV k0), some (.int v), lst] ∧ Same B B' ∧ RunAt C B' H' r P0 d l y ∧ (v = 1 ↔ held y = true) ∧ behindTest (exec (only l b)) n cc m y = rounds (exec (only l b)) n cc 121 k0 x ∧ (held y = true → 121 ≤ m + y.steps.length ∧ lastOf y = some (y.steps.length - 1) ∧ 1 ≤ y.steps.length),
    ⟨120, B1, _, _, none, rfl, s1, R1, testV_held x k0 n cc, (rounds_succ _ _ _ 120 k0 x).symm, fun hd => ?_⟩, ?_⟩
  · obtain ⟨_, _, _, q1, q2⟩ := test_held hd
    rw [q1, q2]
    exact ⟨by omega, by rw [Nat.add_sub_cancel], by omega⟩
  rintro m σ H' ⟨B', y, v, lst, rfl, s2, R', hv, hb, hd⟩
  refine ⟨_, rfl, rfl, _, rfl, ?_⟩
  have dv : decide (V.int v = V.int 1) = held y := by
    cases e : held y with
    | true => rw [hv.mpr e]; decide
    | false => exact decide_eq_false fun z => by have := hv.mp (V.int.inj z); rw [e] at this; cases this
  rw [dv]
  refine if_b (fun e => ?_) (fun e => ?_)
  · obtain ⟨q1, q2, q3⟩ := hd e
    have yl := R'.ok.len
    obtain ⟨m', rfl⟩ : ∃ m', m = m' + 1 := ⟨m - 1, by omega⟩
    obtain ⟨⟨dr', p', dat', li', s2', c', rd', ts', kvs', rs', g1, g2, g3, g4, g5, g6, _⟩, sB', ok'⟩ := id R'
    have sl : (rV ts').length = y.steps.length := by rw [rV_length, g6.len]
    have lst' : (fun i j : Int => V.int (i - j)) (((rV ts').length : Nat) : Int) 1 = V.int ((y.steps.length - 1 : Nat) : Int) := by
      rw [sl]
      show V.int ((y.steps.length : Nat) - 1 : Int) = _
      congr 1
      omega
    -- last = len(self.steps) - 1
    refine ⟨_, fun _ _ h => h, ?_⟩
    refine ⟨_, rfl, _, _, _, _, _, rfl, g1, T.cl_run, T.n_run_steps, fs_run_steps, _, _, rfl, .inl (SqL.of g5), _, _, rfl, rfl, ?_⟩
    rw [lst']
    refine ⟨_, rfl, _, _, _, rfl, g1, fs_run_no_do_block, _, rfl, _, rfl, r, n, 0, some (y.steps.length - 1), B', P0, d, l, y, b, rfl, R', hHb, hIb, by omega, hPl, (fun j hj => by cases hj; omega), fun B2 H2 s3 R2 => ?_⟩
    obtain ⟨⟨dr3, p3, dat3, li3, s33, c3, rd3, ts3, kvs3, rs3, f1, _⟩, _, _⟩ := id R2
    have zl := len_exec (only l b) (some (y.steps.length - 1)) y
    refine ⟨_, rfl, _, _, _, rfl, f1, fs_run_no_ask_again, _, rfl, _, rfl, r, n, y.steps.length - 1, B2, P0, d, l, _, pl, cc, rfl, R2, hpl, .inr hh, by omega, fun B3 H3 s4 R3 => ?_⟩
    refine ⟨m', by omega, B3, _, _, _, rfl, (s2.trans s3).trans s4, R3, testV_held _ _ n cc, ?_, fun hd2 => ?_⟩
    · rw [← hb]
      unfold behindTest
      rw [if_pos e, q2]
      rfl
    · obtain ⟨_, _, _, w1, w2⟩ := test_held hd2
      rw [w1, w2]
      exact ⟨by omega, by rw [Nat.add_sub_cancel], by omega⟩
  · have e2 : behindTest (exec (only l b)) n cc m y = y := by unfold behindTest; rw [e]; rfl
    rw [e2] at hb
    rw [← hb] at k
    exact k B' H' s2 R'
/-- by the depth of the code -/
theorem ok_none {k : Nat} {m qual : Str} {st : Stmt} {ps : List Str} {C0 : Addr} {sp : Sp} (D : DefM K C0 m qual st ps) (no : ∀ vs H Q E, ¬ sp vs H Q E) : OkM P w K mg base C0 k m ps sp := by
  obtain ⟨f, fd, hm, F, b⟩ := D
  exact ⟨f, fd, hm, b, ⟨fun vs H Q E h => absurd h (no vs H Q E), fun A outer s H args us vs Q E _ _ _ _ h => absurd h (no vs H Q E)⟩⟩
theorem OkM.up {C0 : Addr} {j k : Nat} {m : Str} {ps : List Str} {sp : Sp} (h : OkM P w K mg base C0 j m ps sp) (l : j ≤ k) : OkM P w K mg base C0 k m ps sp := by
  obtain ⟨f, fd, hm, b, F⟩ := h
  exact ⟨f, fd, hm, b, F.mono l⟩
theorem ok_block_all (T : Txt K mg C) : ∀ dd : Nat, OkM P w K mg base C.run (6 + 3 * dd) "do_block" ["self", "parent", "side", "let"] (spBlock C dd)
  | 0 => by
    have hi : OkM P w K mg base C.run (4 + 3 * 0) "do_if" ["self", "line", "let"] (spIf C 0) := ok_none T.m_Run_do_if (fun vs H Q E h => by
      obtain ⟨_, _, _, _, _, _, _, _, _, _, _, _, _, _, _, _, _, _, _, _, h1, _⟩ := h
      omega)
    have hw : OkM P w K mg base C.run (4 + 3 * 0) "do_while" ["self", "line", "let"] (spWhile C 0) := ok_none T.m_Run_do_while (fun vs H Q E h => by
      obtain ⟨_, _, _, _, _, _, _, _, _, _, _, _, _, _, _, _, _, h1, _⟩ := h
      omega)
    exact (ok_Run_do_block (dd := 0) T ((ok_Run_do_line (dd := 0) T hi hw).up (by omega))).up (by omega)
  | dd + 1 => by
    have ih := ok_block_all T dd
    have hi : OkM P w K mg base C.run (4 + 3 * (dd + 1)) "do_if" ["self", "line", "let"] (spIf C (dd + 1)) := (ok_Run_do_if T ih).up (by omega)
    have hw : OkM P w K mg base C.run (4 + 3 * (dd + 1)) "do_while" ["self", "line", "let"] (spWhile C (dd + 1)) := (ok_Run_do_while T ih).up (by omega)
    exact (ok_Run_do_block (dd := dd + 1) T ((ok_Run_do_line (dd := dd + 1) T hi hw).up (by omega))).up (by omega)
theorem ok_block3 (T : Txt K mg C) : OkM P w K mg base C.run 24 "do_block" ["self", "parent", "side", "let"] (spBlock C 3) := (ok_block_all T 3).up (by omega)
end
end Ld
end
section
set_option Elab.async false
set_option maxRecDepth 100000
set_option maxHeartbeats 4000000
namespace Ld
open PySem PySem.Spec PyProof.Rows L2
open Vaslca (Text ascii isName exec only runOf statusNumber linesOf deepOf valuesAt begin_)
/-- a comprehension over a list whose items stand for others -/
theorem lc_by {α : Type} {K : PySem.W.Frag} {a : Addr} {xs : List V} {ys : List α} {i : Nat} {tl : TE} {tt : TT} {te : TE} {σ : L2.St} {H : Hp} {Q : VK} (f : α → V) (keep : α → Bool)
    (hl : Val tl σ H (.ref a)) (hq : SqL K H a xs) (hlen : xs.length = ys.length) (hz : xs.length ≤ sizeLine) (hi : ∀ v, wipe ((wipe σ [i]).set i (some v)) [i] = wipe σ [i])
    (ht : ∀ (n : Nat) (x : V) (y : α), xs[n]? = some x → ys[n]? = some y → ∀ H', Same H H' → Ans tt ((wipe σ [i]).set i (some x)) H' (keep y)) (he : ∀ (n : Nat) (x : V) (y : α), xs[n]? = some x → ys[n]? = some y → keep y = true → ∀ H', Same H H' → Val te ((wipe σ [i]).set i (some x)) H' (f y))
    (q : ∀ D, H D = none → Q (.ref D) (upd H D (.lst ((ys.filter keep).map f)))) : tLc (iList K tl) (gName i) tt te [i] σ H Q := by
  refine hl _ ?_
  refine ⟨a, rfl, ⟨_, hq⟩, fun D hD => ?_⟩
  refine lc_list (K := K) (a := a) (xs := xs) (fun n H' => H' = upd H D (.lst (((ys.take n).filter keep).map f))) rfl (fun n H' _ e => by subst e; exact (Same.new hD _).seq hq) ?_ (fun H' e => by subst e; rw [hlen, List.take_length]; exact q D hD)
  rintro n x H' hx rfl
  have hn : n < ys.length := by rw [← hlen]; exact (List.getElem?_eq_some_iff.mp hx).1
  obtain ⟨y, hy⟩ : ∃ y, ys[n]? = some y := ⟨_, List.getElem?_eq_getElem hn⟩
  have tk := take_more hy
  refine ⟨hi x, ht n x y hx hy _ (Same.new hD _) _ ?_⟩
  cases hk : keep y with
  | true =>
    rw [if_pos rfl]
    refine he n x y hx hy hk _ (Same.new hD _) _ ⟨_, upd_same, ?_, ?_⟩
    · rw [List.length_map]
      have h1 := List.length_filter_le keep (ys.take n)
      rw [List.length_take] at h1
      omega
    · rw [upd_upd, tk, List.filter_append, List.map_append]
      simp [hk]
  | false =>
    rw [if_neg Bool.false_ne_true, tk, List.filter_append]
    simp [hk]
def numsAt (x : VRun) (n : Nat) : List Nat := (List.range x.steps.length).filter fun i => (x.steps[i]?).any fun s => s.line == n
def spRow (C : Cs) : Sp := fun vs H Q _ => ∃ (r : Addr) (n : Nat) (x : VRun), vs = [.ref r, .int (n : Int)] ∧ DoneAt C H r x ∧ ∀ D, H D = none → Q (.ref D) (upd H D (.lst (nV (valuesAt x n))))
def spNums (C : Cs) : Sp := fun vs H Q _ => ∃ (r : Addr) (n : Nat) (x : VRun), vs = [.ref r, .int (n : Int)] ∧ DoneAt C H r x ∧ ∀ D, H D = none → Q (.ref D) (upd H D (.lst (nV (numsAt x n))))
def spRun (C : Cs) : Sp := fun vs H Q _ => ∃ (r dx p da li : Addr) (B : Hp) (P : List PL) (d l : List Nat), vs = [.ref r, .ref p, .ref da, .ref li] ∧ H r = some (.ins C.run dx []) ∧ Same B H ∧ B r = none ∧ PrgAt C B p P ∧ B da = some (.lst (nV d)) ∧ B li = some (.lst (nV l)) ∧ (∀ v ∈ d, v ≤ 999) ∧
  ∀ H', RunAt C B H' r P d l (begin_ d) → Q .non H'
def spRunLines (C : Cs) : Sp := fun vs H Q _ => ∃ (p da li : Addr) (P : List PL) (c : Vaslca.Code) (d l : List Nat), vs = [.ref p, .ref da, .ref li] ∧ PrgAt C H p P ∧ Good P c ∧ H da = some (.lst (nV d)) ∧ H li = some (.lst (nV l)) ∧ (∀ v ∈ d, v ≤ 999) ∧
  ∀ H' r, Same H H' → DoneAt C H' r (runOf (only l c) d) → Q (.ref r) H'
def spRunAll (C : Cs) : Sp := fun vs H Q _ => ∃ (p da : Addr) (P : List PL) (c : Vaslca.Code) (d : List Nat), vs = [.ref p, .ref da] ∧ PrgAt C H p P ∧ Good P c ∧ H da = some (.lst (nV d)) ∧ (∀ v ∈ d, v ≤ 999) ∧
  ∀ H' r, Same H H' → DoneAt C H' r (runOf c d) → Q (.ref r) H'
theorem rgV_range (n : Nat) : rgV 0 (n : Int) = nV (List.range n) := by
  unfold rgV nV
  rw [Int.sub_zero, Int.toNat_natCast]
  refine List.map_congr_left fun i _ => ?_
  rw [Int.zero_add]
section
variable {P : Program} {w : World} {K : PySem.W.Frag} {mg : Str → Option Value} {base : Heap} {C : Cs}
abbrev s_Run_init : Stmt := inClass (top 20) 0
theorem sc_Run_init : FnScope ["self", "program", "data", "lines"] ["self", "program", "data", "lines"] (defScope s_Run_init) := ⟨rfl, rfl, rfl, by decide +kernel, rfl, by decide +kernel, by decide +kernel⟩
theorem ok_Run_init (T : Txt K mg C) : OkI P w K mg base C.run 1 ["self", "program", "data", "lines"] (spRun C) := by
  obtain ⟨f, fd, hm, F, b⟩ := T.m_Run_init
  refine ⟨f, fd, hm, b, F.ok sc_Run_init (fun vs H Q E h => ?_) (fun cdv A outer s H vs Q E hr h => ?_)⟩
  · obtain ⟨r, dx, p, da, li, B, P, d, l, rfl, _⟩ := h
    rfl
  refine ⟨_, (pss_cons (ps_fld (pv 0) (pv 1) rfl)
        (pss_cons (ps_fld (pv 0) (pv 2) rfl)
        (pss_cons (ps_fld (pv 0) (pv 3) rfl)
        (pss_cons (ps_fld (pv 0) (pe_lst pa_nil) rfl)
        (pss_cons (ps_fld (pv 0) pe_dnewT rfl)
        (pss_cons (ps_fld (pv 0) (pe_lst pa_nil) rfl)
        (pss_one (ps_fld (pv 0) (pe_gi rfl T.c_ENDED) rfl)))))))), ?_⟩
  obtain ⟨r, dx, p, da, li, B, P0, d, l, rfl, hr0, sB, hBr, hP, hd, hl, hle, k⟩ := h
  refine ⟨_, rfl, _, rfl, _, _, _, _, rfl, hr0, T.cl_run, T.n_run_program, (by refine Nat.lt_of_le_of_lt (m := 7) ?_ (by decide); (repeat refine few1 ?_); exact Nat.zero_le _), ?_⟩
  refine ⟨_, rfl, _, rfl, _, _, _, _, rfl, upd_same, T.cl_run, T.n_run_data, (by refine Nat.lt_of_le_of_lt (m := 7) ?_ (by decide); (repeat refine few1 ?_); exact Nat.zero_le _), ?_⟩
  refine ⟨_, rfl, _, rfl, _, _, _, _, rfl, upd_same, T.cl_run, T.n_run_lines, (by refine Nat.lt_of_le_of_lt (m := 7) ?_ (by decide); (repeat refine few1 ?_); exact Nat.zero_le _), ?_⟩
  rw [upd_upd, upd_upd]
  refine ⟨(by show 0 ≤ sizeLine; decide), fun s' hs => ?_⟩
  have n1 : r ≠ s' := ne_of_none upd_same hs
  refine ⟨_, rfl, _, _, _, _, rfl, (Same.new hs _ _ _ upd_same), T.cl_run, T.n_run_steps, (by refine Nat.lt_of_le_of_lt (m := 7) ?_ (by decide); (repeat refine few1 ?_); exact Nat.zero_le _), ?_⟩
  intro c hc
  have n2 : r ≠ c := ne_of_none upd_same hc
  refine ⟨_, rfl, _, _, _, _, rfl, (Same.new hc _ _ _ upd_same), T.cl_run, T.n_run_came, (by refine Nat.lt_of_le_of_lt (m := 7) ?_ (by decide); (repeat refine few1 ?_); exact Nat.zero_le _), ?_⟩
  refine ⟨(by show 0 ≤ sizeLine; decide), fun rd hrd => ?_⟩
  have n3 : r ≠ rd := ne_of_none upd_same hrd
  refine ⟨_, rfl, _, _, _, _, rfl, (Same.new hrd _ _ _ upd_same), T.cl_run, T.n_run_reads, (by refine Nat.lt_of_le_of_lt (m := 7) ?_ (by decide); (repeat refine few1 ?_); exact Nat.zero_le _), ?_⟩
  refine ⟨_, rfl, _, _, _, _, rfl, upd_same, T.cl_run, T.n_run_how, (by refine Nat.lt_of_le_of_lt (m := 7) ?_ (by decide); (repeat refine few1 ?_); exact Nat.zero_le _), ?_⟩
  have fsn : putF "how" (.int 0) (putF "reads" (.ref rd) (putF "came" (.ref c) (putF "steps" (.ref s') (putF "lines" (.ref li) (putF "data" (.ref da) (putF "program" (.ref p) [])))))) = fs_run (.ref p) (.ref da) (.ref li) (.ref s') (.ref c) (.ref rd) (.int 0) := fs_run_new
  rw [fsn, upd_upd]
  generalize hF1 : putF "lines" (V.ref li) (putF "data" (V.ref da) (putF "program" (V.ref p) [])) = F1 at *
  generalize hF2 : putF "steps" (V.ref s') F1 = F2 at *
  generalize hF3 : putF "came" (V.ref c) F2 = F3 at *
  generalize hF4 : putF "reads" (V.ref rd) F3 = F4 at *
  -- the new ones
  have a1 : (upd (upd (upd H r (.ins C.run dx F1)) s' (.lst [])) r (.ins C.run dx F2)) s' = some (.lst []) := by rw [upd_ne n1.symm]; exact upd_same
  have m1 : s' ≠ c := ne_of_none a1 hc
  have a2 : (upd (upd (upd (upd (upd H r (.ins C.run dx F1)) s' (.lst [])) r (.ins C.run dx F2)) c (.dT [])) r (.ins C.run dx F3)) s' = some (.lst []) := by rw [upd_ne n1.symm, upd_ne m1]; exact a1
  have b2 : (upd (upd (upd (upd (upd H r (.ins C.run dx F1)) s' (.lst [])) r (.ins C.run dx F2)) c (.dT [])) r (.ins C.run dx F3)) c = some (.dT []) := by rw [upd_ne n2.symm]; exact upd_same
  have m2 : s' ≠ rd := ne_of_none a2 hrd
  have m3 : c ≠ rd := ne_of_none b2 hrd
  have hs0 : H s' = none := by rw [upd_ne n1.symm] at hs; exact hs
  have hc0 : H c = none := by rw [upd_ne n2.symm, upd_ne m1.symm, upd_ne n2.symm] at hc; exact hc
  have hrd0 : H rd = none := by rw [upd_ne n3.symm, upd_ne m3.symm, upd_ne n3.symm, upd_ne m2.symm, upd_ne n3.symm] at hrd; exact hrd
  refine k _ ⟨⟨dx, p, da, li, s', c, rd, [], [], [], upd_same, hP, hd, hl, ?_, trivial, ?_, fun t => rfl, Nat.le_refl _, ?_, rfl, rfl, Nat.le_refl _, hBr, sB.free hs0, sB.free hc0, sB.free hrd0, m2⟩, ?_, begin_ok d hle⟩
  · rw [upd_ne n1.symm, upd_ne m2]; exact a2
  · rw [upd_ne n2.symm, upd_ne m3]; exact b2
  · rw [upd_ne n3.symm]; exact upd_same
  · exact ((((((sB.put hBr _).put (sB.free hs0) _).put hBr _).put (sB.free hc0) _).put hBr _).put (sB.free hrd0) _).put hBr _
abbrev s_Run_row : Stmt := inClass (top 20) 16
theorem sc_Run_row : FnScope ["self", "line", "step"] ["self", "line"] (defScope s_Run_row) := ⟨rfl, rfl, rfl, by decide +kernel, rfl, by decide +kernel, by decide +kernel⟩
theorem ok_Run_row (T : Txt K mg C) : OkM P w K mg base C.run 1 "row" ["self", "line"] (spRow C) := by
  obtain ⟨f, fd, hm, F, b⟩ := T.m_Run_row
  refine ⟨f, fd, hm, b, F.ok sc_Run_row (fun vs H Q E h => ?_) (fun cdv A outer s H vs Q E hr h => ?_)⟩
  · obtain ⟨r, n, x, rfl, _⟩ := h
    rfl
  refine ⟨_, (pss_one (ps_ret (pe_lc (own := [("step", 2)]) (g := gName 2) rfl sc_Run_row.nd (pi_list (pe_fld (pv 0) rfl)) (blkOk_by (own := [("step", 2)]) (N := ["self", "line", "step"]) (sc := defScope s_Run_row) (by decide +kernel)) (fun _ _ _ _ _ => pg_name (i := 2) sc_Run_row.nd rfl (Or.inl rfl)) (fun _ _ _ _ _ => (pts_one (pt_cmpR op_eq (pe_ix (ix_tupK (K := K) rfl) (pv 2) pe_int (fun _ _ => rfl)) (pv 1) (nomark _)))) (fun _ _ _ _ _ => (pe_ix (ix_tupK (K := K) rfl) (pv 2) pe_int (fun _ _ => rfl)))))), ?_⟩
  obtain ⟨r, n, x, rfl, ⟨⟨dr, s', v0, v1, v2, v4, v5, ts, h1, h2, h3⟩, ok⟩, k⟩ := h
  have xl := ok.len
  refine lc_by (K := K) (a := s') (xs := rV ts) (ys := x.steps) (fun q : VStep => V.int (q.value : Nat)) (fun q : VStep => q.line == n) (val_fld (val_var rfl) h1 T.cl_run T.n_run_steps fs_run_steps) (SqL.of h2) (by rw [rV_length, h3.len]) (by rw [rV_length, h3.len]; exact Nat.le_trans xl (by decide)) (fun v => rfl)
    (fun i v q hv hq H' s2 => ?_) (fun i v q hv hq _ H' s2 => ?_) (fun D hD => ?_)
  · obtain ⟨ta, hta, rfl⟩ := rV_get hv
    obtain ⟨tb, htb, ⟨f0, fs, g1, g2, g3⟩⟩ := h3.get hq
    rw [hta] at htb
    cases Option.some.inj htb
    refine ans_eq (val_ixT (val_var rfl) val_c (SqT.of (s2 _ _ g1)) (atI_n (i := 0) rfl)) (val_var rfl) rfl ?_
    by_cases z : q.line = n
    · subst z; simp
    · rw [decide_eq_false (fun y => z (by have := V.int.inj y; omega))]
      symm
      simpa using z
  · obtain ⟨ta, hta, rfl⟩ := rV_get hv
    obtain ⟨tb, htb, ⟨f0, fs, g1, g2, g3⟩⟩ := h3.get hq
    rw [hta] at htb
    cases Option.some.inj htb
    exact val_ixT (val_var rfl) val_c (SqT.of (s2 _ _ g1)) (atI_n (i := 1) rfl)
  · have e : (x.steps.filter fun q => q.line == n).map (fun q => V.int (q.value : Nat)) = nV (valuesAt x n) := by
      unfold nV Vaslca.valuesAt
      rw [List.map_map]
      rfl
    rw [e]
    exact k D hD
abbrev s_Run_numbers_at : Stmt := inClass (top 20) 17
theorem sc_Run_numbers_at : FnScope ["self", "line", "at"] ["self", "line"] (defScope s_Run_numbers_at) := ⟨rfl, rfl, rfl, by decide +kernel, rfl, by decide +kernel, by decide +kernel⟩
theorem ok_Run_numbers_at (T : Txt K mg C) : OkM P w K mg base C.run 1 "numbers_at" ["self", "line"] (spNums C) := by
  obtain ⟨f, fd, hm, F, b⟩ := T.m_Run_numbers_at
  refine ⟨f, fd, hm, b, F.ok sc_Run_numbers_at (fun vs H Q E h => ?_) (fun cdv A outer s H vs Q E hr h => ?_)⟩
  · obtain ⟨r, n, x, rfl, _⟩ := h
    rfl
  refine ⟨_, (pss_one (ps_ret (pe_lc (own := [("at", 2)]) (g := gName 2) rfl sc_Run_numbers_at.nd (pi_range1 (by rfl) T.range (pa_cons (pe_callB call_len_seq (by rfl) T.len PySem.boot_len (pa_cons (pe_fld (pv 0) rfl) pa_nil)) pa_nil)) (blkOk_by (own := [("at", 2)]) (N := ["self", "line", "at"]) (sc := defScope s_Run_numbers_at) (by decide +kernel)) (fun _ _ _ _ _ => pg_name (i := 2) sc_Run_numbers_at.nd rfl (Or.inl rfl)) (fun _ _ _ _ _ => (pts_one (pt_cmpR op_eq (pe_ix (ix_tupK (K := K) rfl) (pe_ix (ix_listK (K := K) rfl) (pe_fldK (K := K) (pv 0) rfl rfl) (pv 2) (fun _ _ => rfl)) pe_int (fun _ _ => rfl)) (pv 1) (nomark _)))) (fun _ _ _ _ _ => (pv 2))))), ?_⟩
  obtain ⟨r, n, x, rfl, ⟨⟨dr, s', v0, v1, v2, v4, v5, ts, h1, h2, h3⟩, ok⟩, k⟩ := h
  have xl := ok.len
  have hl : (rV ts).length = x.steps.length := by rw [rV_length, h3.len]
  refine lc_rg (n := x.steps.length) (fun i => V.int (i : Int)) (fun i => (x.steps[i]?).any fun s : VStep => s.line == n) (fun Q' q => ⟨_, rfl, _, _, _, _, _, rfl, h1, T.cl_run, T.n_run_steps, fs_run_steps, _, _, rfl, .inl (SqL.of h2), by rw [hl]; exact q⟩) (Nat.le_trans xl (by decide)) (fun v => rfl)
    (fun i hi H' s2 => ?_) (fun i hi _ H' s2 => val_var rfl) k
  obtain ⟨q, hq⟩ : ∃ q, x.steps[i]? = some q := ⟨_, List.getElem?_eq_getElem hi⟩
  obtain ⟨tb, htb, ⟨f0, fs, g1, g2, g3⟩⟩ := h3.get hq
  refine ans_eq (val_ixT (val_ix (val_fld (val_var rfl) (s2 _ _ h1) T.cl_run T.n_run_steps fs_run_steps) (val_var rfl) (SqL.of (s2 _ _ h2)) (atI_n (rV_at htb))) val_c (SqT.of (s2 _ _ g1)) (atI_n (i := 0) rfl)) (val_var rfl) rfl ?_
  show decide (V.int (q.line : Nat) = V.int (n : Nat)) = (x.steps[i]?).any fun s => s.line == n
  rw [hq]
  show _ = (q.line == n)
  by_cases z : q.line = n
  · subst z; simp
  · rw [decide_eq_false (fun y => z (by have := V.int.inj y; omega))]
    symm
    simpa using z
abbrev s_run_lines : Stmt := top 21
theorem sc_run_lines : FnScope ["program", "data", "lines", "run"] ["program", "data", "lines"] (defScope s_run_lines) := ⟨rfl, rfl, rfl, by decide +kernel, rfl, by decide +kernel, by decide +kernel⟩
theorem ok_run_lines (T : Txt K mg C) : OkF P w K mg base 25 "run_lines" ["program", "data", "lines"] (spRunLines C) := by
  have h_Run_init := ok_Run_init (P := P) (w := w) (base := base) T
  have h_Run_do_block := ok_block3 (P := P) (w := w) (base := base) T
  obtain ⟨f, fd, hm, F, b⟩ := T.f_run_lines
  refine ⟨f, fd, hm, F.kp, b, F.ok sc_run_lines (fun vs H Q E h => ?_) (fun cdv A outer s H vs Q E hr h => ?_)⟩
  · obtain ⟨p, da, li, P, c, d, l, rfl, _⟩ := h
    rfl
  refine ⟨_, (pss_cons (ps_set (i := 3) sc_run_lines.nd rfl (Or.inl rfl) (pe_mk h_Run_init (hr.mono (by decide)) (by rfl) T.g_Run (pa_cons (pv 0) (pa_cons (pv 1) (pa_cons (pv 2) pa_nil)))))
        (pss_cons (ps_expr (pe_cm (pv 3) T.cl_run h_Run_do_block (hr.mono (by decide)) (pa_cons (pe_un un_neg pe_int) (pa_cons pe_int (pa_cons (pe_un un_neg pe_int) pa_nil)))))
        (pss_one (ps_ret (pv 3))))), ?_⟩
  obtain ⟨p, da, li, P0, c, d, l, rfl, hP, hG, hd, hl, hle, k⟩ := h
  refine ⟨_, rfl, _, rfl, _, rfl, fun r dx nr nd ne => ?_⟩
  refine ⟨r, dx, p, da, li, H, P0, d, l, rfl, upd_same, (Same.new nd (.own r)).trans (Same.new (by rw [upd_ne ne.symm]; exact nr) _), nr, hP, hd, hl, hle, fun H1 R1 => ⟨rfl, ?_⟩⟩
  obtain ⟨⟨dr, p', dat, li', s', cc, rd, ts, kvs, rs, h1, _⟩, _, _⟩ := id R1
  refine ⟨_, rfl, _, _, _, rfl, h1, fs_run_no_do_block, _, rfl, _, rfl, r, -1, 0, none, H, P0, d, l, _, c, rfl, R1, hG.has, hG.ins, hG.deep, hG.len, (fun j hj => by cases hj), fun B2 H2 s2 R2 => ?_⟩
  exact ⟨_, rfl, k H2 r (s2.trans R2.same) R2.done⟩
abbrev s_run_all : Stmt := top 22
theorem sc_run_all : FnScope ["program", "data"] ["program", "data"] (defScope s_run_all) := ⟨rfl, rfl, rfl, by decide +kernel, rfl, by decide +kernel, by decide +kernel⟩
theorem ok_run_all (T : Txt K mg C) : OkF P w K mg base 26 "run_all" ["program", "data"] (spRunAll C) := by
  have h_Program_many := ok_Program_many (P := P) (w := w) (base := base) T
  have h_run_lines := ok_run_lines (P := P) (w := w) (base := base) T
  obtain ⟨f, fd, hm, F, b⟩ := T.f_run_all
  refine ⟨f, fd, hm, F.kp, b, F.ok sc_run_all (fun vs H Q E h => ?_) (fun cdv A outer s H vs Q E hr h => ?_)⟩
  · obtain ⟨p, da, P, c, d, rfl, _⟩ := h
    rfl
  refine ⟨_, (pss_one (ps_ret (pe_cf h_run_lines (hr.mono (by decide)) (by rfl) (pa_cons (pv 0) (pa_cons (pv 1) (pa_cons (pe_listRg rfl (by rfl) T.list (prg_1 (by rfl) T.range (pe_cm0 (pv 0) T.cl_prg h_Program_many (hr.mono (by decide))))) pa_nil)))))), ?_⟩
  obtain ⟨p, da, P0, c, d, rfl, hP, hG, hd, hle, k⟩ := h
  obtain ⟨dx, ps, ppa, psi, pas, p1, p2, p3, p4, p5⟩ := id hP
  refine ⟨_, rfl, _, rfl, _, rfl, _, _, _, rfl, p1, fs_prg_no_many, p, dx, ps, _, _, rV pas, rfl, p1, p2, ?_⟩
  rw [rV_length, p5.len]
  have pl := hG.len
  refine ⟨_, rfl, RgOk.of_le (by omega) (by omega) (by omega) (by omega), fun D hD => ?_⟩
  rw [rgV_range]
  have s1 := Same.new hD (.lst (nV (List.range P0.length)))
  refine ⟨p, da, D, P0, c, d, List.range P0.length, rfl, hP.same s1, hG, s1 _ _ hd, upd_same, hle, fun H2 r s2 R2 => ?_⟩
  rw [only_range hG] at R2
  exact k H2 r (s1.trans s2) R2
end
end Ld
end
section
set_option Elab.async false
set_option maxRecDepth 100000
set_option maxHeartbeats 4000000
namespace Ld
open PySem PySem.Spec PyProof.Rows L2
open Vaslca (Text exec only runOf statusNumber valuesAt ends)
open Vaslcf (Wish Want wantsOf rowsOf endingInputs meets)
/-- a list of lists of numbers -/
def NLs (H : Hp) (p : Addr) (ls : List (List Nat)) : Prop := ∃ rs, H p = some (.lst (rV rs)) ∧ AllAt (fun a l => H a = some (.lst (nV l))) rs ls
theorem NLs.same {H H' : Hp} (s : Same H H') {p : Addr} {ls : List (List Nat)} (h : NLs H p ls) : NLs H' p ls := by
  obtain ⟨rs, h1, h2⟩ := h
  exact ⟨rs, s _ _ h1, h2.mono fun a l => s a _⟩
def WantAt (H : Hp) (a : Addr) (w : Want) : Prop := ∃ da ra, H a = some (.tup [.ref da, .ref ra]) ∧ H da = some (.lst (nV w.input)) ∧ NLs H ra w.rows
theorem WantAt.same {H H' : Hp} (s : Same H H') {a : Addr} {w : Want} (h : WantAt H a w) : WantAt H' a w := by
  obtain ⟨da, ra, h1, h2, h3⟩ := h
  exact ⟨da, ra, s _ _ h1, s _ _ h2, h3.same s⟩
def WantsAt (H : Hp) (p : Addr) (ws : List Want) : Prop := ∃ ts, H p = some (.lst (rV ts)) ∧ AllAt (WantAt H) ts ws
theorem WantsAt.same {H H' : Hp} (s : Same H H') {p : Addr} {ws : List Want} (h : WantsAt H p ws) : WantsAt H' p ws := by
  obtain ⟨ts, h1, h2⟩ := h
  exact ⟨ts, s _ _ h1, h2.mono fun a w => WantAt.same s⟩
/-- an instance's store leaves lists and tuples -/
theorem NLs.ins {H : Hp} {m dx C : Addr} {fs : List (Str × V)} (hm : H m = some (.ins C dx fs)) (o : HO) {p : Addr} {ls : List (List Nat)} (h : NLs H p ls) : NLs (upd H m o) p ls := by
  obtain ⟨rs, h1, h2⟩ := h
  refine ⟨rs, ?_, h2.mono fun a l e => ?_⟩
  · rw [upd_ne (ne_of h1 hm (by intro z; cases z))]; exact h1
  · rw [upd_ne (ne_of e hm (by intro z; cases z))]; exact e
theorem WantsAt.ins {H : Hp} {m dx C : Addr} {fs : List (Str × V)} (hm : H m = some (.ins C dx fs)) (o : HO) {p : Addr} {ws : List Want} (h : WantsAt H p ws) : WantsAt (upd H m o) p ws := by
  obtain ⟨ts, h1, h2⟩ := h
  refine ⟨ts, ?_, h2.mono fun a w e => ?_⟩
  · rw [upd_ne (ne_of h1 hm (by intro z; cases z))]; exact h1
  · obtain ⟨da, ra, g1, g2, g3⟩ := e
    refine ⟨da, ra, ?_, ?_, g3.ins hm o⟩
    · rw [upd_ne (ne_of g1 hm (by intro z; cases z))]; exact g1
    · rw [upd_ne (ne_of g2 hm (by intro z; cases z))]; exact g2
/-- inputs within their bounds, places that are lines -/
structure WishOk (P : List PL) (w : Wish) : Prop where
  inp : ∀ i ∈ w.inputs, ∀ v ∈ i, v ≤ 999
  len : w.inputs.length ≤ 4
  pl : w.places.length ≤ 3
structure MsrAt (C : Cs) (H : Hp) (m : Addr) (P : List PL) (c : Vaslca.Code) (w : Wish) : Prop where
  ex : ∃ dm p pl wn, H m = some (.ins C.msr dm (fs_msr (.ref p) (.ref pl) (.ref wn))) ∧ PrgAt C H p P ∧ H pl = some (.lst (nV w.places)) ∧ WantsAt H wn (wantsOf c w)
theorem MsrAt.same {C : Cs} {H H' : Hp} (s : Same H H') {m : Addr} {P : List PL} {c : Vaslca.Code} {w : Wish} (h : MsrAt C H m P c w) : MsrAt C H' m P c w := by
  obtain ⟨dm, p, pl, wn, h1, h2, h3, h4⟩ := h
  exact ⟨dm, p, pl, wn, s _ _ h1, h2.same s, s _ _ h3, h4.same s⟩
def enoughB (P : List PL) (c : Vaslca.Code) (w : Wish) (ls : List Nat) : Bool := meets (only (aloneL P ls) c) w (wantsOf c w)
def spRowsAt (C : Cs) : Sp := fun vs H Q _ => ∃ (r pa : Addr) (x : VRun) (pls : List Nat), vs = [.ref r, .ref pa] ∧ DoneAt C H r x ∧ H pa = some (.lst (nV pls)) ∧ pls.length ≤ 1000 ∧ ∀ H' p, Same H H' → (∀ B, Same B H' → (∀ b u, H b = none → H' b = some u → B b = some u) → NLs B p (pls.map (valuesAt x))) → Q (.ref p) H'
def spWanted (C : Cs) : Sp := fun vs H Q _ => ∃ (p g pa : Addr) (P : List PL) (c : Vaslca.Code) (w : Wish), vs = [.ref p, .ref g, .ref pa] ∧ PrgAt C H p P ∧ Good P c ∧ NLs H g w.inputs ∧ H pa = some (.lst (nV w.places)) ∧ WishOk P w ∧ ∀ H' q, Same H H' → WantsAt H' q (wantsOf c w) → Q (.ref q) H'
def spMeasure (C : Cs) : Sp := fun vs H Q _ => ∃ (m dx p g pa : Addr) (B : Hp) (P : List PL) (c : Vaslca.Code) (w : Wish), vs = [.ref m, .ref p, .ref g, .ref pa] ∧ H m = some (.ins C.msr dx []) ∧ Same B H ∧ B m = none ∧ PrgAt C B p P ∧ Good P c ∧ NLs B g w.inputs ∧ B pa = some (.lst (nV w.places)) ∧ WishOk P w ∧
  ∀ H', Same B H' → MsrAt C H' m P c w → Q .non H'
def spEnough (C : Cs) : Sp := fun vs H Q _ => ∃ (m a : Addr) (P : List PL) (c : Vaslca.Code) (w : Wish) (ls : List Nat), vs = [.ref m, .ref a] ∧ MsrAt C H m P c w ∧ Good P c ∧ WishOk P w ∧ H a = some (.lst (nV ls)) ∧ (∀ n ∈ ls, n < P.length) ∧ ls.length ≤ 1000 ∧ ∀ H', Same H H' → Q (.bl (enoughB P c w ls)) H'
def nD (l : List Nat) : PyData := .list (l.map fun n : Nat => PyData.int (n : Int))
def weL (c : Vaslca.Code) (pls : List Nat) (is : List (List Nat)) : List Want := (is.filter fun i => ends (runOf c i)).map fun i => ⟨i, pls.map (valuesAt (runOf c i))⟩
theorem dpAll_nats {K : PySem.W.Frag} {H : Hp} : ∀ ns : List Nat, DpAll K H (nV ns) (ns.map fun n : Nat => PyData.int (n : Int))
  | [] => .nil
  | n :: r => .cons (.int n) (dpAll_nats r)
theorem dp_nls {K : PySem.W.Frag} {H : Hp} {p : Addr} {ls : List (List Nat)} (h : NLs H p ls) : Dp K H (.ref p) (.list (ls.map nD)) := by
  obtain ⟨rs, h1, h2⟩ := h
  refine .lst (SqL.of h1) ?_
  clear h1
  induction ls generalizing rs with
  | nil => cases rs with
    | nil => exact .nil
    | cons a as => exact h2.elim
  | cons l ls ih => cases rs with
    | nil => exact h2.elim
    | cons a as => exact .cons (.lst (SqL.of h2.1) (dpAll_nats l)) (ih as h2.2)
theorem nD_eqv (a b : List Nat) : PyData.eqv (nD a) (nD b) = decide (a = b) := by
  unfold nD
  rw [PyData.eqv]
  have e : ∀ l : List Nat, (l.map fun n : Nat => PyData.int (n : Int)) = (l.map fun n : Nat => (n : Int)).map PyData.int := fun l => by rw [List.map_map]; rfl
  rw [e, e, eqvAll_ints]
  exact decide_eq_decide.mpr nats_inj
theorem nDs_eqv : ∀ a b : List (List Nat), PyData.eqvAll (a.map nD) (b.map nD) = decide (a = b)
  | [], [] => by simp [PyData.eqvAll]
  | [], _ :: _ => by simp [PyData.eqvAll]
  | _ :: _, [] => by simp [PyData.eqvAll]
  | a :: r, b :: t => by
    simp only [List.map_cons, PyData.eqvAll, nD_eqv, nDs_eqv r t]
    by_cases h : a = b <;> by_cases h' : r = t <;> simp [h, h']
theorem nDs_shaped (ls : List (List Nat)) : SeqAt.shaped (.list (ls.map nD)) = true := by
  have c0 : ∀ l : List Nat, PyData.canLay0 (nD l) = true := fun l => by
    have := PySem.SeqAt.canLay_of_shaped (shaped_ints (l.map fun n : Nat => (n : Int)))
    rw [List.map_map] at this
    exact this
  have d0 : ∀ l : List Nat, PyData.depth (nD l) ≤ 63 := fun l => by
    have h1 := PySem.W.depthAll_ints (l.map fun n : Nat => (n : Int))
    rw [List.map_map] at h1
    unfold nD
    rw [PyData.depth]
    have h2 : PyData.depthAll (l.map fun n : Nat => PyData.int (n : Int)) ≤ 1 := h1
    omega
  have cA : ∀ ls : List (List Nat), PyData.canLayAll0 (ls.map nD) = true := by
    intro ls
    induction ls with
    | nil => simp [PyData.canLayAll0]
    | cons l r ih => simp [PyData.canLayAll0, c0 l, ih]
  have dA : ∀ ls : List (List Nat), PyData.depthAll (ls.map nD) ≤ 63 := by
    intro ls
    induction ls with
    | nil => simp [PyData.depthAll]
    | cons l r ih =>
      have := d0 l
      simp only [List.map_cons, PyData.depthAll]
      omega
  show (PyData.canLay0 (.list (ls.map nD)) && decide (PyData.depth (.list (ls.map nD)) ≤ 64)) = true
  rw [Bool.and_eq_true]
  refine ⟨by simp only [PyData.canLay0]; exact cA ls, decide_eq_true ?_⟩
  have := dA ls
  simp only [PyData.depth]
  omega
section
variable {P : Program} {w : World} {K : PySem.W.Frag} {mg : Str → Option Value} {base : Heap} {C : Cs}
abbrev s_rows_at : Stmt := top 46
theorem sc_rows_at : FnScope ["run", "places", "place"] ["run", "places"] (defScope s_rows_at) := ⟨rfl, rfl, rfl, by decide +kernel, rfl, by decide +kernel, by decide +kernel⟩
theorem ok_rows_at (T : Txt K mg C) : OkF P w K mg base 2 "rows_at" ["run", "places"] (spRowsAt C) := by
  have h_Run_row := ok_Run_row (P := P) (w := w) (base := base) T
  obtain ⟨f, fd, hm, F, b⟩ := T.f_rows_at
  refine ⟨f, fd, hm, F.kp, b, F.ok sc_rows_at (fun vs H Q E h => ?_) (fun cdv A outer s H vs Q E hr h => ?_)⟩
  · obtain ⟨r, pa, x, pls, rfl, _⟩ := h
    rfl
  refine ⟨_, (pss_one (ps_ret (pe_lc (own := [("place", 2)]) (g := gName 2) rfl sc_rows_at.nd (pi_list (pv 1)) (blkOk_by (own := [("place", 2)]) (N := ["run", "places", "place"]) (sc := defScope s_rows_at) (by decide +kernel)) (fun _ _ _ _ _ => pg_name (i := 2) sc_rows_at.nd rfl (Or.inl rfl)) (fun _ _ _ _ _ => pts_nil) (fun _ _ _ _ _ => (pe_cm (pv 0) T.cl_run h_Run_row (hr.mono (by decide)) (pa_cons (pv 2) pa_nil)))))), ?_⟩
  obtain ⟨r, pa, x, pls, rfl, hD, hpa, hz, k⟩ := h
  refine ⟨_, rfl, pa, rfl, ⟨_, SqL.of hpa⟩, fun D nD0 => ?_⟩
  refine lc_list (K := K) (a := pa) (xs := nV pls) (fun i H' => Same H H' ∧ ∃ rs, H' D = some (.lst (rV rs)) ∧ AllAt (fun a l => H' a = some (.lst (nV l)) ∧ a ≠ D ∧ H a = none) rs ((pls.take i).map (valuesAt x)))
    ⟨Same.new nD0 _, [], upd_same, trivial⟩ (fun i H' _ ⟨s, _⟩ => SqL.of (s _ _ hpa)) ?_ ?_
  · rintro i v H' hv ⟨s, rs, hDl, hA⟩
    obtain ⟨n, hn, rfl⟩ := nV_get hv
    obtain ⟨⟨dr, ss, v0, v1, v2, v4, v5, ts, h1, _⟩, _⟩ := id (hD.same s)
    refine ⟨rfl, yes_if ?_⟩
    refine ⟨_, rfl, _, _, _, rfl, h1, fs_run_no_row, _, rfl, r, n, x, rfl, hD.same s, fun R hR => ?_⟩
    have hDR : D ≠ R := ne_of_none hDl hR
    refine ⟨rV rs, ?_, ?_, ?_, rs ++ [R], ?_, ?_⟩
    · rw [upd_ne hDR]; exact hDl
    · rw [rV_length, hA.len, List.length_map, List.length_take]
      exact small1000 (by omega)
    · exact (s.trans (Same.new hR _)).put nD0 _
    · rw [upd_same]
      exact congrArg (fun l => some (HO.lst l)) (rV_app rs [R])
    · rw [take_more hn, List.map_append]
      refine AllAt.app (hA.mono fun a l e => ⟨?_, e.2⟩) (AllAt.one ⟨?_, hDR.symm, s.free hR⟩)
      · rw [upd_ne hDR.symm]; exact upd_same
      · rw [upd_ne e.2.1, upd_ne (ne_of_none e.1 hR)]; exact e.1
  · rintro H' ⟨s, rs, hDl, hA⟩
    rw [nV_length, List.take_length] at hA
    exact k H' D s fun B sB new => ⟨rs, new _ _ nD0 hDl, hA.mono fun a l e => new _ _ e.2.2 e.1⟩
abbrev s_wanted_rows : Stmt := top 47
theorem sc_wanted_rows : FnScope ["program", "givens", "places", "wanted", "data", "run"] ["program", "givens", "places"] (defScope s_wanted_rows) := ⟨rfl, rfl, rfl, by decide +kernel, rfl, by decide +kernel, by decide +kernel⟩
theorem ok_wanted_rows (T : Txt K mg C) : OkF P w K mg base 27 "wanted_rows" ["program", "givens", "places"] (spWanted C) := by
  have h_rows_at := ok_rows_at (P := P) (w := w) (base := base) T
  have h_run_all := ok_run_all (P := P) (w := w) (base := base) T
  obtain ⟨f, fd, hm, F, b⟩ := T.f_wanted_rows
  refine ⟨f, fd, hm, F.kp, b, F.ok sc_wanted_rows (fun vs H Q E h => ?_) (fun cdv A outer s H vs Q E hr h => ?_)⟩
  · obtain ⟨p, g, pa, P, c, w, rfl, _⟩ := h
    rfl
  refine ⟨_, (pss_cons (ps_set (i := 3) sc_wanted_rows.nd rfl (Or.inl rfl) (pe_lst pa_nil))
        (pss_cons (ps_for PassesOwn.never rfl (pi_list (pv 1)) (pg_name (i := 4) sc_wanted_rows.nd rfl (Or.inl rfl)) (pss_cons (ps_set (i := 5) sc_wanted_rows.nd rfl (Or.inl rfl) (pe_cf h_run_all (hr.mono (by decide)) (by rfl) (pa_cons (pv 0) (pa_cons (pv 4) pa_nil))))
        (pss_one (ps_if (pt_cmpR op_ne (pe_fld (pv 5) rfl) (pe_gi rfl T.c_LONG) (nomark _)) (pss_one (ps_expr (pe_bm PySem.F.plainAttrs_list PySem.F.slot_list_append PySem.F.type_list_append mt_append (pv 3) (pa_cons (pe_tup (pa_cons (pv 4) (pa_cons (pe_cf h_rows_at (hr.mono (by decide)) (by rfl) (pa_cons (pv 5) (pa_cons (pv 2) pa_nil))) pa_nil))) pa_nil)))) pss_nil))))
        (pss_one (ps_ret (pv 3))))), ?_⟩
  obtain ⟨p, g, pa, P0, c, w0, rfl, hP, hG, hg, hpa, hW, k⟩ := h
  refine ⟨(by show 0 ≤ sizeLine; decide), fun D nD0 => ?_⟩
  obtain ⟨gs, hg1, hg2⟩ := id hg
  have s0 := Same.new nD0 (.lst [])
  refine ⟨_, rfl, g, rfl, ⟨_, SqL.of (s0 _ _ hg1)⟩, for_list (K := K) (a := g) (xs := rV gs) (fun i σ H' => ∃ v1 v2 ts, σ = [some (.ref p), some (.ref g), some (.ref pa), some (.ref D), v1, v2] ∧ Same H H' ∧ H' D = some (.lst (rV ts)) ∧ AllAt (fun a q => WantAt (hide H' [D]) a q) ts (weL c w0.places (w0.inputs.take i)) ∧ ts.length ≤ i)
    ⟨none, none, [], rfl, s0, upd_same, trivial, Nat.le_refl _⟩ (fun i σ H' _ ⟨_, _, _, _, s1, _⟩ => SqL.of (s1 _ _ hg1)) ?_ ?_⟩
  · rintro i y σ H' hy ⟨v1, v2, ts, rfl, s1, hDl, hA, hlen⟩
    obtain ⟨da, hda, rfl⟩ := rV_get hy
    obtain ⟨d, hd, hdl⟩ := hg2.get' hda
    have hin := List.mem_of_getElem? hd
    have hilt : i < 4 := Nat.lt_of_lt_of_le (List.getElem?_eq_some_iff.mp hd).1 hW.len
    refine ⟨_, rfl, _, rfl, p, da, P0, c, d, rfl, hP.same s1, hG, s1 _ _ hdl, hW.inp d hin, fun H2 r s2 hR => ?_⟩
    obtain ⟨⟨dr, ss, u0, u1, u2, u4, u5, tss, h1, _⟩, ok⟩ := id hR
    have wstep : weL c w0.places (w0.inputs.take (i + 1)) = weL c w0.places (w0.inputs.take i) ++ (if ends (runOf c d) = true then [⟨d, w0.places.map (valuesAt (runOf c d))⟩] else []) := by
      unfold weL
      rw [take_more hd, List.filter_append, List.map_append]
      by_cases z : ends (runOf c d) = true
      · rw [if_pos z]; simp [z]
      · rw [if_neg z]; simp [z]
    have hD2 := s2 _ _ hDl
    have keepA : ∀ {H3 : Hp}, Same H2 H3 → Same (hide H' [D]) (hide H3 [D]) := fun {H3} s3 b u z => by
      by_cases hb : b ∈ [D]
      · rw [hide_in hb] at z; cases z
      · rw [hide_out hb] at z
        rw [hide_out hb]
        exact s3 _ _ (s2 _ _ z)
    refine ⟨_, rfl, _, _, _, _, _, rfl, h1, T.cl_run, T.n_run_how, fs_run_how, rfl, _, rfl, ?_⟩
    have dl : decide (V.int (statusNumber (runOf c d).status : Nat) = V.int 2) = !ends (runOf c d) := by
      unfold Vaslca.ends
      cases (runOf c d).status <;> decide
    rw [dl, Bool.not_not]
    refine if_b (fun z => ?_) (fun z => ?_)
    · refine ⟨_, rfl, .inl ⟨rfl, _, SqL.of hD2⟩, _, rfl, _, rfl, _, rfl, r, pa, _, w0.places, rfl, hR, s2 _ _ (s1 _ _ hpa), Nat.le_trans hW.pl (by decide), fun H3 ra s3 mk => ?_⟩
      refine ⟨(by show 2 ≤ sizeLine; decide), fun t ht => ?_⟩
      have hD3 := Same.new ht (.tup [.ref da, .ref ra]) _ _ (s3 _ _ hD2)
      have hDt : t ≠ D := (ne_of_none (s3 _ _ hD2) ht).symm
      have s4 : Same H2 (upd H3 t (.tup [.ref da, .ref ra])) := s3.trans (Same.new ht _)
      have hB : NLs (hide H3 [D]) ra (w0.places.map (valuesAt (runOf c d))) := mk _ (hide_same _ _) (fun b u n e => by
        rw [hide_out (fun m => by rw [List.mem_singleton.mp m] at n; rw [hD2] at n; cases n)]; exact e)
      refine ⟨_, _, _, rfl, rfl, hD3, (by rw [rV_length]; exact small1000 (by omega)), ?_⟩
      have eh : ∀ o, hide (upd (upd H3 t (.tup [.ref da, .ref ra])) D o) [D] = hide (upd H3 t (.tup [.ref da, .ref ra])) [D] := fun o => by
        funext b
        by_cases hb : b ∈ [D]
        · rw [hide_in hb, hide_in hb]
        · rw [hide_out hb, hide_out hb, upd_ne (fun y => hb (by rw [y]; simp))]
      have hda' : da ≠ D := by
        intro y
        rw [y] at hdl
        rw [hdl] at nD0
        cases nD0
      have sht : Same (hide H3 [D]) (hide (upd H3 t (.tup [.ref da, .ref ra])) [D]) := fun b u z2 => by
        by_cases hb : b ∈ [D]
        · rw [hide_in hb] at z2; cases z2
        · rw [hide_out hb] at z2
          rw [hide_out hb]
          exact Same.new ht _ _ _ z2
      refine ⟨_, _, ts ++ [t], rfl, (s1.trans (s2.trans s4)).put nD0 _, ?_, ?_, by rw [List.length_append]; simp only [List.length_singleton]; omega⟩
      · rw [upd_same]
        exact congrArg (fun l => some (HO.lst l)) (rV_app ts [t])
      · rw [wstep, if_pos z, eh]
        refine AllAt.app (AllAt.mono (fun a q => WantAt.same (keepA s4)) hA) (AllAt.one ⟨da, ra, ?_, ?_, hB.same sht⟩)
        · rw [hide_out (by simpa using hDt)]; exact upd_same
        · rw [hide_out (by simpa using hda')]; exact s4 _ _ (s2 _ _ (s1 _ _ hdl))
    · refine ⟨_, _, ts, rfl, s1.trans s2, hD2, ?_, by omega⟩
      rw [wstep, if_neg (by rw [z]; decide), List.append_nil]
      exact AllAt.mono (fun a q => WantAt.same (keepA (Same.refl H2))) hA
  · rintro σ H' ⟨v1, v2, ts, rfl, s1, hDl, hA, hlen⟩
    rw [rV_length, hg2.len, List.take_length] at hA
    exact ⟨_, rfl, k H' D s1 ⟨ts, hDl, AllAt.mono (fun a q => WantAt.same (hide_same _ _)) hA⟩⟩
abbrev s_Measure_init : Stmt := inClass (top 48) 0
theorem sc_Measure_init : FnScope ["self", "program", "givens", "places"] ["self", "program", "givens", "places"] (defScope s_Measure_init) := ⟨rfl, rfl, rfl, by decide +kernel, rfl, by decide +kernel, by decide +kernel⟩
theorem ok_Measure_init (T : Txt K mg C) : OkI P w K mg base C.msr 28 ["self", "program", "givens", "places"] (spMeasure C) := by
  have h_wanted_rows := ok_wanted_rows (P := P) (w := w) (base := base) T
  obtain ⟨f, fd, hm, F, b⟩ := T.m_Measure_init
  refine ⟨f, fd, hm, b, F.ok sc_Measure_init (fun vs H Q E h => ?_) (fun cdv A outer s H vs Q E hr h => ?_)⟩
  · obtain ⟨m, dx, p, g, pa, B, P, c, w, rfl, _⟩ := h
    rfl
  refine ⟨_, (pss_cons (ps_fld (pv 0) (pv 1) rfl)
        (pss_cons (ps_fld (pv 0) (pv 3) rfl)
        (pss_one (ps_fld (pv 0) (pe_cf h_wanted_rows (hr.mono (by decide)) (by rfl) (pa_cons (pv 1) (pa_cons (pv 2) (pa_cons (pv 3) pa_nil)))) rfl)))), ?_⟩
  obtain ⟨m, dx, p, g, pa, B, P0, c, w0, rfl, hm0, sB, hBm, hP, hG, hg, hpa, hW, k⟩ := h
  refine ⟨_, rfl, _, rfl, _, _, _, _, rfl, hm0, T.cl_msr, T.n_msr_program, (by refine Nat.lt_of_le_of_lt (m := 7) ?_ (by decide); (repeat refine few1 ?_); exact Nat.zero_le _), ?_⟩
  refine ⟨_, rfl, _, rfl, _, _, _, _, rfl, upd_same, T.cl_msr, T.n_msr_places, (by refine Nat.lt_of_le_of_lt (m := 7) ?_ (by decide); (repeat refine few1 ?_); exact Nat.zero_le _), ?_⟩
  rw [upd_upd]
  have s1 : Same B (upd H m (.ins C.msr dx (putF "places" (.ref pa) (putF "program" (.ref p) [])))) := sB.put hBm _
  refine ⟨_, rfl, _, rfl, _, rfl, p, g, pa, P0, c, w0, rfl, hP.same s1, hG, hg.same s1, s1 _ _ hpa, hW, fun H2 wn s2 hWn => ?_⟩
  have hm2 := s2 _ _ (upd_same (H := H) (a := m) (o := .ins C.msr dx (putF "places" (.ref pa) (putF "program" (.ref p) []))))
  refine ⟨_, rfl, _, _, _, _, rfl, hm2, T.cl_msr, T.n_msr_wanted, (by refine Nat.lt_of_le_of_lt (m := 7) ?_ (by decide); (repeat refine few1 ?_); exact Nat.zero_le _), ?_⟩
  have fsn : putF "wanted" (.ref wn) (putF "places" (.ref pa) (putF "program" (.ref p) [])) = fs_msr (.ref p) (.ref pa) (.ref wn) := fs_msr_new
  rw [fsn]
  have s3 : Same B (upd H2 m (.ins C.msr dx (fs_msr (.ref p) (.ref pa) (.ref wn)))) := (s1.trans s2).put hBm _
  exact k _ s3 ⟨dx, p, pa, wn, upd_same, hP.same s3, s3 _ _ hpa, hWn.ins hm2 _⟩
abbrev s_Measure_is_enough : Stmt := inClass (top 48) 1
theorem sc_Measure_is_enough : FnScope ["self", "lines", "left", "data", "rows", "run"] ["self", "lines"] (defScope s_Measure_is_enough) := ⟨rfl, rfl, rfl, by decide +kernel, rfl, by decide +kernel, by decide +kernel⟩
theorem ok_Measure_is_enough (T : Txt K mg C) : OkM P w K mg base C.msr 26 "is_enough" ["self", "lines"] (spEnough C) := by
  have h_alone := ok_alone (P := P) (w := w) (base := base) T
  have h_rows_at := ok_rows_at (P := P) (w := w) (base := base) T
  have h_run_lines := ok_run_lines (P := P) (w := w) (base := base) T
  obtain ⟨f, fd, hm, F, b⟩ := T.m_Measure_is_enough
  refine ⟨f, fd, hm, b, F.ok sc_Measure_is_enough (fun vs H Q E h => ?_) (fun cdv A outer s H vs Q E hr h => ?_)⟩
  · obtain ⟨m, a, P, c, w, ls, rfl, _⟩ := h
    rfl
  refine ⟨_, (pss_cons (ps_set (i := 2) sc_Measure_is_enough.nd rfl (Or.inl rfl) (pe_cf h_alone (hr.mono (by decide)) (by rfl) (pa_cons (pe_fld (pv 0) rfl) (pa_cons (pv 1) pa_nil))))
        (pss_cons (ps_for PassesOwn.never rfl (pi_list (pe_fld (pv 0) rfl)) (pg_tup rfl (pgs_cons (pg_name (i := 3) sc_Measure_is_enough.nd rfl (Or.inl rfl)) (pgs_cons (pg_name (i := 4) sc_Measure_is_enough.nd rfl (Or.inl rfl)) pgs_nil))) (pss_cons (ps_set (i := 5) sc_Measure_is_enough.nd rfl (Or.inl rfl) (pe_cf h_run_lines (hr.mono (by decide)) (by rfl) (pa_cons (pe_fld (pv 0) rfl) (pa_cons (pv 3) (pa_cons (pv 2) pa_nil)))))
        (pss_one (ps_if (PW.pt (pw_or (pt_cmpR op_eq (pe_fld (pv 5) rfl) (pe_gi rfl T.c_LONG) (nomark _)) (pw_or1 (pt_cmpR (op_neD hr.units) (pe_cf h_rows_at (hr.mono (by decide)) (by rfl) (pa_cons (pv 5) (pa_cons (pe_fld (pv 0) rfl) pa_nil))) (pv 4) (nomark _))))) (pss_one (ps_ret pe_bl)) pss_nil))))
        (pss_one (ps_ret pe_bl)))), ?_⟩
  obtain ⟨m, a, P0, c, w0, ls, rfl, hM, hG, hW, ha, hb, hz, k⟩ := h
  obtain ⟨dm, p, pl, wn, h1, h2, h3, ts, h4, h5⟩ := id hM
  refine ⟨_, rfl, _, _, _, _, _, rfl, h1, T.cl_msr, T.n_msr_program, fs_msr_program, _, rfl, p, a, P0, ls, rfl, h2, ha, hb, hz, fun D hD => ?_⟩
  have s0 := Same.new hD (.lst (nV (aloneL P0 ls)))
  have hD1 : (upd H D (.lst (nV (aloneL P0 ls)))) D = some (.lst (nV (aloneL P0 ls))) := upd_same
  generalize hH1 : upd H D (.lst (nV (aloneL P0 ls))) = H1 at *
  let c' := only (aloneL P0 ls) c
  let tst := fun x : Want => ends (runOf c' x.input) && rowsOf c' w0 x.input == x.rows
  have wi : ∀ x ∈ wantsOf c w0, x.input ∈ w0.inputs := fun x hx => by
    obtain ⟨i, hi, e⟩ := List.mem_map.mp hx
    rw [← e]
    exact (List.mem_filter.mp hi).1
  refine ⟨_, rfl, _, _, _, _, _, rfl, (s0 _ _ h1), T.cl_msr, T.n_msr_wanted, fs_msr_wanted, wn, rfl, ⟨_, SqL.of (s0 _ _ h4)⟩, for_list (K := K) (a := wn) (xs := rV ts) (fun i σ H' => ∃ v1 v2 v3, σ = [some (.ref m), some (.ref a), some (.ref D), v1, v2, v3] ∧ Same H1 H' ∧ ((wantsOf c w0).take i).all tst = true)
    ⟨none, none, none, rfl, Same.refl _, rfl⟩ (fun i σ H' _ ⟨_, _, _, _, s1, _⟩ => SqL.of (s1 _ _ (s0 _ _ h4))) ?_ ?_⟩
  · rintro i y σ H' hy ⟨v1, v2, v3, rfl, s1, hall⟩
    obtain ⟨ta, hta, rfl⟩ := rV_get hy
    obtain ⟨x, hx, da, ra, g1, g2, g3⟩ := h5.get' hta
    have s01 := s0.trans s1
    have hxm := List.mem_of_getElem? hx
    refine ⟨ta, _, rfl, SqT.of (s01 _ _ g1), rfl, _, _, rfl, _, _, rfl, rfl, ?_⟩
    refine ⟨_, rfl, _, _, _, _, _, rfl, (s01 _ _ h1), T.cl_msr, T.n_msr_program, fs_msr_program, _, rfl, _, rfl, p, da, D, P0, c, x.input, aloneL P0 ls, rfl, h2.same s01, hG, s01 _ _ g2, s1 _ _ hD1, hW.inp _ (wi x hxm), fun H2 r s2 hR => ?_⟩
    obtain ⟨⟨dr, ss, u0, u1, u2, u4, u5, tss, q1, _⟩, ok⟩ := id hR
    have s02 := s01.trans s2
    have bad : tst x = false → enoughB P0 c w0 ls = false := fun z => by
      show (wantsOf c w0).all tst = false
      rw [List.all_eq_false]
      exact ⟨x, hxm, by rw [z]; decide⟩
    have dl : decide (V.int (statusNumber (runOf c' x.input).status : Nat) = V.int 2) = !ends (runOf c' x.input) := by
      unfold Vaslca.ends
      cases (runOf c' x.input).status <;> decide
    refine ⟨_, rfl, _, _, _, _, _, rfl, q1, T.cl_run, T.n_run_how, fs_run_how, rfl, _, rfl, ?_⟩
    show (if decide (V.int (statusNumber (runOf c' x.input).status : Nat) = V.int 2) = true then _ else _)
    rw [dl]
    cases he : ends (runOf c' x.input) with
    | false =>
      refine if_t rfl (if_t rfl ?_)
      rw [bad (by show (_ && _) = false; rw [he]; rfl)] at k
      exact k H2 s02
    | true =>
      refine if_f rfl ⟨_, rfl, _, rfl, _, _, _, _, _, rfl, (s02 _ _ h1), T.cl_msr, T.n_msr_places, fs_msr_places, r, pl, _, w0.places, rfl, hR, s02 _ _ h3, Nat.le_trans hW.pl (by decide), fun H3 rr s3 mk => ?_⟩
      have hN : NLs H3 rr (rowsOf c' w0 x.input) := mk H3 (Same.refl _) fun b u _ e => e
      refine ⟨_, rfl, _, _, dp_nls hN, dp_nls (g3.same (s02.trans s3)), nDs_shaped _, nDs_shaped _, _, rfl, ?_⟩
      rw [PyData.eqv, nDs_eqv]
      refine if_nd (fun z => ?_) (fun z => ?_)
      · rw [bad (by show (_ && _) = false; rw [he, Bool.true_and]; exact beq_eq_false_iff_ne.mpr z)] at k
        exact k H3 (s02.trans s3)
      · refine ⟨_, _, _, rfl, s1.trans (s2.trans s3), ?_⟩
        rw [take_more hx, List.all_append, hall, Bool.true_and]
        show (tst x && true) = true
        rw [Bool.and_true]
        show (_ && _) = true
        rw [he, Bool.true_and]
        exact beq_iff_eq.mpr z
  · rintro σ H' ⟨v1, v2, v3, rfl, s1, hall⟩
    rw [rV_length, h5.len, List.take_length] at hall
    have e : enoughB P0 c w0 ls = true := hall
    rw [e] at k
    exact k H' (s0.trans s1)
end
end Ld
end
section
set_option Elab.async false
set_option maxRecDepth 100000
set_option maxHeartbeats 4000000
namespace Ld
open PySem PySem.Spec PyProof.Rows L2 RT
open Vaslca (Text exec only runOf statusNumber valuesAt ends)
open Vaslcf (Wish Want wantsOf rowsOf endingInputs meets)
def stepGo (P : List PL) (c : Vaslca.Code) (w : Wish) (left : List Nat) (n : Nat) : List Nat := if left.contains n = true then (if enoughB P c w (aloneL P (left.filter fun m => m != n)) = true then aloneL P (left.filter fun m => m != n) else left) else left
def goL (P : List PL) (c : Vaslca.Code) (w : Wish) (ls : List Nat) : List Nat := ls.reverse.foldl (stepGo P c w) ls
def byL (P : List PL) (c : Vaslca.Code) (w : Wish) : Nat → List Nat → List Nat
  | 0, l => l
  | f + 1, l => if (goL P c w l).length < l.length then byL P c w f (goL P c w l) else goL P c w l
def firstOf (l : List Nat) : Nat := match l.getLast? with
  | some m => m + 1
  | none => 0
def okParent (P : List PL) (l : List Nat) (n : Nat) : Bool := keepL P l n
def longOne (P : List PL) (l : List Nat) : List (List Nat) := ((List.range' (firstOf l) (P.length - firstOf l)).filter (okParent P l)).map fun n => l ++ [n]
def longL (P : List PL) (cs : List (List Nat)) : List (List Nat) := cs.flatMap (longOne P)
def chL (P : List PL) : Nat → List (List Nat)
  | 0 => [[]]
  | k + 1 => longL P (chL P k)
def foundL (P : List PL) (c : Vaslca.Code) (w : Wish) (k : Nat) : List (List Nat) := (chL P k).filter (enoughB P c w)
def leastGo (P : List PL) (c : Vaslca.Code) (w : Wish) : Nat → Nat → List (List Nat)
  | 0, k => foundL P c w k
  | f + 1, k => if (foundL P c w k).isEmpty = true then leastGo P c w f (k + 1) else foundL P c w k
def leastL (P : List PL) (c : Vaslca.Code) (w : Wish) : List (List Nat) := leastGo P c w P.length 0
def joinedL (P : List PL) (c : Vaslca.Code) (w : Wish) : List Nat := (List.range P.length).filter fun n => w.places.any fun p => ((leastL P c { w with places := [p] }).headD []).contains n
/-- what is asked of a list of choices -/
structure ChOk (P : List PL) (cs : List (List Nat)) : Prop where
  len : cs.length ≤ 20000
  ln : ∀ l ∈ cs, ∀ n ∈ l, n < P.length
  sz : ∀ l ∈ cs, l.length ≤ 100
def LinesOk (P : List PL) (ls : List Nat) : Prop := (∀ n ∈ ls, n < P.length) ∧ ls.length ≤ 1000
def spGo (C : Cs) : Sp := fun vs H Q _ => ∃ (m a : Addr) (P : List PL) (c : Vaslca.Code) (w : Wish) (ls : List Nat), vs = [.ref m, .ref a] ∧ MsrAt C H m P c w ∧ Good P c ∧ WishOk P w ∧ H a = some (.lst (nV ls)) ∧ LinesOk P ls ∧ ∀ H' q, Same H H' → H' q = some (.lst (nV (goL P c w ls))) → Q (.ref q) H'
def spByone (C : Cs) : Sp := fun vs H Q _ => ∃ (m : Addr) (P : List PL) (c : Vaslca.Code) (w : Wish), vs = [.ref m] ∧ MsrAt C H m P c w ∧ Good P c ∧ WishOk P w ∧ ∀ H' q, Same H H' → H' q = some (.lst (nV (byL P c w (P.length + 1) (List.range P.length)))) → Q (.ref q) H'
def spLonger (C : Cs) : Sp := fun vs H Q _ => ∃ (p a : Addr) (P : List PL) (cs : List (List Nat)), vs = [.ref p, .ref a] ∧ PrgAt C H p P ∧ NLs H a cs ∧ ChOk P cs ∧ P.length ≤ 100 ∧ (longL P cs).length ≤ 20000 ∧ ∀ H' q, Same H H' → NLs H' q (longL P cs) → Q (.ref q) H'
def spLeast (C : Cs) : Sp := fun vs H Q _ => ∃ (m : Addr) (P : List PL) (c : Vaslca.Code) (w : Wish), vs = [.ref m] ∧ MsrAt C H m P c w ∧ Good P c ∧ WishOk P w ∧ (∀ k, ChOk P (chL P k)) ∧ leastL P c w ≠ [] ∧ ∀ H' q, Same H H' → NLs H' q (leastL P c w) → Q (.ref q) H'
def spJoined (C : Cs) : Sp := fun vs H Q _ => ∃ (p g pa : Addr) (P : List PL) (c : Vaslca.Code) (w : Wish), vs = [.ref p, .ref g, .ref pa] ∧ PrgAt C H p P ∧ Good P c ∧ NLs H g w.inputs ∧ H pa = some (.lst (nV w.places)) ∧ WishOk P w ∧ (∀ k, ChOk P (chL P k)) ∧ (∀ q ∈ w.places, leastL P c { w with places := [q] } ≠ []) ∧
  ∀ H' q, Same H H' → H' q = some (.lst (nV (joinedL P c w))) → Q (.ref q) H'
theorem alone_sub (P : List PL) (ls : List Nat) : ∀ n ∈ aloneL P ls, n ∈ ls := by
  have : ∀ (ls left : List Nat), ∀ n ∈ ls.foldl (fun left n => if keepL P left n = true then left ++ [n] else left) left, n ∈ left ∨ n ∈ ls := by
    intro ls
    induction ls with
    | nil => intro left n hn; exact .inl hn
    | cons m r ih =>
      intro left n hn
      rw [List.foldl_cons] at hn
      rcases ih _ n hn with h | h
      · split at h
        · rcases List.mem_append.mp h with h | h
          · exact .inl h
          · rw [List.mem_singleton.mp h]; exact .inr (by simp)
        · exact .inl h
      · exact .inr (List.mem_cons_of_mem _ h)
  intro n hn
  rcases this ls [] n hn with h | h
  · cases h
  · exact h
theorem LinesOk.alone {P : List PL} {ls : List Nat} (h : LinesOk P ls) : LinesOk P (aloneL P ls) := ⟨fun n hn => h.1 n (alone_sub P ls n hn), Nat.le_trans (aloneL_le P ls) h.2⟩
theorem LinesOk.filter {P : List PL} {ls : List Nat} (h : LinesOk P ls) (f : Nat → Bool) : LinesOk P (ls.filter f) := ⟨fun n hn => h.1 n (List.mem_filter.mp hn).1, Nat.le_trans (List.length_filter_le _ _) h.2⟩
theorem LinesOk.step {P : List PL} {ls : List Nat} (h : LinesOk P ls) (c : Vaslca.Code) (w : Wish) (n : Nat) : LinesOk P (stepGo P c w ls n) := by
  unfold stepGo
  split
  · split
    · exact (h.filter _).alone
    · exact h
  · exact h
theorem LinesOk.go {P : List PL} {ls : List Nat} (h : LinesOk P ls) (c : Vaslca.Code) (w : Wish) : LinesOk P (goL P c w ls) := by
  have : ∀ (r l : List Nat), LinesOk P l → LinesOk P (r.foldl (stepGo P c w) l) := by
    intro r
    induction r with
    | nil => intro l hl; exact hl
    | cons n r ih => intro l hl; exact ih _ (hl.step c w n)
  exact this _ _ h
theorem mem_nat (l : List Nat) (n : Nat) : (l.any fun y : Nat => decide ((y : Int) = (n : Int))) = l.contains n := by
  rw [Bool.eq_iff_iff, List.any_eq_true, List.contains_iff_mem]
  constructor
  · rintro ⟨m, hm, e⟩
    have := of_decide_eq_true e
    rw [show n = m by omega]; exact hm
  · exact fun h => ⟨n, h, by simp⟩
section
variable {P : Program} {w : World} {K : PySem.W.Frag} {mg : Str → Option Value} {base : Heap} {C : Cs}
abbrev s_go_through : Stmt := top 49
theorem sc_go_through : FnScope ["measure", "lines", "left", "line", "fewer", "other"] ["measure", "lines"] (defScope s_go_through) := ⟨rfl, rfl, rfl, by decide +kernel, rfl, by decide +kernel, by decide +kernel⟩
theorem ok_go_through (T : Txt K mg C) : OkF P w K mg base 27 "go_through" ["measure", "lines"] (spGo C) := by
  have h_Measure_is_enough := ok_Measure_is_enough (P := P) (w := w) (base := base) T
  have h_alone := ok_alone (P := P) (w := w) (base := base) T
  obtain ⟨f, fd, hm, F, b⟩ := T.f_go_through
  refine ⟨f, fd, hm, F.kp, b, F.ok sc_go_through (fun vs H Q E h => ?_) (fun cdv A outer s H vs Q E hr h => ?_)⟩
  · obtain ⟨m, a, P, c, w, ls, rfl, _⟩ := h
    rfl
  refine ⟨_, (pss_cons (ps_set (i := 2) sc_go_through.nd rfl (Or.inl rfl) (pv 1))
        (pss_cons (ps_for PassesOwn.never rfl (pi_reversed (by rfl) T.reversed (pa_cons (pv 1) pa_nil)) (pg_name (i := 3) sc_go_through.nd rfl (Or.inr rfl)) (pss_one (ps_if (pt_cmpR op_in_seq (pv 3) (pv 2) (by rfl)) (pss_cons (ps_set (i := 4) sc_go_through.nd rfl (Or.inl rfl) (pe_cf h_alone (hr.mono (by decide)) (by rfl) (pa_cons (pe_fld (pv 0) rfl) (pa_cons (pe_lc (own := [("other", 5)]) (g := gName 5) rfl sc_go_through.nd (pi_list (pv 2)) (blkOk_by (own := [("other", 5)]) (N := ["measure", "lines", "left", "line", "fewer", "other"]) (sc := defScope s_go_through) (by decide +kernel)) (fun _ _ _ _ _ => pg_name (i := 5) sc_go_through.nd rfl (Or.inl rfl)) (fun _ _ _ _ _ => (pts_one (pt_cmpR op_ne (pv 5) (pv 3) (nomark _)))) (fun _ _ _ _ _ => (pv 5))) pa_nil))))
        (pss_one (ps_if (pt_val (pe_cm (pv 0) T.cl_msr h_Measure_is_enough (hr.mono (by decide)) (pa_cons (pv 4) pa_nil))) (pss_one (ps_set (i := 2) sc_go_through.nd rfl (Or.inl rfl) (pv 4))) pss_nil))) pss_nil)))
        (pss_one (ps_ret (pv 2))))), ?_⟩
  obtain ⟨m, a, P0, c, w0, ls, rfl, hM, hG, hW, ha, hL, k⟩ := h
  refine ⟨_, rfl, ?_⟩
  refine ⟨_, rfl, a, nV ls, rfl, SqL.of ha, for_Itv (K := K) (a := a) (xs := nV ls) (fun i σ H' => ∃ lf v1 v2 v3, σ = [some (.ref m), some (.ref a), some (.ref lf), v1, v2, v3] ∧ Same H H' ∧ H' lf = some (.lst (nV ((ls.reverse.take i).foldl (stepGo P0 c w0) ls))))
    ⟨a, none, none, none, rfl, Same.refl H, ha⟩ (fun i σ H' ⟨_, _, _, _, _, s1, _⟩ => SqL.of (s1 _ _ ha)) ?_ ?_⟩
  · rintro i y σ H' hi hy ⟨lf, v1, v2, v3, rfl, s1, hlf⟩
    obtain ⟨n, hn, rfl⟩ := nV_get hy
    rw [nV_length] at hi hn
    have hrev : ls.reverse[i]? = some n := by
      rw [List.getElem?_reverse hi]
      exact hn
    have tk : (ls.reverse.take (i + 1)).foldl (stepGo P0 c w0) ls = stepGo P0 c w0 ((ls.reverse.take i).foldl (stepGo P0 c w0) ls) n := foldl_take _ _ hrev
    have hlok : LinesOk P0 ((ls.reverse.take i).foldl (stepGo P0 c w0) ls) := by
      have : ∀ (r l : List Nat), LinesOk P0 l → LinesOk P0 (r.foldl (stepGo P0 c w0) l) := by
        intro r
        induction r with
        | nil => intro l hl; exact hl
        | cons n r ih => intro l hl; exact ih _ (hl.step c w0 n)
      exact this _ _ hL
    rw [tk]
    generalize (ls.reverse.take i).foldl (stepGo P0 c w0) ls = left at *
    obtain ⟨dm, p, pl, wn, h1, h2, h3, h4⟩ := id (hM.same s1)
    refine ⟨_, rfl, _, rfl, lf, _, rfl, .inl (SqL.of hlf), rfl, flat_nV _, _, rfl, ?_⟩
    rw [inV_nV]
    show (if (left.any fun y : Nat => decide ((y : Int) = (n : Int))) = true then _ else _)
    rw [mem_nat]
    refine if_b (fun z => ?_) (fun z => ?_)
    · refine ⟨_, rfl, _, _, _, _, _, rfl, h1, T.cl_msr, T.n_msr_program, fs_msr_program, ?_⟩
      refine lc_by (K := K) (a := lf) (xs := nV left) (ys := left) (fun q : Nat => V.int (q : Int)) (fun q => q != n) (val_var rfl) (SqL.of hlf) (nV_length _) (by rw [nV_length]; exact Nat.le_trans hlok.2 (by decide)) (fun v => rfl)
        (fun j v q hv hq H2 s2 => ?_) (fun j v q hv hq _ H2 s2 => ?_) (fun D hD => ?_)
      · obtain ⟨q', hq', rfl⟩ := nV_get hv
        rw [hq] at hq'
        cases Option.some.inj hq'
        refine ans_ne (val_var rfl) (val_var rfl) rfl ?_
        by_cases e : q = n
        · subst e; simp
        · rw [decide_eq_false (fun y => e (by have := V.int.inj y; omega))]
          symm
          simpa using e
      · obtain ⟨q', hq', rfl⟩ := nV_get hv
        rw [hq] at hq'
        cases Option.some.inj hq'
        exact val_var rfl
      · have e1 : (left.filter fun q => q != n).map (fun q : Nat => V.int (q : Int)) = nV (left.filter fun q => q != n) := rfl
        rw [e1]
        have sD := Same.new hD (.lst (nV (left.filter fun q => q != n)))
        have hf := hlok.filter (fun q => q != n)
        refine ⟨p, D, P0, left.filter fun q => q != n, rfl, h2.same sD, upd_same, hf.1, hf.2, fun E hE => ?_⟩
        have sE := Same.new hE (.lst (nV (aloneL P0 (left.filter fun q => q != n))))
        have sDE := s1.trans (sD.trans sE)
        obtain ⟨dm', p', pl', wn', g1, _⟩ := id (hM.same sDE)
        have ha' := hf.alone
        refine ⟨_, rfl, _, _, _, rfl, g1, fs_msr_no_is_enough, _, rfl, m, E, P0, c, w0, aloneL P0 (left.filter fun q => q != n), rfl, hM.same sDE, hG, hW, upd_same, ha'.1, ha'.2, fun H3 s3 => ⟨_, rfl, ?_⟩⟩
        have go1 : stepGo P0 c w0 left n = if enoughB P0 c w0 (aloneL P0 (left.filter fun m => m != n)) = true then aloneL P0 (left.filter fun m => m != n) else left := by unfold stepGo; rw [if_pos z]
        rw [go1]
        refine if_b (fun e => ?_) (fun e => ?_)
        · rw [if_pos e]
          exact ⟨_, rfl, E, _, _, _, rfl, sDE.trans s3, s3 _ _ upd_same⟩
        · rw [if_neg (by rw [e]; decide)]
          exact ⟨lf, _, _, _, rfl, sDE.trans s3, s3 _ _ (sE _ _ (sD _ _ hlf))⟩
    · have go0 : stepGo P0 c w0 left n = left := by unfold stepGo; rw [if_neg (by rw [z]; decide)]
      rw [go0]
      exact ⟨lf, _, _, _, rfl, s1, hlf⟩
  · rintro σ H' ⟨lf, v1, v2, v3, rfl, s1, hlf⟩
    rw [nV_length, ← List.length_reverse, List.take_length] at hlf
    exact ⟨_, rfl, k H' lf s1 hlf⟩
abbrev s_one_by_one : Stmt := top 50
theorem sc_one_by_one : FnScope ["measure", "left", "before"] ["measure"] (defScope s_one_by_one) := ⟨rfl, rfl, rfl, by decide +kernel, rfl, by decide +kernel, by decide +kernel⟩
theorem ok_one_by_one (T : Txt K mg C) : OkF P w K mg base 28 "one_by_one" ["measure"] (spByone C) := by
  have h_Program_many := ok_Program_many (P := P) (w := w) (base := base) T
  have h_go_through := ok_go_through (P := P) (w := w) (base := base) T
  obtain ⟨f, fd, hm, F, b⟩ := T.f_one_by_one
  refine ⟨f, fd, hm, F.kp, b, F.ok sc_one_by_one (fun vs H Q E h => ?_) (fun cdv A outer s H vs Q E hr h => ?_)⟩
  · obtain ⟨m, P, c, w, rfl, _⟩ := h
    rfl
  refine ⟨_, (pss_cons (ps_set (i := 1) sc_one_by_one.nd rfl (Or.inl rfl) (pe_listRg rfl (by rfl) T.list (prg_1 (by rfl) T.range (pe_cm0 (pe_fld (pv 0) rfl) T.cl_prg h_Program_many (hr.mono (by decide))))))
        (pss_cons (ps_set (i := 2) sc_one_by_one.nd rfl (Or.inl rfl) (pe_op op_add (pe_callB call_len_seq (by rfl) T.len PySem.boot_len (pa_cons (pv 1) pa_nil)) pe_int))
        (pss_cons (ps_while PassesOwn.never (pt_cmpR op_lt (pe_callB call_len_seq (by rfl) T.len PySem.boot_len (pa_cons (pv 1) pa_nil)) (pv 2) (nomark _)) (pss_cons (ps_set (i := 2) sc_one_by_one.nd rfl (Or.inl rfl) (pe_callB call_len_seq (by rfl) T.len PySem.boot_len (pa_cons (pv 1) pa_nil)))
        (pss_one (ps_set (i := 1) sc_one_by_one.nd rfl (Or.inl rfl) (pe_cf h_go_through (hr.mono (by decide)) (by rfl) (pa_cons (pv 0) (pa_cons (pv 1) pa_nil)))))))
        (pss_one (ps_ret (pv 1)))))), ?_⟩
  obtain ⟨m, P0, c, w0, rfl, hM, hG, hW, k⟩ := h
  obtain ⟨dm, p, pl, wn, h1, h2, h3, h4⟩ := id hM
  obtain ⟨dx, ps, ppa, psi, pas, p1, p2, p3, p4, p5⟩ := id h2
  have pl14 := hG.len
  refine ⟨_, rfl, _, _, _, _, _, rfl, h1, T.cl_msr, T.n_msr_program, fs_msr_program, _, _, _, rfl, p1, fs_prg_no_many, p, dx, ps, _, _, rV pas, rfl, p1, p2, ?_⟩
  rw [rV_length, p5.len]
  refine ⟨_, rfl, RgOk.of_le (by omega) (by omega) (by omega) (by omega), fun D hD => ?_⟩
  rw [rgV_range]
  have s1 := Same.new hD (.lst (nV (List.range P0.length)))
  refine ⟨_, rfl, _, _, rfl, .inl (SqL.of upd_same), _, _, rfl, rfl, ?_⟩
  rw [nV_length, List.length_range]
  have hL0 : LinesOk P0 (List.range P0.length) := ⟨fun n hn => List.mem_range.mp hn, by rw [List.length_range]; omega⟩
  refine ⟨fun mm σ H' => ∃ (lf : Addr) (left : List Nat) (bf : Nat), σ = [some (.ref m), some (.ref lf), some (.int (bf : Int))] ∧ Same H H' ∧ H' lf = some (.lst (nV left)) ∧ LinesOk P0 left ∧ mm = bf ∧
      ((left.length < bf ∧ ∃ f, left.length < f ∧ byL P0 c w0 f left = byL P0 c w0 (P0.length + 1) (List.range P0.length)) ∨ (¬ left.length < bf ∧ left = byL P0 c w0 (P0.length + 1) (List.range P0.length))),
    ⟨P0.length + 1, D, _, P0.length + 1, ?_, s1, upd_same, hL0, rfl, .inl ⟨by rw [List.length_range]; omega, P0.length + 1, by rw [List.length_range]; omega, rfl⟩⟩, ?_⟩
  · rfl
  rintro mm σ H' ⟨lf, left, bf, rfl, s2, hlf, hlok, rfl, hor⟩
  refine ⟨_, rfl, _, _, rfl, .inl (SqL.of hlf), _, rfl, _, _, rfl, rfl, _, rfl, ?_⟩
  rw [nV_length]
  rcases hor with ⟨hlt, f, hf, hby⟩ | ⟨hge, hfin⟩
  · refine if_t (decide_eq_true (by omega)) ⟨_, fun _ _ h => h, ?_⟩
    refine ⟨_, rfl, _, _, rfl, .inl (SqL.of hlf), ?_⟩
    rw [nV_length]
    refine ⟨_, rfl, _, rfl, m, lf, P0, c, w0, left, rfl, hM.same s2, hG, hW, hlf, hlok, fun H3 q s3 hq => ?_⟩
    refine ⟨left.length, by omega, q, goL P0 c w0 left, left.length, rfl, s2.trans s3, hq, hlok.go c w0, rfl, ?_⟩
    obtain ⟨f', rfl⟩ : ∃ f', f = f' + 1 := ⟨f - 1, by omega⟩
    have e0 : byL P0 c w0 (f' + 1) left = if (goL P0 c w0 left).length < left.length then byL P0 c w0 f' (goL P0 c w0 left) else goL P0 c w0 left := rfl
    by_cases z : (goL P0 c w0 left).length < left.length
    · rw [if_pos z] at e0
      exact .inl ⟨z, f', by omega, by rw [← e0, hby]⟩
    · rw [if_neg z] at e0
      exact .inr ⟨z, by rw [← e0, hby]⟩
  · refine if_f (decide_eq_false (by omega)) ?_
    rw [hfin] at hlf
    exact ⟨_, rfl, k H' lf s2 hlf⟩
abbrev s_one_longer : Stmt := top 51
theorem sc_one_longer : FnScope ["program", "choices", "out", "lines", "first", "line", "parent"] ["program", "choices"] (defScope s_one_longer) := ⟨rfl, rfl, rfl, by decide +kernel, rfl, by decide +kernel, by decide +kernel⟩
theorem ok_one_longer (T : Txt K mg C) : OkF P w K mg base 2 "one_longer" ["program", "choices"] (spLonger C) := by
  have h_Program_many := ok_Program_many (P := P) (w := w) (base := base) T
  obtain ⟨f, fd, hm, F, b⟩ := T.f_one_longer
  refine ⟨f, fd, hm, F.kp, b, F.ok sc_one_longer (fun vs H Q E h => ?_) (fun cdv A outer s H vs Q E hr h => ?_)⟩
  · obtain ⟨p, a, P, cs, rfl, _⟩ := h
    rfl
  refine ⟨_, (pss_cons (ps_set (i := 2) sc_one_longer.nd rfl (Or.inl rfl) (pe_lst pa_nil))
        (pss_cons (ps_for PassesOwn.never rfl (pi_list (pv 1)) (pg_name (i := 3) sc_one_longer.nd rfl (Or.inl rfl)) (pss_cons (ps_set (i := 4) sc_one_longer.nd rfl (Or.inl rfl) (pe_ifExp (pt_cmpR op_gt (pe_callB call_len_seq (by rfl) T.len PySem.boot_len (pa_cons (pv 3) pa_nil)) pe_int (nomark _)) (pe_op op_add (pe_ix ix_list (pv 3) (pe_op op_sub (pe_callB call_len_seq (by rfl) T.len PySem.boot_len (pa_cons (pv 3) pa_nil)) pe_int) (fun _ _ => rfl)) pe_int) pe_int))
        (pss_one (ps_for PassesOwn.never rfl (pi_range2 (by rfl) T.range (pa_cons (pv 4) (pa_cons (pe_cm0 (pv 0) T.cl_prg h_Program_many (hr.mono (by decide))) pa_nil))) (pg_name (i := 5) sc_one_longer.nd rfl (Or.inl rfl)) (pss_cons (ps_set (i := 6) sc_one_longer.nd rfl (Or.inl rfl) (pe_ix ix_list (pe_fld (pv 0) rfl) (pv 5) (fun _ _ => rfl)))
        (pss_one (ps_if (PW.pt (pw_or (pt_cmpR op_eq (pv 6) (pe_un un_neg pe_int) (nomark _)) (pw_or1 (pt_cmpR op_in_seq (pv 6) (pv 3) (by rfl))))) (pss_one (ps_expr (pe_bm PySem.F.plainAttrs_list PySem.F.slot_list_append PySem.F.type_list_append mt_append (pv 2) (pa_cons (pe_op op_cat (pv 3) (pe_lst (pa_cons (pv 5) pa_nil))) pa_nil)))) pss_nil)))))))
        (pss_one (ps_ret (pv 2))))), ?_⟩
  obtain ⟨p, a, P0, cs, rfl, hP, hN, hCh, hPl, hlong, k⟩ := h
  obtain ⟨dx, ps, ppa, psi, pas, p1, p2, p3, p4, p5⟩ := id hP
  obtain ⟨cas, hc1, hc2⟩ := id hN
  refine ⟨(by show 0 ≤ sizeLine; decide), fun D hD => ?_⟩
  have s0 := Same.new hD (.lst [])
  refine ⟨_, rfl, a, rfl, ⟨_, SqL.of (s0 _ _ hc1)⟩, for_list (K := K) (a := a) (xs := rV cas) (fun i σ H' => ∃ v1 v2 v3 v4 rs, σ = [some (.ref p), some (.ref a), some (.ref D), v1, v2, v3, v4] ∧ Same H H' ∧ H' D = some (.lst (rV rs)) ∧ AllAt (fun b l => H' b = some (.lst (nV l)) ∧ b ≠ D) rs (longL P0 (cs.take i)))
    ⟨none, none, none, none, [], rfl, s0, upd_same, trivial⟩ (fun i σ H' _ ⟨_, _, _, _, _, _, s1, _⟩ => SqL.of (s1 _ _ hc1)) ?_ ?_⟩
  · rintro i y σ H' hy ⟨v1, v2, v3, v4, rs, rfl, s1, hDl, hA⟩
    obtain ⟨la, hla, rfl⟩ := rV_get hy
    obtain ⟨l, hl, hll⟩ := hc2.get' hla
    have hm := List.mem_of_getElem? hl
    have hln := hCh.ln l hm
    have step : longL P0 (cs.take (i + 1)) = longL P0 (cs.take i) ++ longOne P0 l := by
      unfold longL
      rw [take_more hl, List.flatMap_append]
      simp
    have total : (longL P0 (cs.take (i + 1))).length ≤ 20000 := by
      have e : longL P0 cs = longL P0 (cs.take (i + 1)) ++ longL P0 (cs.drop (i + 1)) := by unfold longL; rw [← List.flatMap_append, List.take_append_drop]
      rw [e, List.length_append] at hlong
      omega
    have hl1 := s1 _ _ hll
    have szl := hCh.sz l hm
    -- first = lines[len(lines) - 1] + 1 if len(lines) > 0 else 0
    refine sq_asgH (PV := fun u H2 => u = .int (firstOf l : Nat) ∧ H2 = H') ?_ ?_
    · intro Q0 q0
      refine ⟨_, rfl, _, _, rfl, .inl (SqL.of hl1), _, _, rfl, rfl, _, rfl, ?_⟩
      rw [nV_length]
      by_cases z : l = []
      · subst z
        refine if_f (by decide) ?_
        exact q0 _ _ ⟨rfl, rfl⟩
      · have lp : 0 < l.length := List.length_pos_iff.mpr z
        refine if_t (decide_eq_true (by omega)) ?_
        have gl : l[l.length - 1]? = some (l.getLast z) := by rw [← List.getLast?_eq_getElem?]; exact List.getLast?_eq_some_getLast z
        have gv : atI (nV l) ((l.length : Int) - 1) = some (.int (l.getLast z : Nat)) := by
          rw [show ((l.length : Int) - 1) = ((l.length - 1 : Nat) : Int) by omega]
          exact atI_n (by unfold nV; rw [List.getElem?_map, gl]; rfl)
        have gv' : atI (nV l) (((nV l).length : Int) - 1) = some (.int (l.getLast z : Nat)) := by rw [nV_length]; exact gv
        refine ⟨_, rfl, _, rfl, _, _, rfl, .inl (SqL.of hl1), _, _, rfl, rfl, _, _, _, _, rfl, rfl, SqL.of hl1, gv', _, _, rfl, rfl, ?_⟩
        refine q0 _ _ ⟨?_, rfl⟩
        have : firstOf l = l.getLast z + 1 := by unfold firstOf; rw [List.getLast?_eq_some_getLast z]
        rw [this]
        rfl
    rintro u H2 ⟨rfl, rfl⟩
    -- for line in range(first, program.many())
    obtain ⟨dx', ps', ppa', psi', pas', g1, g2, g3, g4, g5⟩ := id (hP.same s1)
    refine ⟨_, rfl, _, rfl, _, _, _, rfl, g1, fs_prg_no_many, p, dx', ps', _, _, rV pas', rfl, g1, g2, ?_⟩
    rw [rV_length, g5.len]
    have fle : firstOf l ≤ P0.length := by
      unfold firstOf
      cases e : l.getLast? with
      | none => exact Nat.zero_le _
      | some q => exact hln q (List.mem_of_getLast? e)
    refine ⟨_, _, rfl, ⟨by omega, by omega, by omega, by omega⟩, ?_⟩
    have en : (((P0.length : Nat) : Int) - ((firstOf l : Nat) : Int)).toNat = P0.length - firstOf l := by omega
    rw [en]
    refine for_range (lo := (firstOf l : Int)) (n := P0.length - firstOf l) (fun j σ H' => ∃ v3 v4 rs, σ = [some (.ref p), some (.ref a), some (.ref D), some (.ref la), some (.int (firstOf l : Nat)), v3, v4] ∧ Same H H' ∧ H' D = some (.lst (rV rs)) ∧ AllAt (fun b l => H' b = some (.lst (nV l)) ∧ b ≠ D) rs (longL P0 (cs.take i) ++ ((List.range' (firstOf l) j).filter (okParent P0 l)).map fun n => l ++ [n]))
      ⟨_, _, rs, rfl, s1, hDl, by simpa using hA⟩ ?_ ?_
    · rintro j σ H4 hj ⟨w3, w4, rs4, rfl, s4, hD4, hA4⟩
      have hlt : firstOf l + j < P0.length := by omega
      obtain ⟨ln, hln'⟩ : ∃ ln, P0[firstOf l + j]? = some ln := ⟨_, List.getElem?_eq_getElem hlt⟩
      obtain ⟨dx5, ps5, ppa5, psi5, pas5, q1, q2, q3, q4, q5⟩ := id (hP.same s4)
      have ej : ((firstOf l : Nat) : Int) + (j : Int) = ((firstOf l + j : Nat) : Int) := by omega
      rw [ej]
      have kp : okParent P0 l (firstOf l + j) = (decide (ln.parent = -1) || l.any fun y : Nat => decide ((y : Int) = ln.parent)) := by unfold okParent keepL; rw [hln']
      have rg : List.range' (firstOf l) (j + 1) = List.range' (firstOf l) j ++ [firstOf l + j] := by rw [List.range'_concat]; simp
      have len4 : (rV rs4).length < sizeLine := by
        rw [rV_length, hA4.len, List.length_append]
        have h1 : (longL P0 (cs.take i)).length ≤ 20000 := by rw [step, List.length_append] at total; omega
        have h2 : (((List.range' (firstOf l) j).filter (okParent P0 l)).map fun n => l ++ [n]).length ≤ j := by
          rw [List.length_map]
          exact Nat.le_trans (List.length_filter_le _ _) (by rw [List.length_range']; exact Nat.le_refl _)
        exact Nat.lt_of_le_of_lt (show _ ≤ 20100 by omega) (by decide)
      have hl4 := s4 _ _ hll
      refine ⟨_, rfl, _, _, _, _, _, rfl, q1, T.cl_prg, T.n_prg_parents, fs_prg_parents, _, rfl, _, _, _, _, rfl, rfl, SqL.of q3, parV_at hln', ?_⟩
      refine ⟨_, rfl, _, rfl, rfl, _, rfl, ?_⟩
      -- what follows an append
      have grow : okParent P0 l (firstOf l + j) = true → ∀ (E F : Addr), H4 E = none → (upd H4 E (.lst [.int ((firstOf l + j : Nat) : Int)])) F = none →
          ∃ v3 v4 rs, [some (V.ref p), some (.ref a), some (.ref D), some (.ref la), some (.int (firstOf l : Nat)), some (.int ((firstOf l + j : Nat) : Int)), some (.int ln.parent)] = [some (.ref p), some (.ref a), some (.ref D), some (.ref la), some (.int (firstOf l : Nat)), v3, v4] ∧
          Same H (upd (upd (upd H4 E (.lst [.int ((firstOf l + j : Nat) : Int)])) F (.lst (nV l ++ [.int ((firstOf l + j : Nat) : Int)]))) D (.lst (rV rs4 ++ [.ref F]))) ∧ (upd (upd (upd H4 E (.lst [.int ((firstOf l + j : Nat) : Int)])) F (.lst (nV l ++ [.int ((firstOf l + j : Nat) : Int)]))) D (.lst (rV rs4 ++ [.ref F]))) D = some (.lst (rV rs)) ∧
          AllAt (fun b t => (upd (upd (upd H4 E (.lst [.int ((firstOf l + j : Nat) : Int)])) F (.lst (nV l ++ [.int ((firstOf l + j : Nat) : Int)]))) D (.lst (rV rs4 ++ [.ref F]))) b = some (.lst (nV t)) ∧ b ≠ D) rs (longL P0 (cs.take i) ++ ((List.range' (firstOf l) (j + 1)).filter (okParent P0 l)).map fun n => l ++ [n]) := fun z E F hE hF => by
        have hF4 : H4 F = none := Same.free (Same.new hE _) hF
        have hDE : D ≠ E := ne_of_none hD4 hE
        have hDF : D ≠ F := ne_of_none hD4 hF4
        have hEF : E ≠ F := ne_of_none upd_same hF
        refine ⟨_, _, rs4 ++ [F], rfl, ((s4.trans (Same.new hE _)).trans (Same.new hF _)).put hD _, ?_, ?_⟩
        · rw [upd_same]; exact congrArg (fun l => some (HO.lst l)) (rV_app rs4 [F])
        · rw [rg, List.filter_append, List.map_append, ← List.append_assoc]
          have e1 : List.filter (okParent P0 l) [firstOf l + j] = [firstOf l + j] := by simp [z]
          rw [e1]
          refine AllAt.app (hA4.mono fun b t e => ⟨?_, e.2⟩) (AllAt.one ⟨?_, hDF.symm⟩)
          · rw [upd_ne hDF.symm, upd_same]
            unfold nV
            rw [List.map_append]
            rfl
          · rw [upd_ne e.2, upd_ne (ne_of_none e.1 hF4), upd_ne (ne_of_none e.1 hE)]; exact e.1
      have szc : (nV l).length + 1 ≤ sizeLine := by rw [nV_length]; exact Nat.le_trans (show _ ≤ 101 by omega) (by decide)
      have e1 : decide (V.int ln.parent = V.int (-1)) = decide (ln.parent = -1) := decide_eq_decide.mpr ⟨fun z => V.int.inj z, fun z => by rw [z]⟩
      show (if decide (V.int ln.parent = V.int (-1)) = true then _ else _)
      rw [e1]
      refine if_d (fun e => ?_) (fun e => ?_)
      · refine if_t rfl ⟨_, rfl, .inl ⟨rfl, _, SqL.of hD4⟩, _, rfl, _, rfl, ?_⟩
        refine ⟨(by show 1 ≤ sizeLine; decide), fun E hE => ⟨_, _, _, _, rfl, rfl, Same.new hE _ _ _ hl4, upd_same, szc, fun F hF => ⟨_, _, _, rfl, rfl, ?_, len4, ?_⟩⟩⟩
        · exact Same.new hF _ _ _ (Same.new hE _ _ _ hD4)
        · exact grow (by rw [kp, decide_eq_true e, Bool.true_or]) E F hE hF
      · refine ⟨_, rfl, _, rfl, la, _, rfl, .inl (SqL.of hl4), rfl, flat_nV _, _, rfl, ?_⟩
        rw [inV_nV]
        show (if l.any (fun y : Nat => decide ((y : Int) = ln.parent)) = true then _ else _)
        rw [decide_eq_false e, Bool.false_or] at kp
        rw [← kp]
        refine if_b (fun e => ?_) (fun e => ?_)
        · refine ⟨_, rfl, .inl ⟨rfl, _, SqL.of hD4⟩, _, rfl, _, rfl, ?_⟩
          refine ⟨(by show 1 ≤ sizeLine; decide), fun E hE => ⟨_, _, _, _, rfl, rfl, Same.new hE _ _ _ hl4, upd_same, szc, fun F hF => ⟨_, _, _, rfl, rfl, ?_, len4, ?_⟩⟩⟩
          · exact Same.new hF _ _ _ (Same.new hE _ _ _ hD4)
          · exact grow e E F hE hF
        · refine ⟨_, _, rs4, rfl, s4, hD4, ?_⟩
          rw [rg, List.filter_append]
          have e1 : List.filter (okParent P0 l) [firstOf l + j] = [] := by simp [e]
          rw [e1, List.append_nil]
          exact hA4
    · rintro σ H4 ⟨w3, w4, rs4, rfl, s4, hD4, hA4⟩
      refine ⟨_, _, _, _, rs4, rfl, s4, hD4, ?_⟩
      rw [step]
      exact hA4
  · rintro σ H' ⟨v1, v2, v3, v4, rs, rfl, s1, hDl, hA⟩
    rw [rV_length, hc2.len, List.take_length] at hA
    exact ⟨_, rfl, k H' D s1 ⟨rs, hDl, hA.mono fun b l e => e.1⟩⟩
abbrev s_all_least : Stmt := top 52
theorem sc_all_least : FnScope ["measure", "choices", "size", "found", "lines"] ["measure"] (defScope s_all_least) := ⟨rfl, rfl, rfl, by decide +kernel, rfl, by decide +kernel, by decide +kernel⟩
theorem ok_all_least (T : Txt K mg C) : OkF P w K mg base 27 "all_least" ["measure"] (spLeast C) := by
  have h_Measure_is_enough := ok_Measure_is_enough (P := P) (w := w) (base := base) T
  have h_Program_many := ok_Program_many (P := P) (w := w) (base := base) T
  have h_one_longer := ok_one_longer (P := P) (w := w) (base := base) T
  obtain ⟨f, fd, hm, F, b⟩ := T.f_all_least
  refine ⟨f, fd, hm, F.kp, b, F.ok sc_all_least (fun vs H Q E h => ?_) (fun cdv A outer s H vs Q E hr h => ?_)⟩
  · obtain ⟨m, P, c, w, rfl, _⟩ := h
    rfl
  refine ⟨_, (pss_cons (ps_set (i := 1) sc_all_least.nd rfl (Or.inl rfl) (pe_lst (pa_cons (pe_lst pa_nil) pa_nil)))
        (pss_cons (ps_for PassesOwn.never rfl (pi_range1 (by rfl) T.range (pa_cons (pe_op op_add (pe_cm0 (pe_fld (pv 0) rfl) T.cl_prg h_Program_many (hr.mono (by decide))) pe_int) pa_nil)) (pg_name (i := 2) sc_all_least.nd rfl (Or.inl rfl)) (pss_cons (ps_setLc (i := 3) (own := [("lines", 4)]) (g := gName 4) rfl sc_all_least.nd rfl rfl (sw_true rfl rfl rfl (by decide +kernel)) (pi_list (pv 1)) (blkOk_by (own := [("lines", 4)]) (N := ["measure", "choices", "size", "found", "lines"]) (sc := defScope s_all_least) (by decide +kernel)) (fun _ _ _ _ _ => pg_name (i := 4) sc_all_least.nd rfl (Or.inl rfl)) (fun _ _ _ _ _ => (pts_one (pt_val (pe_cm (pv 0) T.cl_msr h_Measure_is_enough (hr.mono (by decide)) (pa_cons (pv 4) pa_nil))))) (fun _ _ _ _ _ => (pv 4)))
        (pss_cons (ps_if (pt_cmpR op_gt (pe_callB call_len_seq (by rfl) T.len PySem.boot_len (pa_cons (pv 3) pa_nil)) pe_int (nomark _)) (pss_one (ps_ret (pv 3))) pss_nil)
        (pss_one (ps_set (i := 1) sc_all_least.nd rfl (Or.inl rfl) (pe_cf h_one_longer (hr.mono (by decide)) (by rfl) (pa_cons (pe_fld (pv 0) rfl) (pa_cons (pv 1) pa_nil))))))))
        (pss_one (ps_ret (pv 1))))), ?_⟩
  obtain ⟨m, P0, c, w0, rfl, hM, hG, hW, hCh, hne, k⟩ := h
  have pl14 := hG.len
  refine ⟨(by show 0 ≤ sizeLine; decide), fun E hE => ⟨(by show 1 ≤ sizeLine; decide), fun D hD => ?_⟩⟩
  have s0 : Same H (upd (upd H E (.lst [])) D (.lst [.ref E])) := (Same.new hE _).trans (Same.new hD _)
  obtain ⟨dm, p, pl, wn, h1, h2, h3, h4⟩ := id (hM.same s0)
  obtain ⟨dx, ps, ppa, psi, pas, p1, p2, p3, p4, p5⟩ := id h2
  refine ⟨_, rfl, _, _, _, _, _, rfl, h1, T.cl_msr, T.n_msr_program, fs_msr_program, _, _, _, rfl, p1, fs_prg_no_many, p, dx, ps, _, _, rV pas, rfl, p1, p2, ?_⟩
  rw [rV_length, p5.len]
  refine ⟨_, _, rfl, rfl, _, rfl, by omega, by omega, ?_⟩
  have en : ((P0.length : Int) + 1).toNat = P0.length + 1 := by omega
  rw [en]
  refine for_range (lo := 0) (n := P0.length + 1) (fun i σ H' => ∃ a v2 v3 v4, σ = [some (.ref m), some (.ref a), v2, v3, v4] ∧ Same H H' ∧ NLs H' a (chL P0 i) ∧ i ≤ P0.length ∧ leastGo P0 c w0 (P0.length - i) i = leastL P0 c w0)
      ⟨_, _, _, _, rfl, s0, ⟨[E], upd_same, Same.new hD _ _ _ upd_same, trivial⟩, Nat.zero_le _, rfl⟩ ?_ ?_
  · rintro i σ H1 hi ⟨a, v2, v3, v4, rfl, s1, ⟨rs, ha, hA⟩, hle, hgo⟩
    have hch := hCh i
    refine ⟨_, rfl, a, rfl, ⟨_, SqL.of ha⟩, fun F hF => ?_⟩
    refine lc_list (K := K) (a := a) (xs := rV rs) (fun j H' => Same H1 H' ∧ ∃ ts, H' F = some (.lst (rV ts)) ∧ AllAt (fun b l => H1 b = some (.lst (nV l))) ts (((chL P0 i).take j).filter (enoughB P0 c w0)))
      ⟨Same.new hF _, [], upd_same, trivial⟩ (fun j H' _ ⟨s, _⟩ => SqL.of (s _ _ ha)) ?_ ?_
    · rintro j v H' hv ⟨s, ts, hFl, hT⟩
      obtain ⟨la, hla, rfl⟩ := rV_get hv
      obtain ⟨l, hl, hll⟩ := hA.get' hla
      have hm := List.mem_of_getElem? hl
      have sH := s1.trans s
      obtain ⟨dm', p', pl', wn', g1, _⟩ := id (hM.same sH)
      refine ⟨rfl, ?_⟩
      refine ⟨_, rfl, _, _, _, rfl, g1, fs_msr_no_is_enough, _, rfl, m, la, P0, c, w0, l, rfl, hM.same sH, hG, hW, s _ _ hll, hch.ln l hm, Nat.le_trans (hch.sz l hm) (by decide), fun H3 s3 => ⟨_, rfl, ?_⟩⟩
      have tk : ((chL P0 i).take (j + 1)).filter (enoughB P0 c w0) = ((chL P0 i).take j).filter (enoughB P0 c w0) ++ (if enoughB P0 c w0 l = true then [l] else []) := by
        rw [take_more hl, List.filter_append]
        by_cases z : enoughB P0 c w0 l = true
        · simp [z]
        · simp [z]
      refine if_b (fun z => ?_) (fun z => ?_)
      · refine ⟨_, rfl, rV ts, s3 _ _ hFl, ?_, ?_⟩
        · rw [rV_length, hT.len]
          have h1 := hch.len
          have h2 : (((chL P0 i).take j).filter (enoughB P0 c w0)).length ≤ ((chL P0 i).take j).length := List.length_filter_le _ _
          rw [List.length_take] at h2
          exact Nat.lt_of_le_of_lt (show _ ≤ 20000 by omega) (by decide)
        · refine ⟨(s.trans s3).put hF _, ts ++ [la], ?_, ?_⟩
          · rw [upd_same]; exact congrArg (fun l => some (HO.lst l)) (rV_app ts [la])
          · rw [tk, if_pos z]
            exact AllAt.app hT (AllAt.one hll)
      · refine ⟨s.trans s3, ts, s3 _ _ hFl, ?_⟩
        rw [tk, if_neg (by rw [z]; decide), List.append_nil]
        exact hT
    · rintro H' ⟨s, ts, hFl, hT⟩
      rw [rV_length, hA.len, List.take_length] at hT
      have hfound : ((chL P0 i).filter (enoughB P0 c w0)) = foundL P0 c w0 i := rfl
      rw [hfound] at hT
      refine ⟨_, rfl, _, _, rfl, .inl (SqL.of hFl), _, _, rfl, rfl, _, rfl, ?_⟩
      rw [rV_length, hT.len]
      by_cases z : foundL P0 c w0 i = []
      · refine if_f (by rw [z]; decide) ?_
        have hlt : i < P0.length := by
          rcases Nat.lt_or_ge i P0.length with h | h
          · exact h
          · exfalso
            have e : P0.length - i = 0 := by omega
            rw [e] at hgo
            exact hne (by rw [← hgo]; exact z)
        have hgo2 : leastGo P0 c w0 (P0.length - (i + 1)) (i + 1) = leastL P0 c w0 := by
          rw [← hgo]
          obtain ⟨f, hf⟩ : ∃ f, P0.length - i = f + 1 := ⟨P0.length - i - 1, by omega⟩
          rw [hf, show P0.length - (i + 1) = f by omega]
          show _ = if (foundL P0 c w0 i).isEmpty = true then _ else _
          rw [z]
          rfl
        have sH := s1.trans s
        obtain ⟨dm', p', pl', wn', g1, g2, _⟩ := id (hM.same sH)
        refine ⟨_, rfl, _, _, _, _, _, rfl, g1, T.cl_msr, T.n_msr_program, fs_msr_program, _, rfl, p', a, P0, chL P0 i, rfl, g2, ⟨rs, s _ _ ha, hA.mono fun b l e => s _ _ e⟩, hch, by omega, (hCh (i + 1)).len, fun H3 q s3 hN => ?_⟩
        exact ⟨q, _, _, _, rfl, sH.trans s3, hN, hlt, hgo2⟩
      · have lp : 0 < (foundL P0 c w0 i).length := List.length_pos_iff.mpr z
        refine if_t (decide_eq_true (by omega)) ⟨_, rfl, ?_⟩
        refine k H' F (s1.trans s) ⟨ts, hFl, ?_⟩
        have e : leastL P0 c w0 = foundL P0 c w0 i := by
          rw [← hgo]
          cases P0.length - i with
          | zero => rfl
          | succ f =>
            show (if (foundL P0 c w0 i).isEmpty = true then _ else _) = _
            rw [if_neg (by rw [List.isEmpty_iff]; exact z)]
        rw [e]
        exact hT.mono fun b l e => s _ _ e
  · rintro σ H' ⟨a, v2, v3, v4, rfl, s1, hN, hle, hgo⟩
    omega
abbrev s_joined_lines : Stmt := top 53
theorem sc_joined_lines : FnScope ["program", "givens", "places", "got", "place", "line"] ["program", "givens", "places"] (defScope s_joined_lines) := ⟨rfl, rfl, rfl, by decide +kernel, rfl, by decide +kernel, by decide +kernel⟩
theorem ok_joined_lines (T : Txt K mg C) : OkF P w K mg base 30 "joined_lines" ["program", "givens", "places"] (spJoined C) := by
  have h_Measure_init := ok_Measure_init (P := P) (w := w) (base := base) T
  have h_Program_many := ok_Program_many (P := P) (w := w) (base := base) T
  have h_all_least := ok_all_least (P := P) (w := w) (base := base) T
  obtain ⟨f, fd, hm, F, b⟩ := T.f_joined_lines
  refine ⟨f, fd, hm, F.kp, b, F.ok sc_joined_lines (fun vs H Q E h => ?_) (fun cdv A outer s H vs Q E hr h => ?_)⟩
  · obtain ⟨p, g, pa, P, c, w, rfl, _⟩ := h
    rfl
  refine ⟨_, (pss_cons (ps_set (i := 3) sc_joined_lines.nd rfl (Or.inr rfl) (pe_lst pa_nil))
        (pss_cons (ps_for PassesOwn.never rfl (pi_list (pv 2)) (pg_name (i := 4) sc_joined_lines.nd rfl (Or.inl rfl)) (pss_one (ps_expr (pe_bm PySem.F.plainAttrs_list PySem.F.slot_list_extend PySem.F.type_list_extend mt_extend (pv 3) (pa_cons (pe_ix ix_list (pe_cf h_all_least (hr.mono (by decide)) (by rfl) (pa_cons (pe_mk h_Measure_init (hr.mono (by decide)) (by rfl) T.g_Measure (pa_cons (pv 0) (pa_cons (pv 1) (pa_cons (pe_lst (pa_cons (pv 4) pa_nil)) pa_nil)))) pa_nil)) pe_int (fun _ _ => rfl)) pa_nil)))))
        (pss_one (ps_ret (pe_lc (own := [("line", 5)]) (g := gName 5) rfl sc_joined_lines.nd (pi_range1 (by rfl) T.range (pa_cons (pe_cm0 (pv 0) T.cl_prg h_Program_many (hr.mono (by decide))) pa_nil)) (blkOk_by (own := [("line", 5)]) (N := ["program", "givens", "places", "got", "place", "line"]) (sc := defScope s_joined_lines) (by decide +kernel)) (fun _ _ _ _ _ => pg_name (i := 5) sc_joined_lines.nd rfl (Or.inl rfl)) (fun _ _ _ _ _ => (pts_one (pt_cmpR (op_in_seqK (K := K) rfl) (pv 5) (pv 3) (by rfl)))) (fun _ _ _ _ _ => (pv 5))))))), ?_⟩
  obtain ⟨p, g, pa, P0, c, w0, rfl, hP, hG, hg, hpa, hW, hCh, hne, k⟩ := h
  have pl14 := hG.len
  have pl3 := hW.pl
  let fst := fun q : Nat => (leastL P0 c { w0 with places := [q] }).headD []
  have fin : ∀ q ∈ w0.places, ∃ k, fst q ∈ chL P0 k := fun q hq => by
    have hn := hne q hq
    have sub : ∀ (f k : Nat), ∀ l ∈ leastGo P0 c { w0 with places := [q] } f k, ∃ k, l ∈ chL P0 k := by
      intro f
      induction f with
      | zero => intro k l hl; exact ⟨k, (List.mem_filter.mp hl).1⟩
      | succ f ih =>
        intro k l hl
        have e : leastGo P0 c { w0 with places := [q] } (f + 1) k = if (foundL P0 c { w0 with places := [q] } k).isEmpty = true then leastGo P0 c { w0 with places := [q] } f (k + 1) else foundL P0 c { w0 with places := [q] } k := rfl
        rw [e] at hl
        split at hl
        · exact ih _ l hl
        · exact ⟨k, (List.mem_filter.mp hl).1⟩
    refine sub P0.length 0 _ ?_
    show (leastL P0 c { w0 with places := [q] }).headD [] ∈ leastL P0 c { w0 with places := [q] }
    cases e : leastL P0 c { w0 with places := [q] } with
    | nil => exact absurd e hn
    | cons a r => simp
  have flen : ∀ i, ((w0.places.take i).flatMap fst).length ≤ 100 * i := by
    have : ∀ l : List Nat, (∀ q ∈ l, q ∈ w0.places) → (l.flatMap fst).length ≤ 100 * l.length := by
      intro l
      induction l with
      | nil => intro _; simp
      | cons a r ih =>
        intro h
        have h1 := ih fun q hq => h q (List.mem_cons_of_mem _ hq)
        obtain ⟨k, hk⟩ := fin a (h a (by simp))
        have h2 := (hCh k).sz _ hk
        rw [List.flatMap_cons, List.length_append, List.length_cons]
        omega
    intro i
    refine Nat.le_trans (this _ fun q hq => List.mem_of_mem_take hq) ?_
    rw [List.length_take]
    omega
  refine ⟨(by show 0 ≤ sizeLine; decide), fun D hD => ?_⟩
  have s0 := Same.new hD (.lst [])
  refine ⟨_, rfl, pa, rfl, ⟨_, SqL.of (s0 _ _ hpa)⟩, for_list (K := K) (a := pa) (xs := nV w0.places) (fun i σ H' => ∃ v4 v5, σ = [some (.ref p), some (.ref g), some (.ref pa), some (.ref D), v4, v5] ∧ Same H H' ∧ H' D = some (.lst (nV ((w0.places.take i).flatMap fst))))
    ⟨none, none, rfl, s0, upd_same⟩ (fun i σ H' _ ⟨_, _, _, s1, _⟩ => SqL.of (s1 _ _ hpa)) ?_ ?_⟩
  · rintro i y σ H' hy ⟨v4, v5, rfl, s1, hDl⟩
    obtain ⟨q, hq, rfl⟩ := nV_get hy
    have hqm := List.mem_of_getElem? hq
    have hilt : i < 3 := Nat.lt_of_lt_of_le (List.getElem?_eq_some_iff.mp hq).1 pl3
    refine ⟨_, rfl, .inl ⟨rfl, _, SqL.of hDl⟩, _, rfl, _, rfl, _, rfl, (by show 1 ≤ sizeLine; decide), fun E hE => ?_⟩
    have s2 := s1.trans (Same.new hE (.lst [.int (q : Int)]))
    refine fun m dx nm nd ne => ?_
    refine ⟨m, dx, p, g, E, upd H' E (.lst [.int (q : Int)]), P0, c, { w0 with places := [q] }, rfl, upd_same, (Same.new nd (.own m)).trans (Same.new (by rw [upd_ne ne.symm]; exact nm) _), nm, hP.same s2, hG, hg.same s2, upd_same, ⟨hW.inp, hW.len, by simp⟩, fun H2 s3 hM => ⟨rfl, ?_⟩⟩
    refine ⟨m, P0, c, { w0 with places := [q] }, rfl, hM, hG, ⟨hW.inp, hW.len, by simp⟩, hCh, hne q hqm, fun H3 z s4 hN => ?_⟩
    obtain ⟨rs, hz1, hz2⟩ := id hN
    obtain ⟨l0, r0, hl0⟩ : ∃ l r, leastL P0 c { w0 with places := [q] } = l :: r := by
      cases e : leastL P0 c { w0 with places := [q] } with
      | nil => exact absurd e (hne q hqm)
      | cons a r => exact ⟨a, r, rfl⟩
    have hf : fst q = l0 := by show (leastL P0 c { w0 with places := [q] }).headD [] = l0; rw [hl0]; rfl
    have g0 : (leastL P0 c { w0 with places := [q] })[0]? = some l0 := by rw [hl0]; rfl
    obtain ⟨fa, hfa, hfl⟩ := hz2.get g0
    have hD2 := (s3.trans s4) _ _ (Same.new hE _ _ _ hDl)
    have step : (w0.places.take (i + 1)).flatMap fst = (w0.places.take i).flatMap fst ++ fst q := by
      rw [take_more hq, List.flatMap_append]
      simp
    have l1 := flen (i + 1)
    rw [step, List.length_append, hf] at l1
    refine ⟨_, _, _, _, rfl, rfl, SqL.of hz1, atI_n (i := 0) (rV_at hfa), _, _, _, _, rfl, rfl, hD2, hfl, ?_, ?_⟩
    · rw [nV_length, nV_length]
      exact Nat.le_trans (show _ ≤ 300 by omega) (by decide)
    · refine ⟨_, _, rfl, ((s2.trans s3).trans s4).put hD _, ?_⟩
      rw [upd_same, step, hf]
      unfold nV
      rw [List.map_append]
  · rintro σ H' ⟨v4, v5, rfl, s1, hDl⟩
    rw [nV_length, List.take_length] at hDl
    obtain ⟨dx, ps, ppa, psi, pas, p1, p2, p3, p4, p5⟩ := id (hP.same s1)
    dsimp only [tRet, List.map]
    refine lc_rg (n := P0.length) (fun n => V.int (n : Int)) (fun n => (w0.places.flatMap fst).contains n) (fun Q' q => ⟨_, rfl, _, _, _, rfl, p1, fs_prg_no_many, p, dx, ps, _, _, rV pas, rfl, p1, p2, by rw [rV_length, p5.len]; exact q⟩) (Nat.le_trans (show _ ≤ 14 by omega) (by decide)) (fun v => rfl)
      (fun n hn H2 s2 => fun Q q => ?_) (fun n hn _ H2 s2 => val_var rfl) fun F hF => ?_
    · refine ⟨_, rfl, _, rfl, D, _, rfl, .inl (SqL.of (s2 _ _ hDl)), rfl, flat_nV _, _, rfl, ?_⟩
      rw [inV_nV]
      show Q ((w0.places.flatMap fst).any fun y : Nat => decide ((y : Int) = (n : Int))) H2
      rw [mem_nat]
      exact q
    · have e : ((List.range P0.length).filter fun n => (w0.places.flatMap fst).contains n).map (fun n : Nat => V.int (n : Int)) = nV (joinedL P0 c w0) := by
        show nV _ = nV _
        congr 1
        unfold joinedL
        refine List.filter_congr fun n _ => ?_
        rw [Bool.eq_iff_iff, List.contains_iff_mem, List.mem_flatMap, List.any_eq_true]
        exact ⟨fun ⟨q, h1, h2⟩ => ⟨q, h1, List.contains_iff_mem.mpr h2⟩, fun ⟨q, h1, h2⟩ => ⟨q, h1, List.contains_iff_mem.mp h2⟩⟩
      rw [e]
      exact k _ F (s1.trans (Same.new hF _)) upd_same
end
end Ld
end
section
set_option Elab.async false
set_option maxRecDepth 100000
set_option maxHeartbeats 4000000
namespace Ld
open PySem PySem.Spec PyProof.Rows L2 RT
open Vaslca (Text ascii decimal)
def mStep (l : List VStep) (m : Nat → Bool) (a : Nat) : Nat → Bool := fun i => m i || (m a && (((l[a]?).map srcs).getD []).contains i)
def marksL (l : List VStep) (k : Nat) : Nat → Nat → Bool
  | 0 => fun i => i == k
  | b + 1 => mStep l (marksL l k b) (k - b)
def behindL (l : List VStep) (k : Nat) : List Nat := (List.range (k + 1)).filter (marksL l k (k + 1))
def mV (n : Nat) (m : Nat → Bool) : List V := (List.range n).map fun i => V.bl (m i)
theorem mV_length (n : Nat) (m : Nat → Bool) : (mV n m).length = n := by unfold mV; simp
theorem mV_get {n i : Nat} (m : Nat → Bool) (h : i < n) : (mV n m)[i]? = some (.bl (m i)) := by
  unfold mV
  rw [List.getElem?_map, List.getElem?_range h]
  rfl
theorem mV_set {n j : Nat} (m : Nat → Bool) : (mV n m).set j (.bl true) = mV n fun i => m i || i == j := by
  apply List.ext_getElem?
  intro i
  rw [List.getElem?_set]
  by_cases hi : i < n
  · rw [mV_get _ hi]
    by_cases e : j = i
    · subst e
      rw [if_pos rfl, if_pos (by rw [mV_length]; exact hi), mV_get _ hi]
      refine congrArg (fun b => some (V.bl b)) ?_
      show true = (m j || (j == j))
      rw [beq_self_eq_true, Bool.or_true]
    · rw [if_neg e, mV_get _ hi]
      have : (i == j) = false := by simpa using fun h => e h.symm
      rw [this, Bool.or_false]
  · have h1 : ∀ m', (mV n m')[i]? = none := fun m' => List.getElem?_eq_none (by rw [mV_length]; omega)
    rw [h1, h1]
    split
    · split
      · rename_i h2 h3
        rw [mV_length] at h3
        omega
      · rfl
    · rfl
theorem mV_congr {n : Nat} {m m' : Nat → Bool} (h : ∀ i, m i = m' i) : mV n m = mV n m' := by rw [show m = m' from funext h]
theorem ix_nat {n j : Nat} (hj : j < n) : ixN n (j : Int) = some j := by
  unfold ixN
  rw [if_pos (by omega), if_pos (by omega), Int.toNat_natCast]
def spBehind : Sp := fun vs H Q _ => ∃ (a : Addr) (k : Nat) (ts : List Addr) (l : List VStep), vs = [.ref a, .int (k : Int)] ∧ H a = some (.lst (rV ts)) ∧ AllAt (StepAt H) ts l ∧ (∀ (i : Nat) (s : VStep), l[i]? = some s → ∀ k ∈ srcs s, k < i) ∧ k < l.length ∧ l.length ≤ 120 ∧
  ∀ H' q, Same H H' → H' q = some (.lst (nV (behindL l k))) → Q (.ref q) H'
def spWords (C : Cs) : Sp := fun vs H Q _ => ∃ (p a f : Addr) (P : List PL) (n v : Nat) (x : PL), vs = [.ref p, .ref a] ∧ PrgAt C H p P ∧ P[n]? = some x ∧ x.head.text.length ≤ 1000 ∧ v ≤ 999 ∧ H a = some (.tup [.int (n : Int), .int (v : Int), .ref f]) ∧
  ∀ H' q, Same H H' → LB H' q (x.head.text ++ (ascii " gives " ++ decimal v)) → Q (.ref q) H'
theorem dec_codes : ∀ v : Fin 1000, (Str.ofString (toString ((v.val : Nat) : Int))).cps.toList = (decimal v.val).map UInt8.toNat ∧ (Str.ofString (toString ((v.val : Nat) : Int))).cps.size ≤ 1000 ∧ (decimal v.val).length ≤ 3 := by decide +kernel
theorem gives_codes : (Str.ofString " gives ").cps.toList = (ascii " gives ").map UInt8.toNat := by decide +kernel
theorem nV_codes (t : Text) : nV (t.map UInt8.toNat) = bV t := by unfold nV bV; rw [List.map_map]; rfl
section
variable {P : Program} {w : World} {K : PySem.W.Frag} {mg : Str → Option Value} {base : Heap} {C : Cs}
abbrev s_steps_behind : Stmt := top 55
theorem sc_steps_behind : FnScope ["steps", "number", "marks", "back", "at", "source"] ["steps", "number"] (defScope s_steps_behind) := ⟨rfl, rfl, rfl, by decide +kernel, rfl, by decide +kernel, by decide +kernel⟩
theorem ok_steps_behind (T : Txt K mg C) : OkF P w K mg base 1 "steps_behind" ["steps", "number"] (spBehind) := by
  obtain ⟨f, fd, hm, F, b⟩ := T.f_steps_behind
  refine ⟨f, fd, hm, F.kp, b, F.ok sc_steps_behind (fun vs H Q E h => ?_) (fun cdv A outer s H vs Q E hr h => ?_)⟩
  · obtain ⟨a, k, ts, l, rfl, _⟩ := h
    rfl
  refine ⟨_, (pss_cons (ps_set (i := 2) sc_steps_behind.nd rfl (Or.inr rfl) (pe_lc (own := [("at", 4)]) (g := gName 4) rfl sc_steps_behind.nd (pi_range1 (by rfl) T.range (pa_cons (pe_op op_add (pv 1) pe_int) pa_nil)) (blkOk_by (own := [("at", 4)]) (N := ["steps", "number", "marks", "back", "at", "source"]) (sc := defScope s_steps_behind) (by decide +kernel)) (fun _ _ _ _ _ => pg_name (i := 4) sc_steps_behind.nd rfl (Or.inl rfl)) (fun _ _ _ _ _ => pts_nil) (fun _ _ _ _ _ => (pe_cmpR op_eq (pv 4) (pv 1) (nomark _)))))
        (pss_cons (ps_for PassesOwn.never rfl (pi_range1 (by rfl) T.range (pa_cons (pe_op op_add (pv 1) pe_int) pa_nil)) (pg_name (i := 3) sc_steps_behind.nd rfl (Or.inl rfl)) (pss_cons (ps_set (i := 4) sc_steps_behind.nd rfl (Or.inl rfl) (pe_op op_sub (pv 1) (pv 3)))
        (pss_one (ps_if (pt_val (pe_ix ix_list (pv 2) (pv 4) (fun _ _ => rfl))) (pss_one (ps_for PassesOwn.never rfl (pi_list (pe_ix ix_tup (pe_ix ix_list (pv 0) (pv 4) (fun _ _ => rfl)) pe_int (fun _ _ => rfl))) (pg_name (i := 5) sc_steps_behind.nd rfl (Or.inl rfl)) (pss_one (ps_asg pe_bl (pg_sub (pv 2) (pv 5) set_list))))) pss_nil))))
        (pss_one (ps_ret (pe_lc (own := [("at", 4)]) (g := gName 4) rfl sc_steps_behind.nd (pi_range1 (by rfl) T.range (pa_cons (pe_op op_add (pv 1) pe_int) pa_nil)) (blkOk_by (own := [("at", 4)]) (N := ["steps", "number", "marks", "back", "at", "source"]) (sc := defScope s_steps_behind) (by decide +kernel)) (fun _ _ _ _ _ => pg_name (i := 4) sc_steps_behind.nd rfl (Or.inl rfl)) (fun _ _ _ _ _ => (pts_one (pt_val (pe_ix (ix_listK (K := K) rfl) (pv 2) (pv 4) (fun _ _ => rfl))))) (fun _ _ _ _ _ => (pv 4))))))), ?_⟩
  obtain ⟨a, n, ts, l, rfl, ha, hts, hsrc, hn, hl, k⟩ := h
  refine sq_asg ?_
  have ta : ∀ (σ : L2.St) (H1 : Hp), σ[1]? = some (some (V.int (n : Int))) → ∀ Q' : List V → Hp → Prop, Q' [.int ((n + 1 : Nat) : Int)] H1 → tCons (tOp (rI0 fun i j => V.int (i + j)) (tVar 1) (tC (.int 1))) tNil σ H1 Q' := fun σ H1 h Q' q => ⟨_, h, _, _, rfl, rfl, q⟩
  refine lc_rg (n := n + 1) (fun i => V.bl (i == n)) (fun _ => true) (fun Q' q => ta _ _ rfl Q' q) (Nat.le_trans (show _ ≤ 121 by omega) (by decide)) (fun v => rfl)
    (fun n hn H' s2 => fun Q q => q) (fun i hi _ H' s2 => fun Q q => ⟨_, rfl, _, rfl, rfl, (by
      have e : decide (V.int (i : Int) = V.int (n : Int)) = (i == n) := by
        rw [dec_int]
        by_cases z : i = n
        · subst z; simp
        · have h1 : ((i : Int) == (n : Int)) = false := by simp; omega
          have h2 : (i == n) = false := by simpa using z
          rw [h1, h2]
      rw [e]
      exact q)⟩) fun D hD => ?_
  have e0 : ((List.range (n + 1)).filter fun _ => true).map (fun i => V.bl (i == n)) = mV (n + 1) (marksL l n 0) := by
    rw [List.filter_eq_self.mpr (fun _ _ => rfl)]
    rfl
  rw [e0]
  have s0 := Same.new hD (.lst (mV (n + 1) (marksL l n 0)))
  refine ⟨_, rfl, _, _, rfl, rfl, _, rfl, by omega, by omega, ?_⟩
  have en : ((n : Int) + 1).toNat = n + 1 := by omega
  rw [en]
  refine for_range (lo := 0) (n := n + 1) (fun b σ H' => ∃ v3 v4 v5, σ = [some (.ref a), some (.int (n : Int)), some (.ref D), v3, v4, v5] ∧ Same H H' ∧ H' D = some (.lst (mV (n + 1) (marksL l n b))))
    ⟨_, _, _, rfl, s0, upd_same⟩ ?_ ?_
  · rintro b σ H' hb ⟨v3, v4, v5, rfl, s1, hDl⟩
    refine ⟨_, rfl, _, rfl, _, _, rfl, rfl, ?_⟩
    have eat : (n : Int) - (0 + (b : Int)) = ((n - b : Nat) : Int) := by omega
    obtain ⟨s, hs⟩ : ∃ s, l[n - b]? = some s := ⟨_, List.getElem?_eq_getElem (by omega)⟩
    obtain ⟨ta', hta, f, fs, g1, g2, g3⟩ := hts.get hs
    dsimp only
    rw [eat]
    refine ⟨_, rfl, _, rfl, _, _, _, _, rfl, rfl, SqL.of hDl, atI_n (mV_get _ (show n - b < n + 1 by omega)), _, rfl, ?_⟩
    have mem : ∀ i, (((l[n - b]?).map srcs).getD []).contains i = fs.contains i := fun i => by
      rw [hs]
      show (srcs s).contains i = _
      rw [Bool.eq_iff_iff, List.contains_iff_mem, List.contains_iff_mem]
      exact (g3 i).symm
    cases hm : marksL l n b (n - b) with
    | false =>
      refine if_f rfl ⟨_, _, _, rfl, s1, ?_⟩
      rw [hDl]
      refine congrArg (fun x => some (HO.lst x)) (mV_congr fun i => ?_)
      show _ = (marksL l n b i || (marksL l n b (n - b) && _))
      rw [hm, Bool.false_and, Bool.or_false]
    | true =>
      refine if_t rfl ?_
      refine ⟨_, rfl, _, rfl, _, _, _, _, rfl, rfl, SqL.of (s1 _ _ ha), atI_n (rV_at hta), _, _, _, _, rfl, rfl, SqT.of (s1 _ _ g1), atI_n (i := 2) rfl, f, rfl, ⟨_, SqL.of (s1 _ _ g2)⟩, ?_⟩
      refine for_list (K := K) (a := f) (xs := nV fs) (fun t σ H2 => ∃ v5, σ = [some (.ref a), some (.int (n : Int)), some (.ref D), some (.int (0 + (b : Int))), some (.int ((n - b : Nat) : Int)), v5] ∧ Same H H2 ∧ H2 D = some (.lst (mV (n + 1) fun i => marksL l n b i || (fs.take t).contains i)))
        ⟨_, rfl, s1, ?_⟩ (fun t σ H2 _ ⟨_, _, s2, _⟩ => SqL.of (s2 _ _ g2)) ?_ ?_
      · rw [hDl]
        exact congrArg (fun x => some (HO.lst x)) (mV_congr fun i => by simp)
      · rintro t y σ H2 hy ⟨w5, rfl, s2, hD2⟩
        obtain ⟨q, hq, rfl⟩ := nV_get hy
        have hqs : q ∈ srcs s := (g3 q).mp (List.mem_of_getElem? hq)
        have hlt := hsrc _ _ hs q hqs
        refine ⟨_, rfl, _, rfl, D, _, _, q, rfl, rfl, hD2, by rw [mV_length]; exact ix_nat (show q < n + 1 by omega), ?_⟩
        refine ⟨_, rfl, s2.put hD _, ?_⟩
        rw [upd_same, mV_set]
        refine congrArg (fun x => some (HO.lst x)) (mV_congr fun i => ?_)
        rw [take_more hq, List.contains_eq_mem, List.contains_eq_mem]
        simp only [List.mem_append, List.mem_singleton]
        by_cases h1 : i ∈ List.take t fs <;> by_cases h2 : i = q <;> simp [h1, h2]
      · rintro σ H2 ⟨w5, rfl, s2, hD2⟩
        rw [nV_length, List.take_length] at hD2
        refine ⟨_, _, _, rfl, s2, ?_⟩
        rw [hD2]
        refine congrArg (fun x => some (HO.lst x)) (mV_congr fun i => ?_)
        show _ = (marksL l n b i || (marksL l n b (n - b) && _))
        rw [hm, Bool.true_and, mem]
  · rintro σ H' ⟨v3, v4, v5, rfl, s1, hDl⟩
    dsimp only [tRet, List.map]
    refine lc_rg (n := n + 1) (fun i => V.int (i : Int)) (marksL l n (n + 1)) (fun Q' q => ta _ _ rfl Q' q) (Nat.le_trans (show _ ≤ 121 by omega) (by decide)) (fun v => rfl)
      (fun i hi H2 s2 => fun Q q => ⟨_, rfl, _, rfl, _, _, _, _, rfl, rfl, SqL.of (s2 _ _ hDl), atI_n (mV_get _ hi), _, rfl, q⟩) (fun n hn _ H2 s2 => val_var rfl) fun F hF => ?_
    exact k _ F (s1.trans (Same.new hF _)) upd_same
abbrev s_in_words : Stmt := top 56
theorem sc_in_words : FnScope ["program", "step"] ["program", "step"] (defScope s_in_words) := ⟨rfl, rfl, rfl, by decide +kernel, rfl, by decide +kernel, by decide +kernel⟩
theorem ok_in_words (T : Txt K mg C) : OkF P w K mg base 2 "in_words" ["program", "step"] (spWords C) := by
  have h_codes := ok_codes (P := P) (w := w) (base := base) T
  obtain ⟨f, fd, hm, F, b⟩ := T.f_in_words
  refine ⟨f, fd, hm, F.kp, b, F.ok sc_in_words (fun vs H Q E h => ?_) (fun cdv A outer s H vs Q E hr h => ?_)⟩
  · obtain ⟨p, a, f, P, n, v, x, rfl, _⟩ := h
    rfl
  refine ⟨_, (pss_one (ps_ret (pe_op op_cat (pe_op op_cat (pe_fld (pe_ix ix_list (pe_fld (pv 0) rfl) (pe_ix ix_tup (pv 1) pe_int (fun _ _ => rfl)) (fun _ _ => rfl)) rfl) (pe_cf h_codes (hr.mono (by decide)) (by rfl) (pa_cons pe_str pa_nil))) (pe_cf h_codes (hr.mono (by decide)) (by rfl) (pa_cons (pe_callTy call_str_int (by rfl) T.str (by decide +kernel) (pa_cons (pe_ix ix_tup (pv 1) pe_int (fun _ _ => rfl)) pa_nil)) pa_nil))))), ?_⟩
  obtain ⟨p, a, f, P0, n, v, x, rfl, hP, hx, hz, hv, ha, k⟩ := h
  obtain ⟨dx, s', pa, si, as, hp, h1, h2, h3, h4⟩ := id hP
  obtain ⟨la, hla, ⟨dxs, wr, nm, at', as2, g1, g2, _⟩, _⟩ := h4.get hx
  obtain ⟨c1, c2, c3⟩ := dec_codes ⟨v, by omega⟩
  dsimp only at c1 c2 c3
  refine ⟨_, rfl, _, _, _, _, _, rfl, hp, T.cl_prg, T.n_prg_statements, fs_prg_statements, _, rfl, _, _, _, _, rfl, rfl, SqT.of ha, atI_n (i := 0) rfl, _, _, _, _, rfl, rfl, SqL.of h1, atI_n (rV_at hla), _, _, _, _, _, rfl, g1, T.cl_stm, T.n_stm_written, fs_stm_written, ?_⟩
  refine ⟨_, rfl, by decide +kernel, fun D hD => ?_⟩
  have s1 := Same.new hD (.lst (nV (Str.ofString " gives ").cps.toList))
  refine ⟨_, _, _, _, rfl, rfl, s1 _ _ g2, upd_same, ?_, fun E hE => ?_⟩
  · rw [nV_length, gives_codes, List.length_map, bV_length]
    exact Nat.le_trans (show _ ≤ 1000 + 7 from Nat.add_le_add hz (by decide)) (by decide)
  have s2 := s1.trans (Same.new hE (.lst (bV x.head.text ++ nV (Str.ofString " gives ").cps.toList)))
  refine ⟨_, rfl, _, _, _, _, rfl, rfl, SqT.of (s2 _ _ ha), atI_n (i := 1) rfl, _, rfl, ?_, _, rfl, c2, fun F hF => ?_⟩
  · exact Nat.lt_of_le_of_lt (Nat.log2_le_self _) (by rw [Int.natAbs_natCast]; omega)
  have s3 := s2.trans (Same.new hF (.lst (nV (Str.ofString (toString (v : Int))).cps.toList)))
  refine ⟨_, _, _, _, rfl, rfl, Same.new hF _ _ _ upd_same, upd_same, ?_, fun G hG => ?_⟩
  · rw [c1, gives_codes, nV_codes, nV_codes, List.length_append, bV_length, bV_length, bV_length]
    exact Nat.le_trans (show _ ≤ 1000 + 7 + 3 from Nat.add_le_add (Nat.add_le_add hz (by decide)) c3) (by decide)
  refine k _ G (s3.trans (Same.new hG _)) ?_
  unfold LB
  rw [upd_same, c1, gives_codes, nV_codes, nV_codes]
  unfold bV
  rw [List.map_append, List.map_append, List.append_assoc]
end
end Ld
end
section
set_option Elab.async false
set_option maxRecDepth 100000
set_option maxHeartbeats 4000000
namespace Ld
open PySem PySem.Spec PyProof.Rows L2 RT
open Vaslca (Text ascii decimal runOf)
open Vaslcf (Wish)
theorem val_ch {f g : Int → Int → Bool} {ta tb tc : TE} {σ : L2.St} {H : Hp} {x y z : Int} (ha : Val ta σ H (.int x)) (hb : Val tb σ H (.int y)) (hc : Val tc σ H (.int z)) : Val (tChain (rI0 fun i j => .bl (f i j)) (rI0 fun i j => .bl (g i j)) ta tb tc) σ H (.bl (f x y && g y z)) := by
  intro Q q
  refine ha _ (hb _ ⟨x, y, rfl, rfl, f x y, rfl, ?_⟩)
  cases h : f x y with
  | false =>
    rw [h, Bool.false_and] at q
    exact q
  | true =>
    rw [h, Bool.true_and] at q
    exact hc _ ⟨y, z, rfl, rfl, q⟩
def cntV (xs : List V) : List V := .int (xs.length : Int) :: xs
theorem cntV_nat (l : List Nat) : cntV (nV l) = nV (l.length :: l) := by unfold cntV nV; rw [List.length_map]; rfl
theorem cntV_bytes (t : Text) : cntV (bV t) = nV (t.length :: t.map UInt8.toNat) := by
  unfold cntV bV nV
  rw [List.length_map, List.map_cons, List.map_map]
  rfl
def okVal (n : Int) : Bool := decide (0 ≤ n) && decide (n ≤ 999)
def risingB : Int → Int → List Int → Bool
  | _, _, [] => true
  | last, many, n :: r => (decide (last < n) && decide (n < many)) && risingB n many r
def spCounted : Sp := fun vs H Q _ => ∃ (a : Addr) (xs : List V), vs = [.ref a] ∧ H a = some (.lst xs) ∧ xs.length ≤ 10000000 ∧ ∀ D H', Same H H' → H' D = some (.lst (cntV xs)) → Q (.ref D) H'
def spAllVals : Sp := fun vs H Q _ => ∃ (a : Addr) (xs : List Int), vs = [.ref a] ∧ H a = some (.lst (iV xs)) ∧ Q (.bl (xs.all okVal)) H
def spRising : Sp := fun vs H Q _ => ∃ (a : Addr) (many : Nat) (xs : List Int), vs = [.ref a, .int (many : Int)] ∧ H a = some (.lst (iV xs)) ∧ Q (.bl (risingB (-1) many xs)) H
/-- what is seen beside the desk itself and the cells that are to be avoided -/
noncomputable def dh (G : Addr → Prop) (d : Addr) (H : Hp) : Hp := hg (fun b => b = d ∨ G b) H
theorem dh_get {G : Addr → Prop} {d b : Addr} {H : Hp} {o : HO} (n : d ≠ b) (g : ¬ G b) (e : H b = some o) : dh G d H b = some o := by
  unfold dh
  rw [hg_get (fun z => z.elim (fun y => n y.symm) g)]
  exact e
structure DeskAt (G : Addr → Prop) (C : Cs) (H : Hp) (d : Addr) (P : List PL) (w : Wish) : Prop where
  ex : ∃ dx p g pl, H d = some (.ins C.dsk dx (fs_dsk (.ref p) (.ref g) (.ref pl))) ∧ PrgAt C (dh G d H) p P ∧ NLs (dh G d H) g w.inputs ∧ dh G d H pl = some (.lst (nV w.places))
/-- the same with all parts seen -/
structure DeskSee (C : Cs) (H : Hp) (d : Addr) (P : List PL) (w : Wish) : Prop where
  seen : ∃ dx p g pl, H d = some (.ins C.dsk dx (fs_dsk (.ref p) (.ref g) (.ref pl))) ∧ PrgAt C H p P ∧ NLs H g w.inputs ∧ H pl = some (.lst (nV w.places))
theorem DeskAt.same {G : Addr → Prop} {C : Cs} {H H' : Hp} (s : Same H H') {d : Addr} {P : List PL} {w : Wish} (h : DeskAt G C H d P w) : DeskAt G C H' d P w := by
  obtain ⟨dx, p, g, pl, h1, h2, h3, h4⟩ := h
  have s' : Same (dh G d H) (dh G d H') := hg_mono s
  exact ⟨dx, p, g, pl, s _ _ h1, h2.same s', h3.same s', s' _ _ h4⟩
theorem DeskAt.see {G : Addr → Prop} {C : Cs} {H : Hp} {d : Addr} {P : List PL} {w : Wish} (h : DeskAt G C H d P w) : DeskSee C H d P w := by
  obtain ⟨dx, p, g, pl, h1, h2, h3, h4⟩ := h
  have s' : Same (dh G d H) H := hg_same _ _
  exact ⟨dx, p, g, pl, h1, h2.same s', h3.same s', s' _ _ h4⟩
theorem DeskAt.seen {G : Addr → Prop} {C : Cs} {H : Hp} {d : Addr} {P : List PL} {w : Wish} (h : DeskAt G C H d P w) : ∃ dx p g pl, H d = some (.ins C.dsk dx (fs_dsk (.ref p) (.ref g) (.ref pl))) ∧ PrgAt C H p P ∧ NLs H g w.inputs ∧ H pl = some (.lst (nV w.places)) := h.see.seen
theorem hide_mono {H H' : Hp} (s : Same H H') (S : List Addr) : Same (hide H S) (hide H' S) := fun b u e => by
  by_cases hb : b ∈ S
  · rw [hide_in hb] at e; cases e
  · rw [hide_out hb] at e
    rw [hide_out hb]
    exact s _ _ e
theorem hide_upd (H : Hp) (d : Addr) (o : HO) : hide (upd H d o) [d] = hide H [d] := by
  funext b
  by_cases hb : b ∈ [d]
  · rw [hide_in hb, hide_in hb]
  · rw [hide_out hb, hide_out hb, upd_ne (fun e => hb (by rw [e]; simp))]
def spDesk (C : Cs) : Sp := fun vs H Q _ => ∃ (d dx : Addr) (B : Hp), vs = [.ref d] ∧ H d = some (.ins C.dsk dx []) ∧ Same B H ∧ B d = none ∧ ∀ H', Same B H' → (∀ G : Addr → Prop, (∀ b, G b → B b ≠ none) → DeskAt G C H' d [] ⟨[], []⟩) → Q .non H'
def hasLine (P : List PL) (n : Int) : Bool := decide (0 ≤ n) && decide (n < (P.length : Int))
def hasGiven (w : Wish) (n : Int) : Bool := decide (0 ≤ n) && decide (n < (w.inputs.length : Int))
def spHasLine (C : Cs) : Sp := fun vs H Q _ => ∃ (d : Addr) (n : Int) (P : List PL) (w : Wish), vs = [.ref d, .int n] ∧ DeskSee C H d P w ∧ Q (.bl (hasLine P n)) H
def spHasGiven (C : Cs) : Sp := fun vs H Q _ => ∃ (d : Addr) (n : Int) (P : List PL) (w : Wish), vs = [.ref d, .int n] ∧ DeskSee C H d P w ∧ Q (.bl (hasGiven w n)) H
def spMeas (C : Cs) : Sp := fun vs H Q _ => ∃ (d : Addr) (P : List PL) (c : Vaslca.Code) (w : Wish), vs = [.ref d] ∧ DeskSee C H d P w ∧ Good P c ∧ WishOk P w ∧ ∀ H' m, Same H H' → MsrAt C H' m P c w → Q (.ref m) H'
theorem made_same' {H : Hp} {p dp : Addr} {o : HO} (np : H p = none) (nd : H dp = none) (ne : p ≠ dp) : Same H (upd (upd H dp (.own p)) p o) := (Same.new nd (.own p)).trans (Same.new (by rw [upd_ne ne]; exact np) _)
section
variable {P : Program} {w : World} {K : PySem.W.Frag} {mg : Str → Option Value} {base : Heap} {C : Cs}
abbrev s_counted : Stmt := top 62
theorem sc_counted : FnScope ["things"] ["things"] (defScope s_counted) := ⟨rfl, rfl, rfl, by decide +kernel, rfl, by decide +kernel, by decide +kernel⟩
theorem ok_counted (T : Txt K mg C) : OkF P w K mg base 1 "counted" ["things"] (spCounted) := by
  obtain ⟨f, fd, hm, F, b⟩ := T.f_counted
  refine ⟨f, fd, hm, F.kp, b, F.ok sc_counted (fun vs H Q E h => ?_) (fun cdv A outer s H vs Q E hr h => ?_)⟩
  · obtain ⟨a, xs, rfl, _⟩ := h
    rfl
  refine ⟨_, (pss_one (ps_ret (pe_op op_cat (pe_lst (pa_cons (pe_callB call_len_seq (by rfl) T.len PySem.boot_len (pa_cons (pv 0) pa_nil)) pa_nil)) (pv 0)))), ?_⟩
  obtain ⟨a, xs, rfl, ha, hz, k⟩ := h
  refine ⟨_, rfl, _, _, rfl, .inl (SqL.of ha), (by show 1 ≤ sizeLine; decide), fun D hD => ?_⟩
  refine ⟨_, rfl, _, _, _, _, rfl, rfl, upd_same, Same.new hD _ _ _ ha, ?_, fun E hE => ?_⟩
  · exact Nat.le_trans (show 1 + xs.length ≤ 10000001 by omega) (by decide)
  exact k E _ ((Same.new hD _).trans (Same.new hE _)) upd_same
abbrev s_all_values : Stmt := top 63
theorem sc_all_values : FnScope ["numbers", "number"] ["numbers"] (defScope s_all_values) := ⟨rfl, rfl, rfl, by decide +kernel, rfl, by decide +kernel, by decide +kernel⟩
theorem ok_all_values (T : Txt K mg C) : OkF P w K mg base 1 "all_values" ["numbers"] (spAllVals) := by
  obtain ⟨f, fd, hm, F, b⟩ := T.f_all_values
  refine ⟨f, fd, hm, F.kp, b, F.ok sc_all_values (fun vs H Q E h => ?_) (fun cdv A outer s H vs Q E hr h => ?_)⟩
  · obtain ⟨a, xs, rfl, _⟩ := h
    rfl
  refine ⟨_, (pss_cons (ps_for PassesOwn.never rfl (pi_list (pv 0)) (pg_name (i := 1) sc_all_values.nd rfl (Or.inl rfl)) (pss_one (ps_if (pt_not (pt_chain op_le op_le pe_int (pv 1) pe_int)) (pss_one (ps_ret pe_bl)) pss_nil)))
        (pss_one (ps_ret pe_bl))), ?_⟩
  obtain ⟨a, t, rfl, ha, k⟩ := h
  refine ⟨_, rfl, a, rfl, ⟨_, SqL.of ha⟩, for_list (K := K) (a := a) (xs := iV t) (fun i σ H' => ∃ v, σ = [some (.ref a), v] ∧ H' = H ∧ (t.take i).all okVal = true)
    ⟨none, rfl, rfl, rfl⟩ (fun i σ H' _ ⟨_, _, e, _⟩ => by rw [e]; exact SqL.of ha) ?_ ?_⟩
  · rintro i x σ H' hx ⟨v, rfl, rfl, hn⟩
    obtain ⟨c, hci, rfl⟩ : ∃ c, t[i]? = some c ∧ x = .int c := by
      unfold iV at hx
      rw [List.getElem?_map] at hx
      cases e : t[i]? with
      | none => rw [e] at hx; cases hx
      | some c => rw [e] at hx; exact ⟨c, rfl, (Option.some.inj hx).symm⟩
    have tk := take_more hci
    refine val_ch (val_c) (val_var rfl) (val_c) _ ⟨_, rfl, ?_⟩
    show (if (!okVal c) = true then _ else _)
    cases e : okVal c with
    | false =>
      refine if_t rfl ?_
      have : t.all okVal = false := by
        rw [List.all_eq_false]
        exact ⟨c, List.mem_of_getElem? hci, by rw [e]; decide⟩
      rw [this] at k
      exact k
    | true =>
      refine if_f rfl ?_
      exact ⟨_, rfl, rfl, by rw [tk, List.all_append, hn]; simp [e]⟩
  · rintro σ H' ⟨v, rfl, rfl, hn⟩
    have : (iV t).length = t.length := by unfold iV; simp
    rw [this, List.take_length] at hn
    rw [hn] at k
    exact k
abbrev s_rising_lines : Stmt := top 64
theorem sc_rising_lines : FnScope ["numbers", "many", "last", "number"] ["numbers", "many"] (defScope s_rising_lines) := ⟨rfl, rfl, rfl, by decide +kernel, rfl, by decide +kernel, by decide +kernel⟩
theorem ok_rising_lines (T : Txt K mg C) : OkF P w K mg base 1 "rising_lines" ["numbers", "many"] (spRising) := by
  obtain ⟨f, fd, hm, F, b⟩ := T.f_rising_lines
  refine ⟨f, fd, hm, F.kp, b, F.ok sc_rising_lines (fun vs H Q E h => ?_) (fun cdv A outer s H vs Q E hr h => ?_)⟩
  · obtain ⟨a, many, xs, rfl, _⟩ := h
    rfl
  refine ⟨_, (pss_cons (ps_set (i := 2) sc_rising_lines.nd rfl (Or.inl rfl) (pe_un un_neg pe_int))
        (pss_cons (ps_for PassesOwn.never rfl (pi_list (pv 0)) (pg_name (i := 3) sc_rising_lines.nd rfl (Or.inl rfl)) (pss_cons (ps_if (pt_not (pt_chain op_lt op_lt (pv 2) (pv 3) (pv 1))) (pss_one (ps_ret pe_bl)) pss_nil)
        (pss_one (ps_set (i := 2) sc_rising_lines.nd rfl (Or.inl rfl) (pv 3)))))
        (pss_one (ps_ret pe_bl)))), ?_⟩
  obtain ⟨a, many, t, rfl, ha, k⟩ := h
  have fin : ∀ (i : Nat) (last : Int), risingB last many (t.drop i) = risingB (-1) many t → t.length ≤ i → risingB (-1) many t = true := fun i last e h => by
    rw [List.drop_eq_nil_of_le h] at e
    exact e.symm
  refine ⟨_, rfl, ?_⟩
  refine ⟨_, rfl, a, rfl, ⟨_, SqL.of ha⟩, for_list (K := K) (a := a) (xs := iV t) (fun i σ H' => ∃ (last : Int) (v : Option V), σ = [some (.ref a), some (.int (many : Int)), some (.int last), v] ∧ H' = H ∧ risingB last many (t.drop i) = risingB (-1) many t)
    ⟨-1, none, rfl, rfl, rfl⟩ (fun i σ H' _ ⟨_, _, _, e, _⟩ => by rw [e]; exact SqL.of ha) ?_ ?_⟩
  · rintro i x σ H' hx ⟨last, v, rfl, rfl, hn⟩
    obtain ⟨c, hci, rfl⟩ : ∃ c, t[i]? = some c ∧ x = .int c := by
      unfold iV at hx
      rw [List.getElem?_map] at hx
      cases e : t[i]? with
      | none => rw [e] at hx; cases hx
      | some c => rw [e] at hx; exact ⟨c, rfl, (Option.some.inj hx).symm⟩
    have hlt := (List.getElem?_eq_some_iff.mp hci).1
    have dr : t.drop i = c :: t.drop (i + 1) := by
      rw [List.drop_eq_getElem_cons hlt]
      rw [(List.getElem?_eq_some_iff.mp hci).2]
    have st : risingB last many (t.drop i) = ((decide (last < c) && decide (c < (many : Int))) && risingB c many (t.drop (i + 1))) := by rw [dr]; rfl
    refine val_ch (val_var rfl) (val_var rfl) (val_var rfl) _ ⟨_, rfl, ?_⟩
    cases e : (decide (last < c) && decide (c < (many : Int))) with
    | false =>
      refine if_t rfl ?_
      rw [st, e, Bool.false_and] at hn
      rw [← hn] at k
      exact k
    | true =>
      refine if_f rfl ?_
      rw [st, e, Bool.true_and] at hn
      exact ⟨_, rfl, c, _, rfl, rfl, hn⟩
  · rintro σ H' ⟨last, v, rfl, rfl, hn⟩
    have : (iV t).length = t.length := by unfold iV; simp
    rw [this] at hn
    have h2 := fin _ last hn (Nat.le_refl _)
    rw [h2] at k
    exact k
abbrev s_Desk_init : Stmt := inClass (top 65) 0
theorem sc_Desk_init : FnScope ["self"] ["self"] (defScope s_Desk_init) := ⟨rfl, rfl, rfl, by decide +kernel, rfl, by decide +kernel, by decide +kernel⟩
theorem ok_Desk_init (T : Txt K mg C) : OkI P w K mg base C.dsk 3 ["self"] (spDesk C) := by
  have h_Program_init := ok_Program_init (P := P) (w := w) (base := base) T
  obtain ⟨f, fd, hm, F, b⟩ := T.m_Desk_init
  refine ⟨f, fd, hm, b, F.ok sc_Desk_init (fun vs H Q E h => ?_) (fun cdv A outer s H vs Q E hr h => ?_)⟩
  · obtain ⟨d, dx, B, rfl, _⟩ := h
    rfl
  refine ⟨_, (pss_cons (ps_fld (pv 0) (pe_mk0 h_Program_init (hr.mono (by decide)) (by rfl) T.g_Program) rfl)
        (pss_cons (ps_fld (pv 0) (pe_lst pa_nil) rfl)
        (pss_one (ps_fld (pv 0) (pe_lst pa_nil) rfl)))), ?_⟩
  obtain ⟨d, dx, B, rfl, hd0, sB, hBd, k⟩ := h
  intro p dp np nd ne
  refine ⟨p, dp, rfl, upd_same, fun H1 s' pa si ns npa nsi m1 m2 m3 hp h1 h2 h3 kp => ⟨rfl, ?_⟩⟩
  have e0 : ∀ b, (upd (upd H dp (.own p)) p (.ins C.prg dp [])) b = none → H b = none := fun b e => Same.free (made_same' np nd ne.symm) e
  have s1 : Same H H1 := made_same np nd kp
  have hd1 := s1 _ _ hd0
  have n1 : p ≠ d := (ne_of_none hd0 np).symm
  have n2 : s' ≠ d := (ne_of_none hd0 (e0 _ ns)).symm
  have n3 : pa ≠ d := (ne_of_none hd0 (e0 _ npa)).symm
  have n4 : si ≠ d := (ne_of_none hd0 (e0 _ nsi)).symm
  refine ⟨_, rfl, _, _, _, _, rfl, hd1, T.cl_dsk, T.n_dsk_program, (by refine Nat.lt_of_le_of_lt (m := 7) ?_ (by decide); (repeat refine few1 ?_); exact Nat.zero_le _), ?_⟩
  refine ⟨(by show 0 ≤ sizeLine; decide), fun g hg => ?_⟩
  have m1 : d ≠ g := ne_of_none upd_same hg
  refine ⟨_, rfl, _, _, _, _, rfl, (Same.new hg _ _ _ upd_same), T.cl_dsk, T.n_dsk_givens, (by refine Nat.lt_of_le_of_lt (m := 7) ?_ (by decide); (repeat refine few1 ?_); exact Nat.zero_le _), ?_⟩
  refine ⟨(by show 0 ≤ sizeLine; decide), fun pl hpl => ?_⟩
  have m2 : d ≠ pl := ne_of_none upd_same hpl
  refine ⟨_, rfl, _, _, _, _, rfl, (Same.new hpl _ _ _ upd_same), T.cl_dsk, T.n_dsk_places, (by refine Nat.lt_of_le_of_lt (m := 7) ?_ (by decide); (repeat refine few1 ?_); exact Nat.zero_le _), ?_⟩
  have fsn : putF "places" (.ref pl) (putF "givens" (.ref g) (putF "program" (.ref p) [])) = fs_dsk (.ref p) (.ref g) (.ref pl) := fs_dsk_new
  rw [fsn]
  generalize hF1 : putF "program" (V.ref p) [] = F1 at *
  generalize hF2 : putF "givens" (V.ref g) F1 = F2 at *
  have hg1 : H1 g = none := by rw [upd_ne m1.symm] at hg; exact hg
  have hgl : (upd (upd (upd H1 d (.ins C.dsk dx F1)) g (.lst [])) d (.ins C.dsk dx F2)) g = some (.lst []) := by rw [upd_ne m1.symm]; exact upd_same
  have m3 : g ≠ pl := ne_of_none hgl hpl
  have hpl1 : H1 pl = none := by rw [upd_ne m2.symm, upd_ne m3.symm, upd_ne m2.symm] at hpl; exact hpl
  generalize hHe : upd (upd (upd (upd (upd H1 d (.ins C.dsk dx F1)) g (.lst [])) d (.ins C.dsk dx F2)) pl (.lst [])) d (.ins C.dsk dx (fs_dsk (.ref p) (.ref g) (.ref pl))) = He
  have get : ∀ b o, H1 b = some o → b ≠ d → He b = some o := fun b o e ne => by
    rw [← hHe, upd_ne ne, upd_ne (ne_of_none e hpl1), upd_ne ne, upd_ne (ne_of_none e hg1), upd_ne ne]
    exact e
  refine k He (fun b o e => get b o (s1 _ _ (sB _ _ e)) (ne_of_none e hBd)) fun G hG => ?_
  have nG : ∀ b, H b = none → ¬ G b := fun b e g => hG b g (sB.free e)
  refine ⟨dx, p, g, pl, ?_, ⟨dp, s', pa, si, [], ?_, ?_, ?_, ?_, trivial⟩, ⟨[], ?_, trivial⟩, ?_⟩
  · rw [← hHe]; exact upd_same
  · exact dh_get n1.symm (nG _ np) (get _ _ hp n1)
  · exact dh_get n2.symm (nG _ (e0 _ ns)) (get _ _ h1 n2)
  · exact dh_get n3.symm (nG _ (e0 _ npa)) (get _ _ h2 n3)
  · exact dh_get n4.symm (nG _ (e0 _ nsi)) (get _ _ h3 n4)
  · refine dh_get m1 (nG _ (s1.free hg1)) ?_
    rw [← hHe, upd_ne m1.symm, upd_ne m3, upd_ne m1.symm]; exact upd_same
  · refine dh_get m2 (nG _ (s1.free hpl1)) ?_
    rw [← hHe, upd_ne m2.symm]; exact upd_same
abbrev s_Desk_has_line : Stmt := inClass (top 65) 1
theorem sc_Desk_has_line : FnScope ["self", "line"] ["self", "line"] (defScope s_Desk_has_line) := ⟨rfl, rfl, rfl, by decide +kernel, rfl, by decide +kernel, by decide +kernel⟩
theorem ok_Desk_has_line (T : Txt K mg C) : OkM P w K mg base C.dsk 2 "has_line" ["self", "line"] (spHasLine C) := by
  have h_Program_many := ok_Program_many (P := P) (w := w) (base := base) T
  obtain ⟨f, fd, hm, F, b⟩ := T.m_Desk_has_line
  refine ⟨f, fd, hm, b, F.ok sc_Desk_has_line (fun vs H Q E h => ?_) (fun cdv A outer s H vs Q E hr h => ?_)⟩
  · obtain ⟨d, n, P, w, rfl, _⟩ := h
    rfl
  refine ⟨_, (pss_one (ps_ret (pe_chain op_le op_lt pe_int (pv 1) (pe_cm0 (pe_fld (pv 0) rfl) T.cl_prg h_Program_many (hr.mono (by decide)))))), ?_⟩
  obtain ⟨d, n, P0, w0, rfl, hD, k⟩ := h
  obtain ⟨dx, p, g, pl, h1, h2, h3, h4⟩ := hD.seen
  obtain ⟨dp, ps, ppa, psi, pas, p1, p2, p3, p4, p5⟩ := id h2
  refine val_ch (val_c) (val_var rfl) (z := (P0.length : Int)) (fun Q0 q0 => ⟨_, rfl, _, _, _, _, _, rfl, h1, T.cl_dsk, T.n_dsk_program, fs_dsk_program, _, _, _, rfl, p1, fs_prg_no_many, p, dp, ps, _, _, rV pas, rfl, p1, p2, ?_⟩) _ k
  rw [rV_length, p5.len]
  exact q0
abbrev s_Desk_has_given : Stmt := inClass (top 65) 2
theorem sc_Desk_has_given : FnScope ["self", "i"] ["self", "i"] (defScope s_Desk_has_given) := ⟨rfl, rfl, rfl, by decide +kernel, rfl, by decide +kernel, by decide +kernel⟩
theorem ok_Desk_has_given (T : Txt K mg C) : OkM P w K mg base C.dsk 1 "has_given" ["self", "i"] (spHasGiven C) := by
  obtain ⟨f, fd, hm, F, b⟩ := T.m_Desk_has_given
  refine ⟨f, fd, hm, b, F.ok sc_Desk_has_given (fun vs H Q E h => ?_) (fun cdv A outer s H vs Q E hr h => ?_)⟩
  · obtain ⟨d, n, P, w, rfl, _⟩ := h
    rfl
  refine ⟨_, (pss_one (ps_ret (pe_chain op_le op_lt pe_int (pv 1) (pe_callB call_len_seq (by rfl) T.len PySem.boot_len (pa_cons (pe_fld (pv 0) rfl) pa_nil))))), ?_⟩
  obtain ⟨d, n, P0, w0, rfl, hD, k⟩ := h
  obtain ⟨dx, p, g, pl, h1, h2, ⟨gs, h3, h3'⟩, h4⟩ := hD.seen
  refine val_ch (val_c) (val_var rfl) (z := (w0.inputs.length : Int)) (fun Q0 q0 => ⟨_, rfl, _, _, _, _, _, rfl, h1, T.cl_dsk, T.n_dsk_givens, fs_dsk_givens, _, _, rfl, .inl (SqL.of h3), ?_⟩) _ k
  rw [rV_length, h3'.len]
  exact q0
abbrev s_Desk_measure : Stmt := inClass (top 65) 3
theorem sc_Desk_measure : FnScope ["self"] ["self"] (defScope s_Desk_measure) := ⟨rfl, rfl, rfl, by decide +kernel, rfl, by decide +kernel, by decide +kernel⟩
theorem ok_Desk_measure (T : Txt K mg C) : OkM P w K mg base C.dsk 30 "measure" ["self"] (spMeas C) := by
  have h_Measure_init := ok_Measure_init (P := P) (w := w) (base := base) T
  obtain ⟨f, fd, hm, F, b⟩ := T.m_Desk_measure
  refine ⟨f, fd, hm, b, F.ok sc_Desk_measure (fun vs H Q E h => ?_) (fun cdv A outer s H vs Q E hr h => ?_)⟩
  · obtain ⟨d, P, c, w, rfl, _⟩ := h
    rfl
  refine ⟨_, (pss_one (ps_ret (pe_mk h_Measure_init (hr.mono (by decide)) (by rfl) T.g_Measure (pa_cons (pe_fld (pv 0) rfl) (pa_cons (pe_fld (pv 0) rfl) (pa_cons (pe_fld (pv 0) rfl) pa_nil)))))), ?_⟩
  obtain ⟨d, P0, c, w0, rfl, hD, hG, hW, k⟩ := h
  obtain ⟨dx, p, g, pl, h1, h2, h3, h4⟩ := hD.seen
  refine ⟨_, rfl, _, _, _, _, _, rfl, h1, T.cl_dsk, T.n_dsk_program, fs_dsk_program, _, rfl, _, _, _, _, _, rfl, h1, T.cl_dsk, T.n_dsk_givens, fs_dsk_givens, _, rfl, _, _, _, _, _, rfl, h1, T.cl_dsk, T.n_dsk_places, fs_dsk_places, ?_⟩
  refine fun m dx nm nd ne => ?_
  refine ⟨m, dx, p, g, pl, H, P0, c, w0, rfl, upd_same, made_same' nm nd ne.symm, nm, h2, hG, h3, h4, hW, fun H2 s3 hM => ⟨rfl, ?_⟩⟩
  exact k H2 m s3 hM
end
end Ld
end
section
set_option Elab.async false
set_option maxRecDepth 100000
set_option maxHeartbeats 4000000
namespace Ld
open PySem PySem.Spec PyProof.Rows L2 RT
open Vaslca (Text ascii decimal runOf statusNumber valuesAt ends)
open Vaslcf (Wish)
def natI (l : List Nat) : List Int := l.map fun n : Nat => (n : Int)
theorem iV_natI (l : List Nat) : iV (natI l) = nV l := by unfold iV natI nV; rw [List.map_map]; rfl
def Kept (d : Addr) (H H' : Hp) : Prop := Same (hide H [d]) (hide H' [d])
abbrev Res := List PL × Wish × List Int
def AnsTo (G : Addr → Prop) (C : Cs) (d : Addr) (H : Hp) (Q : VK) (r : Res) : Prop := ∀ H' q, Kept d H H' → H q = none → DeskAt G C H' d r.1 r.2.1 → H' q = some (.lst (iV r.2.2)) → Q (.ref q) H'
theorem AnsTo.stay {G : Addr → Prop} {C : Cs} {d : Addr} {H H' : Hp} {Q : VK} {P : List PL} {w : Wish} {l : List Int} (hD : DeskAt G C H d P w) (k : AnsTo G C d H Q (P, w, l)) (s : Same H H') {q : Addr} (n : H q = none) (hq : H' q = some (.lst (iV l))) : Q (.ref q) H' :=
  k H' q (hide_mono s _) n (hD.same s) hq
theorem AnsTo.one {G : Addr → Prop} {C : Cs} {d : Addr} {H H' : Hp} {Q : VK} {P : List PL} {w : Wish} {z : Int} (hD : DeskAt G C H d P w) (k : AnsTo G C d H Q (P, w, [z])) (s : Same H H') {q : Addr} (hq : H' q = none) : Q (.ref q) (upd H' q (.lst [.int z])) :=
  k.stay hD (s.trans (Same.new hq _)) (s.free hq) upd_same
structure DeskOk (P : List PL) (c : Vaslca.Code) (w : Wish) : Prop where
  good : Good P c
  wish : WishOk P w
  txt : ∀ l ∈ P, l.head.text.length ≤ 1000
  ch : P.length ≤ 10 → ∀ k, ChOk P (chL P k)
  least : P.length ≤ 10 → ∀ w', leastL P c w' ≠ []
  stp : ∀ d, ∀ s ∈ (runOf c d).steps, s.line < P.length
structure ArOk (P : List PL) (A : Nat → List Nat) : Prop where
  ar : Arounds P A
  len : ∀ n, n < P.length → (A n).length ≤ 1000
  side : ∀ n l, P[n]? = some l → l.side = 1 → 1 ≤ (A n).length
def resProgram (t : Text) (P : List PL) (w : Wish) : Res := match readProgram t with
  | none => (P, w, [-1])
  | some P' => (P', { w with places := [] }, [(P'.length : Int)])
def resGiven (xs : List Int) (P : List PL) (w : Wish) : Res := if xs.length ≤ 6 ∧ xs.all okVal = true then (if 4 ≤ w.inputs.length then (P, w, [-6]) else (P, { w with inputs := w.inputs ++ [xs.map Int.toNat] }, [(w.inputs.length : Int) + 1])) else (P, w, [-2])
def resPlace (n : Int) (P : List PL) (w : Wish) : Res := if hasLine P n = true then (if w.places.contains n.toNat = true then (P, w, [-5]) else if 3 ≤ w.places.length then (P, w, [-6]) else (P, { w with places := w.places ++ [n.toNat] }, [(w.places.length : Int) + 1])) else (P, w, [-3])
def resClear (P : List PL) (w : Wish) : Res := (P, ⟨[], []⟩, [(w.inputs.length : Int), (w.places.length : Int)])
def resEnough (xs : List Int) (P : List PL) (c : Vaslca.Code) (w : Wish) : Res := if risingB (-1) P.length xs = true then (P, w, [if enoughB P c w (xs.map Int.toNat) = true then 1 else 0, ((aloneL P (xs.map Int.toNat)).length : Int)]) else (P, w, [-4])
def cnt (l : List Nat) : List Nat := l.length :: l
def cntT (t : Text) : List Nat := t.length :: t.map UInt8.toNat
def oneL (P : List PL) (c : Vaslca.Code) (w : Wish) : List Nat := byL P c w (P.length + 1) (List.range P.length)
def resByone (P : List PL) (A : Nat → List Nat) (c : Vaslca.Code) (w : Wish) : Res := (P, w, natI (cnt (oneL P c w) ++ cntT (textL P A (oneL P c w))))
def resLeast (P : List PL) (c : Vaslca.Code) (w : Wish) : Res := if 10 < P.length then (P, w, [-7]) else (P, w, natI ((leastL P c w).length :: cnt ((leastL P c w).headD [])))
def resJoined (P : List PL) (c : Vaslca.Code) (w : Wish) : Res := if 10 < P.length then (P, w, [-7]) else (P, w, natI (cnt (joinedL P c w) ++ [if enoughB P c w (joinedL P c w) = true then 1 else 0]))
def runAtI (c : Vaslca.Code) (w : Wish) (i : Int) : VRun := runOf c (w.inputs[i.toNat]?.getD [])
def resRows (i : Int) (P : List PL) (c : Vaslca.Code) (w : Wish) : Res := if hasGiven w i = true then (P, w, natI (statusNumber (runAtI c w i).status :: w.places.flatMap fun p => cnt (valuesAt (runAtI c w i) p))) else (P, w, [-2])
def refusal (i n k : Int) (P : List PL) (c : Vaslca.Code) (w : Wish) : Int := if hasGiven w i = true then (if hasLine P n = true then (if (decide (0 ≤ k) && decide (k < ((numsAt (runAtI c w i) n.toNat).length : Int))) = true then 0 else -5) else -3) else -2
def behindAt (c : Vaslca.Code) (w : Wish) (i n k : Int) : List Nat := behindL (runAtI c w i).steps ((numsAt (runAtI c w i) n.toNat)[k.toNat]?.getD 0)
def saidL (P : List PL) (x : VRun) (j : Nat) : List Nat := match x.steps[j]? with
  | none => []
  | some s => match P[s.line]? with
    | none => []
    | some l => cntT (l.head.text ++ (ascii " gives " ++ decimal s.value))
def resExplain (i n k : Int) (P : List PL) (c : Vaslca.Code) (w : Wish) : Res := if refusal i n k P c w < 0 then (P, w, [refusal i n k P c w]) else (P, w, natI ((behindAt c w i n k).length :: (behindAt c w i n k).flatMap (saidL P (runAtI c w i))))
def resChain (i n k : Int) (P : List PL) (c : Vaslca.Code) (w : Wish) : Res := if refusal i n k P c w < 0 then (P, w, [refusal i n k P c w]) else (P, w, natI (cnt (behindAt c w i n k) ++ cnt ((List.range P.length).filter fun m => (behindAt c w i n k).any fun j => ((runAtI c w i).steps[j]?).any fun s => s.line == m)))
def resSize (P : List PL) (c : Vaslca.Code) (w : Wish) : Res := (P, w, natI [P.length, w.inputs.length, w.places.length, (w.inputs.filter fun i => ends (runOf c i)).length])
def spProgramA (C : Cs) : Sp := fun vs H Q _ => ∃ (G : Addr → Prop) (d a : Addr) (t : Text) (P : List PL) (w : Wish), vs = [.ref d, .ref a] ∧ DeskAt G C H d P w ∧ (∀ b, G b → H b ≠ none) ∧ LB H a t ∧ t.length ≤ 1000 ∧ AnsTo G C d H Q (resProgram t P w)
def spGivenA (C : Cs) : Sp := fun vs H Q _ => ∃ (G : Addr → Prop) (d a : Addr) (xs : List Int) (P : List PL) (w : Wish), vs = [.ref d, .ref a] ∧ DeskAt G C H d P w ∧ (∀ b, G b → H b ≠ none) ∧ H a = some (.lst (iV xs)) ∧ AnsTo G C d H Q (resGiven xs P w)
def spPlaceA (C : Cs) : Sp := fun vs H Q _ => ∃ (G : Addr → Prop) (d : Addr) (n : Int) (P : List PL) (w : Wish), vs = [.ref d, .int n] ∧ DeskAt G C H d P w ∧ (∀ b, G b → H b ≠ none) ∧ AnsTo G C d H Q (resPlace n P w)
def spClearA (C : Cs) : Sp := fun vs H Q _ => ∃ (G : Addr → Prop) (d : Addr) (P : List PL) (w : Wish), vs = [.ref d] ∧ DeskAt G C H d P w ∧ (∀ b, G b → H b ≠ none) ∧ AnsTo G C d H Q (resClear P w)
def spEnoughA (C : Cs) : Sp := fun vs H Q _ => ∃ (G : Addr → Prop) (d a : Addr) (xs : List Int) (P : List PL) (c : Vaslca.Code) (w : Wish), vs = [.ref d, .ref a] ∧ DeskAt G C H d P w ∧ DeskOk P c w ∧ H a = some (.lst (iV xs)) ∧ xs.length ≤ 1000 ∧ AnsTo G C d H Q (resEnough xs P c w)
def spByoneA (C : Cs) : Sp := fun vs H Q _ => ∃ (G : Addr → Prop) (d : Addr) (P : List PL) (A : Nat → List Nat) (c : Vaslca.Code) (w : Wish), vs = [.ref d] ∧ DeskAt G C H d P w ∧ DeskOk P c w ∧ ArOk P A ∧ AnsTo G C d H Q (resByone P A c w)
def spLeastA (C : Cs) : Sp := fun vs H Q _ => ∃ (G : Addr → Prop) (d : Addr) (P : List PL) (c : Vaslca.Code) (w : Wish), vs = [.ref d] ∧ DeskAt G C H d P w ∧ DeskOk P c w ∧ AnsTo G C d H Q (resLeast P c w)
def spJoinedA (C : Cs) : Sp := fun vs H Q _ => ∃ (G : Addr → Prop) (d : Addr) (P : List PL) (c : Vaslca.Code) (w : Wish), vs = [.ref d] ∧ DeskAt G C H d P w ∧ DeskOk P c w ∧ AnsTo G C d H Q (resJoined P c w)
def spRowsA (C : Cs) : Sp := fun vs H Q _ => ∃ (G : Addr → Prop) (d : Addr) (i : Int) (P : List PL) (c : Vaslca.Code) (w : Wish), vs = [.ref d, .int i] ∧ DeskAt G C H d P w ∧ DeskOk P c w ∧ AnsTo G C d H Q (resRows i P c w)
def spRefuse (C : Cs) : Sp := fun vs H Q _ => ∃ (d : Addr) (i n k : Int) (P : List PL) (c : Vaslca.Code) (w : Wish), vs = [.ref d, .int i, .int n, .int k] ∧ DeskSee C H d P w ∧ DeskOk P c w ∧ ∀ H', Same H H' → Q (.int (refusal i n k P c w)) H'
def spExplainA (C : Cs) : Sp := fun vs H Q _ => ∃ (G : Addr → Prop) (d : Addr) (i n k : Int) (P : List PL) (c : Vaslca.Code) (w : Wish), vs = [.ref d, .int i, .int n, .int k] ∧ DeskAt G C H d P w ∧ DeskOk P c w ∧ AnsTo G C d H Q (resExplain i n k P c w)
def spChainA (C : Cs) : Sp := fun vs H Q _ => ∃ (G : Addr → Prop) (d : Addr) (i n k : Int) (P : List PL) (c : Vaslca.Code) (w : Wish), vs = [.ref d, .int i, .int n, .int k] ∧ DeskAt G C H d P w ∧ DeskOk P c w ∧ AnsTo G C d H Q (resChain i n k P c w)
def spSizeA (C : Cs) : Sp := fun vs H Q _ => ∃ (G : Addr → Prop) (d : Addr) (P : List PL) (c : Vaslca.Code) (w : Wish), vs = [.ref d] ∧ DeskAt G C H d P w ∧ DeskOk P c w ∧ AnsTo G C d H Q (resSize P c w)
theorem all_iV {xs : List Int} (h : xs.all okVal = true) : iV xs = nV (xs.map Int.toNat) := by
  unfold iV nV
  rw [List.map_map]
  refine List.map_congr_left fun x hx => ?_
  have := List.all_eq_true.mp h x hx
  unfold okVal at this
  rw [Bool.and_eq_true, decide_eq_true_eq] at this
  show V.int x = V.int ((x.toNat : Nat) : Int)
  rw [Int.toNat_of_nonneg this.1]
theorem rising_nat : ∀ (xs : List Int) (last many : Int), -1 ≤ last → risingB last many xs = true → (∀ x ∈ xs, 0 ≤ x ∧ x < many)
  | [], _, _, _, _ => fun x hx => by cases hx
  | n :: r, last, many, hl, h => by
    have h' : ((decide (last < n) && decide (n < many)) && risingB n many r) = true := h
    rw [Bool.and_eq_true, Bool.and_eq_true, decide_eq_true_eq, decide_eq_true_eq] at h'
    intro x hx
    rcases List.mem_cons.mp hx with rfl | hx
    · exact ⟨by omega, h'.1.2⟩
    · exact rising_nat r n many (by omega) h'.2 x hx
theorem rising_iV {xs : List Int} {many : Nat} (h : risingB (-1) many xs = true) : iV xs = nV (xs.map Int.toNat) ∧ ∀ n ∈ xs.map Int.toNat, n < many := by
  have hx := rising_nat xs (-1) many (Int.le_refl _) h
  constructor
  · unfold iV nV
    rw [List.map_map]
    refine List.map_congr_left fun x hm => ?_
    show V.int x = V.int ((x.toNat : Nat) : Int)
    rw [Int.toNat_of_nonneg (hx x hm).1]
  · intro n hn
    obtain ⟨x, hm, rfl⟩ := List.mem_map.mp hn
    have := hx x hm
    omega
theorem Kept.of {d : Addr} {H H' : Hp} (s : Same H H') : Kept d H H' := hide_mono s _
theorem Kept.put {d : Addr} {H : Hp} {o : HO} : Kept d H (upd H d o) := by unfold Kept; rw [hide_upd]; exact Same.refl _
theorem Kept.trans {d : Addr} {H H' H'' : Hp} (a : Kept d H H') (b : Kept d H' H'') : Kept d H H'' := Same.trans a b
theorem Kept.free {d b : Addr} {H H' : Hp} (k : Kept d H H') (n : d ≠ b) (e : H' b = none) : H b = none := by
  have := Same.free (l := b) k (by rw [hide_out (by simpa using n.symm)]; exact e)
  rwa [hide_out (by simpa using n.symm)] at this
theorem Kept.dh {G : Addr → Prop} {d : Addr} {H H' : Hp} (k : Kept d H H') : Same (dh G d H) (dh G d H') := fun b o e => by
  unfold Ld.dh hg at e ⊢
  split at e
  · cases e
  · rename_i n
    rw [if_neg n]
    have hb : b ∉ [d] := fun m => n (.inl (List.mem_singleton.mp m))
    have := k b o (by rw [hide_out hb]; exact e)
    rw [hide_out hb] at this
    exact this
theorem hide_new {d b : Addr} {H : Hp} {o : HO} (n : d ≠ b) (e : H b = some o) : hide H [d] b = some o := by rw [hide_out (by simpa using n.symm)]; exact e
section
variable {P : Program} {w : World} {K : PySem.W.Frag} {mg : Str → Option Value} {base : Heap} {C : Cs}
abbrev s_Desk_answer_program : Stmt := inClass (top 65) 4
theorem sc_Desk_answer_program : FnScope ["self", "text", "program"] ["self", "text"] (defScope s_Desk_answer_program) := ⟨rfl, rfl, rfl, by decide +kernel, rfl, by decide +kernel, by decide +kernel⟩
theorem ok_Desk_answer_program (T : Txt K mg C) : OkM P w K mg base C.dsk 10 "answer_program" ["self", "text"] (spProgramA C) := by
  have h_Program_many := ok_Program_many (P := P) (w := w) (base := base) T
  have h_read_program := ok_read_program (P := P) (w := w) (base := base) T
  obtain ⟨f, fd, hm, F, b⟩ := T.m_Desk_answer_program
  refine ⟨f, fd, hm, b, F.ok sc_Desk_answer_program (fun vs H Q E h => ?_) (fun cdv A outer s H vs Q E hr h => ?_)⟩
  · obtain ⟨G, d, a, t, P, w, rfl, _⟩ := h
    rfl
  refine ⟨_, (pss_cons (ps_set (i := 2) sc_Desk_answer_program.nd rfl (Or.inl rfl) (pe_cf h_read_program (hr.mono (by decide)) (by rfl) (pa_cons (pv 1) pa_nil)))
        (pss_cons (ps_if (pt_cmpR op_isN (pv 2) pe_non (nomark _)) (pss_one (ps_ret (pe_lst (pa_cons (pe_un un_neg pe_int) pa_nil)))) pss_nil)
        (pss_cons (ps_fld (pv 0) (pv 2) rfl)
        (pss_cons (ps_fld (pv 0) (pe_lst pa_nil) rfl)
        (pss_one (ps_ret (pe_lst (pa_cons (pe_cm0 (pv 2) T.cl_prg h_Program_many (hr.mono (by decide))) pa_nil)))))))), ?_⟩
  obtain ⟨G, d, a, t, P0, w0, rfl, hD, hG, ha, hz, k⟩ := h
  refine ⟨_, rfl, a, t, rfl, ha, hz, ?_⟩
  cases e : readProgram t with
  | none =>
    intro H1 s1
    refine ⟨_, rfl, rfl, _, rfl, if_t (by decide) ?_⟩
    refine ⟨_, rfl, (by show 1 ≤ sizeLine; decide), fun D hD' => ?_⟩
    have : resProgram t P0 w0 = (P0, w0, [-1]) := by unfold resProgram; rw [e]
    rw [this] at k
    exact k.one hD s1 hD'
  | some P1 =>
    intro H1 p s1 hP
    obtain ⟨dx, p0, g, pl, h1, h2, h3, h4⟩ := hD.same s1
    obtain ⟨_, _, _, _, hd0, _⟩ := id hD
    refine ⟨_, rfl, rfl, _, rfl, if_f (decide_eq_false (by intro z; cases z)) ?_⟩
    refine ⟨_, rfl, _, rfl, _, _, _, _, rfl, h1, T.cl_dsk, T.n_dsk_program, (by rw [fs_dsk_len]; decide), ?_⟩
    rw [fs_dsk_put_program]
    refine ⟨(by show 0 ≤ sizeLine; decide), fun D hD' => ?_⟩
    have n1 : d ≠ D := ne_of_none upd_same hD'
    refine ⟨_, rfl, _, _, _, _, rfl, (Same.new hD' _ _ _ upd_same), T.cl_dsk, T.n_dsk_places, (by rw [fs_dsk_len]; decide), ?_⟩
    rw [fs_dsk_put_places]
    have K1 : Kept d H1 (upd (upd (upd H1 d (.ins C.dsk dx (fs_dsk (.ref p) (.ref g) (.ref pl)))) D (.lst [])) d (.ins C.dsk dx (fs_dsk (.ref p) (.ref g) (.ref D)))) := (Kept.put.trans (Kept.of (Same.new hD' _))).trans Kept.put
    have hP2 : PrgAt C (dh G d H1) p P1 := hP.same fun b o e => by
      unfold hg at e
      split at e
      · cases e
      · rename_i n
        have hb : H b = none := Classical.byContradiction n
        exact dh_get (ne_of_none hd0 hb) (fun g => hG b g hb) e
    have hP3 := (hP2.same K1.dh).same (hg_same _ _)
    obtain ⟨dp, ps, ppa, psi, pas, p1, p2, p3, p4, p5⟩ := id hP3
    refine ⟨_, rfl, _, _, _, rfl, p1, fs_prg_no_many, p, dp, ps, _, _, rV pas, rfl, p1, p2, (by show 1 ≤ sizeLine; decide), fun E hE => ?_⟩
    have nE : d ≠ E := ne_of_none upd_same hE
    have : resProgram t P0 w0 = (P1, { w0 with places := [] }, [(P1.length : Int)]) := by unfold resProgram; rw [e]
    rw [this] at k
    have K2 := K1.trans (Kept.of (d := d) (Same.new hE (.lst [.int ((rV pas).length : Int)])))
    have nD : ¬ G D := fun g => hG D g (s1.free (Kept.put.free n1 hD'))
    refine k _ E ((Kept.of s1).trans K2) (s1.free (K1.free nE hE)) ⟨dx, p, g, D, ?_, hP2.same K2.dh, h3.same K2.dh, ?_⟩ ?_
    · exact Same.new hE _ _ _ upd_same
    · exact dh_get n1 nD (Same.new hE _ _ _ (by rw [upd_ne n1.symm]; exact upd_same))
    · rw [upd_same, rV_length, p5.len]; rfl
abbrev s_Desk_answer_given : Stmt := inClass (top 65) 5
theorem sc_Desk_answer_given : FnScope ["self", "given"] ["self", "given"] (defScope s_Desk_answer_given) := ⟨rfl, rfl, rfl, by decide +kernel, rfl, by decide +kernel, by decide +kernel⟩
theorem ok_Desk_answer_given (T : Txt K mg C) : OkM P w K mg base C.dsk 2 "answer_given" ["self", "given"] (spGivenA C) := by
  have h_all_values := ok_all_values (P := P) (w := w) (base := base) T
  obtain ⟨f, fd, hm, F, b⟩ := T.m_Desk_answer_given
  refine ⟨f, fd, hm, b, F.ok sc_Desk_answer_given (fun vs H Q E h => ?_) (fun cdv A outer s H vs Q E hr h => ?_)⟩
  · obtain ⟨G, d, a, xs, P, w, rfl, _⟩ := h
    rfl
  refine ⟨_, (pss_cons (ps_if (PW.pt (pw_or (pt_cmpR op_gt (pe_callB call_len_seq (by rfl) T.len PySem.boot_len (pa_cons (pv 1) pa_nil)) (pe_gi rfl T.c_MOST_GIVEN) (nomark _)) (pw_or1 (pt_not (pt_val (pe_cf h_all_values (hr.mono (by decide)) (by rfl) (pa_cons (pv 1) pa_nil))))))) (pss_one (ps_ret (pe_lst (pa_cons (pe_un un_neg pe_int) pa_nil)))) pss_nil)
        (pss_cons (ps_if (pt_cmpR op_ge (pe_callB call_len_seq (by rfl) T.len PySem.boot_len (pa_cons (pe_fld (pv 0) rfl) pa_nil)) (pe_gi rfl T.c_MOST_INPUTS) (nomark _)) (pss_one (ps_ret (pe_lst (pa_cons (pe_un un_neg pe_int) pa_nil)))) pss_nil)
        (pss_cons (ps_fld (pv 0) (pe_op op_cat (pe_fld (pv 0) rfl) (pe_lst (pa_cons (pe_callTy call_list_of (by rfl) T.list (by decide +kernel) (pa_cons (pv 1) pa_nil)) pa_nil))) rfl)
        (pss_one (ps_ret (pe_lst (pa_cons (pe_callB call_len_seq (by rfl) T.len PySem.boot_len (pa_cons (pe_fld (pv 0) rfl) pa_nil)) pa_nil))))))), ?_⟩
  obtain ⟨G, d, a, xs, P0, w0, rfl, hD, hG, ha, k⟩ := h
  have xl : (iV xs).length = xs.length := by unfold iV; simp
  obtain ⟨dx, p0, g, pl, h1, h2, h3, h4⟩ := id hD
  obtain ⟨gs, hg1, hg2⟩ := h3.same (hg_same _ _)
  have bad : ¬ (xs.length ≤ 6 ∧ xs.all okVal = true) → AnsTo G C d H Q (P0, w0, [-2]) := fun z => by
    have : resGiven xs P0 w0 = (P0, w0, [-2]) := by unfold resGiven; rw [if_neg z]
    rwa [this] at k
  refine ⟨_, rfl, _, _, rfl, .inl (SqL.of ha), _, _, rfl, rfl, _, rfl, ?_⟩
  rw [xl]
  refine if_d (fun z => ?_) (fun z => ?_)
  · refine if_t rfl ⟨_, rfl, (by show 1 ≤ sizeLine; decide), fun D hD' => ?_⟩
    exact (bad (by omega)).one hD (Same.refl H) hD'
  · refine ⟨_, rfl, a, xs, rfl, ha, _, rfl, ?_⟩
    cases z2 : xs.all okVal with
    | false =>
      refine if_t rfl ⟨_, rfl, (by show 1 ≤ sizeLine; decide), fun D hD' => ?_⟩
      exact (bad (by rw [z2]; simp)).one hD (Same.refl H) hD'
    | true =>
      refine if_f rfl ?_
      refine ⟨_, rfl, _, _, _, _, _, rfl, h1, T.cl_dsk, T.n_dsk_givens, fs_dsk_givens, _, _, rfl, .inl (SqL.of hg1), _, _, rfl, rfl, _, rfl, ?_⟩
      rw [rV_length, hg2.len]
      have good : resGiven xs P0 w0 = if 4 ≤ w0.inputs.length then (P0, w0, [-6]) else (P0, { w0 with inputs := w0.inputs ++ [xs.map Int.toNat] }, [(w0.inputs.length : Int) + 1]) := by unfold resGiven; rw [if_pos ⟨by omega, z2⟩]
      rw [good] at k
      refine if_d (fun z3 => ?_) (fun z3 => ?_)
      · rw [if_pos (by omega)] at k
        refine ⟨_, rfl, (by show 1 ≤ sizeLine; decide), fun D hD' => ?_⟩
        exact k.one hD (Same.refl H) hD'
      · rw [if_neg (by omega)] at k
        refine ⟨_, rfl, _, _, _, _, _, rfl, h1, T.cl_dsk, T.n_dsk_givens, fs_dsk_givens, _, rfl, _, _, rfl, .inl (SqL.of ha), fun c hc => ⟨(by show 1 ≤ sizeLine; decide), fun e he => ?_⟩⟩
        have s2 := (Same.new hc (.lst (iV xs))).trans (Same.new he (.lst [.ref c]))
        refine ⟨_, _, _, _, rfl, rfl, s2 _ _ hg1, upd_same, ?_, fun f hf => ?_⟩
        · rw [rV_length, hg2.len]
          exact Nat.le_trans (show w0.inputs.length + 1 ≤ 5 by omega) (by decide)
        have s3 := s2.trans (Same.new hf (.lst (rV gs ++ [.ref c])))
        have nc : d ≠ c := ne_of_none h1 hc
        have nf : d ≠ f := ne_of_none (s2 _ _ h1) hf
        refine ⟨_, rfl, _, _, _, _, rfl, (s3 _ _ h1), T.cl_dsk, T.n_dsk_givens, (by rw [fs_dsk_len]; decide), ?_⟩
        rw [fs_dsk_put_givens]
        refine ⟨_, rfl, _, _, _, _, _, rfl, upd_same, T.cl_dsk, T.n_dsk_givens, fs_dsk_givens, _, _, rfl, .inl (SqL.of (by rw [upd_ne nf.symm]; exact upd_same)), (by show 1 ≤ sizeLine; decide), fun r hr => ?_⟩
        have nr : d ≠ r := ne_of_none upd_same hr
        have K3 := (Kept.put (d := d) (H := upd (upd (upd H c (.lst (iV xs))) e (.lst [.ref c])) f (.lst (rV gs ++ [.ref c]))) (o := .ins C.dsk dx (fs_dsk (.ref p0) (.ref f) (.ref pl)))).trans (Kept.of (d := d) (Same.new hr (.lst [V.int ((rV gs ++ [V.ref c]).length : Int)])))
        have K2 := (Kept.of (d := d) s3).trans K3
        have hcf : (upd (upd (upd H c (.lst (iV xs))) e (.lst [.ref c])) f (.lst (rV gs ++ [.ref c]))) c = some (.lst (iV xs)) := Same.new hf _ _ _ (Same.new he _ _ _ upd_same)
        have hff : (upd (upd (upd H c (.lst (iV xs))) e (.lst [.ref c])) f (.lst (rV gs ++ [.ref c]))) f = some (.lst (rV gs ++ [.ref c])) := upd_same
        obtain ⟨gs', hg3, hg4⟩ := id h3
        have egs : rV gs' = rV gs := by
          have := hg_same _ _ _ _ hg3
          rw [hg1] at this
          exact (HO.lst.inj (Option.some.inj this)).symm
        have egs' : gs' = gs := (List.map_inj_right (fun a b e => V.ref.inj e)).mp egs
        subst egs'
        refine k _ r K2 (((Kept.of (d := d) s3).trans Kept.put).free nr hr) ⟨dx, p0, f, pl, ?_, h2.same K2.dh, ⟨gs' ++ [c], ?_, ?_⟩, K2.dh _ _ h4⟩ ?_
        · exact Same.new hr _ _ _ upd_same
        · rw [K3.dh _ _ (dh_get nf (fun g => hG f g (s2.free hf)) hff)]
          exact congrArg (fun l => some (HO.lst l)) (rV_app gs' [c])
        · refine AllAt.app (hg4.mono fun a l e => K2.dh _ _ e) (AllAt.one ?_)
          rw [← all_iV z2]
          exact K3.dh _ _ (dh_get nc (fun g => hG c g hc) hcf)
        · rw [upd_same, List.length_append, rV_length, hg2.len]
          rfl
abbrev s_Desk_answer_place : Stmt := inClass (top 65) 6
theorem sc_Desk_answer_place : FnScope ["self", "line"] ["self", "line"] (defScope s_Desk_answer_place) := ⟨rfl, rfl, rfl, by decide +kernel, rfl, by decide +kernel, by decide +kernel⟩
theorem ok_Desk_answer_place (T : Txt K mg C) : OkM P w K mg base C.dsk 3 "answer_place" ["self", "line"] (spPlaceA C) := by
  have h_Desk_has_line := ok_Desk_has_line (P := P) (w := w) (base := base) T
  obtain ⟨f, fd, hm, F, b⟩ := T.m_Desk_answer_place
  refine ⟨f, fd, hm, b, F.ok sc_Desk_answer_place (fun vs H Q E h => ?_) (fun cdv A outer s H vs Q E hr h => ?_)⟩
  · obtain ⟨G, d, n, P, w, rfl, _⟩ := h
    rfl
  refine ⟨_, (pss_cons (ps_if (pt_not (pt_val (pe_cm (pv 0) T.cl_dsk h_Desk_has_line (hr.mono (by decide)) (pa_cons (pv 1) pa_nil)))) (pss_one (ps_ret (pe_lst (pa_cons (pe_un un_neg pe_int) pa_nil)))) pss_nil)
        (pss_cons (ps_if (pt_cmpR op_in_seq (pv 1) (pe_fld (pv 0) rfl) (by rfl)) (pss_one (ps_ret (pe_lst (pa_cons (pe_un un_neg pe_int) pa_nil)))) pss_nil)
        (pss_cons (ps_if (pt_cmpR op_ge (pe_callB call_len_seq (by rfl) T.len PySem.boot_len (pa_cons (pe_fld (pv 0) rfl) pa_nil)) (pe_gi rfl T.c_MOST_PLACES) (nomark _)) (pss_one (ps_ret (pe_lst (pa_cons (pe_un un_neg pe_int) pa_nil)))) pss_nil)
        (pss_cons (ps_fld (pv 0) (pe_op op_cat (pe_fld (pv 0) rfl) (pe_lst (pa_cons (pv 1) pa_nil))) rfl)
        (pss_one (ps_ret (pe_lst (pa_cons (pe_callB call_len_seq (by rfl) T.len PySem.boot_len (pa_cons (pe_fld (pv 0) rfl) pa_nil)) pa_nil)))))))), ?_⟩
  obtain ⟨G, d, n, P0, w0, rfl, hD, hG, k⟩ := h
  obtain ⟨dx, p0, g, pl, h1, h2, h3, h4⟩ := id hD
  have hpl := hg_same _ _ _ _ h4
  refine ⟨_, rfl, _, _, _, rfl, h1, fs_dsk_no_has_line, _, rfl, d, n, P0, w0, rfl, hD.see, _, rfl, ?_⟩
  cases z : hasLine P0 n with
  | false =>
    refine if_t rfl ⟨_, rfl, (by show 1 ≤ sizeLine; decide), fun D hD' => ?_⟩
    have : resPlace n P0 w0 = (P0, w0, [-3]) := by unfold resPlace; rw [if_neg (by rw [z]; decide)]
    rw [this] at k
    exact k.one hD (Same.refl H) hD'
  | true =>
    refine if_f rfl ?_
    have hz := z
    unfold hasLine at hz
    rw [Bool.and_eq_true, decide_eq_true_eq, decide_eq_true_eq] at hz
    obtain ⟨m, rfl⟩ : ∃ m : Nat, n = (m : Int) := ⟨n.toNat, by omega⟩
    have good : resPlace (m : Int) P0 w0 = (if w0.places.contains m = true then (P0, w0, [-5]) else if 3 ≤ w0.places.length then (P0, w0, [-6]) else (P0, { w0 with places := w0.places ++ [m] }, [(w0.places.length : Int) + 1])) := by unfold resPlace; rw [if_pos z]; rfl
    rw [good] at k
    refine ⟨_, rfl, _, rfl, _, _, _, _, _, rfl, h1, T.cl_dsk, T.n_dsk_places, fs_dsk_places, pl, _, rfl, .inl (SqL.of hpl), rfl, flat_nV _, _, rfl, ?_⟩
    rw [inV_nV]
    show (if (w0.places.any fun y : Nat => decide ((y : Int) = (m : Int))) = true then _ else _)
    rw [mem_nat]
    refine if_b (fun y => ?_) (fun y => ?_)
    · rw [if_pos y] at k
      refine ⟨_, rfl, (by show 1 ≤ sizeLine; decide), fun D hD' => ?_⟩
      exact k.one hD (Same.refl H) hD'
    · rw [if_neg (by rw [y]; decide)] at k
      refine ⟨_, rfl, _, _, _, _, _, rfl, h1, T.cl_dsk, T.n_dsk_places, fs_dsk_places, _, _, rfl, .inl (SqL.of hpl), _, _, rfl, rfl, _, rfl, ?_⟩
      rw [nV_length]
      refine if_d (fun z3 => ?_) (fun z3 => ?_)
      · rw [if_pos (by omega)] at k
        refine ⟨_, rfl, (by show 1 ≤ sizeLine; decide), fun D hD' => ?_⟩
        exact k.one hD (Same.refl H) hD'
      · rw [if_neg (by omega)] at k
        refine ⟨_, rfl, _, _, _, _, _, rfl, h1, T.cl_dsk, T.n_dsk_places, fs_dsk_places, _, rfl, (by show 1 ≤ sizeLine; decide), fun e he => ?_⟩
        have s2 := Same.new he (.lst [.int (m : Int)])
        refine ⟨_, _, _, _, rfl, rfl, s2 _ _ hpl, upd_same, ?_, fun f hf => ?_⟩
        · rw [nV_length]
          exact Nat.le_trans (show w0.places.length + 1 ≤ 4 by omega) (by decide)
        have s3 := s2.trans (Same.new hf (.lst (nV w0.places ++ [.int (m : Int)])))
        have nf : d ≠ f := ne_of_none (s2 _ _ h1) hf
        refine ⟨_, rfl, _, _, _, _, rfl, (s3 _ _ h1), T.cl_dsk, T.n_dsk_places, (by rw [fs_dsk_len]; decide), ?_⟩
        rw [fs_dsk_put_places]
        refine ⟨_, rfl, _, _, _, _, _, rfl, upd_same, T.cl_dsk, T.n_dsk_places, fs_dsk_places, _, _, rfl, .inl (SqL.of (by rw [upd_ne nf.symm]; exact upd_same)), (by show 1 ≤ sizeLine; decide), fun r hr => ?_⟩
        have nr : d ≠ r := ne_of_none upd_same hr
        have K3 := (Kept.put (d := d) (H := upd (upd H e (.lst [.int (m : Int)])) f (.lst (nV w0.places ++ [.int (m : Int)]))) (o := .ins C.dsk dx (fs_dsk (.ref p0) (.ref g) (.ref f)))).trans (Kept.of (d := d) (Same.new hr (.lst [.int ((nV w0.places ++ [V.int (m : Int)]).length : Int)])))
        have K2 := (Kept.of (d := d) s3).trans K3
        have hff : (upd (upd H e (.lst [.int (m : Int)])) f (.lst (nV w0.places ++ [.int (m : Int)]))) f = some (.lst (nV w0.places ++ [.int (m : Int)])) := upd_same
        refine k _ r K2 (((Kept.of (d := d) s3).trans Kept.put).free nr hr) ⟨dx, p0, g, f, ?_, h2.same K2.dh, h3.same K2.dh, ?_⟩ ?_
        · exact Same.new hr _ _ _ upd_same
        · rw [K3.dh _ _ (dh_get nf (fun g => hG f g (s2.free hf)) hff)]
          refine congrArg (fun l => some (HO.lst l)) ?_
          show _ = nV (w0.places ++ [m])
          unfold nV
          rw [List.map_append]
          rfl
        · rw [upd_same, List.length_append, nV_length]
          rfl
abbrev s_Desk_answer_clear : Stmt := inClass (top 65) 7
theorem sc_Desk_answer_clear : FnScope ["self", "out"] ["self"] (defScope s_Desk_answer_clear) := ⟨rfl, rfl, rfl, by decide +kernel, rfl, by decide +kernel, by decide +kernel⟩
theorem ok_Desk_answer_clear (T : Txt K mg C) : OkM P w K mg base C.dsk 1 "answer_clear" ["self"] (spClearA C) := by
  obtain ⟨f, fd, hm, F, b⟩ := T.m_Desk_answer_clear
  refine ⟨f, fd, hm, b, F.ok sc_Desk_answer_clear (fun vs H Q E h => ?_) (fun cdv A outer s H vs Q E hr h => ?_)⟩
  · obtain ⟨G, d, P, w, rfl, _⟩ := h
    rfl
  refine ⟨_, (pss_cons (ps_set (i := 1) sc_Desk_answer_clear.nd rfl (Or.inl rfl) (pe_lst (pa_cons (pe_callB call_len_seq (by rfl) T.len PySem.boot_len (pa_cons (pe_fld (pv 0) rfl) pa_nil)) (pa_cons (pe_callB call_len_seq (by rfl) T.len PySem.boot_len (pa_cons (pe_fld (pv 0) rfl) pa_nil)) pa_nil))))
        (pss_cons (ps_fld (pv 0) (pe_lst pa_nil) rfl)
        (pss_cons (ps_fld (pv 0) (pe_lst pa_nil) rfl)
        (pss_one (ps_ret (pv 1)))))), ?_⟩
  obtain ⟨G, d, P0, w0, rfl, hD, hG, k⟩ := h
  obtain ⟨dx, p0, g, pl, h1, h2, h3, h4⟩ := id hD
  obtain ⟨gs, hg1, hg2⟩ := h3.same (hg_same _ _)
  have hpl := hg_same _ _ _ _ h4
  refine ⟨_, rfl, _, _, _, _, _, rfl, h1, T.cl_dsk, T.n_dsk_givens, fs_dsk_givens, _, _, rfl, .inl (SqL.of hg1), _, rfl, _, _, _, _, _, rfl, h1, T.cl_dsk, T.n_dsk_places, fs_dsk_places, _, _, rfl, .inl (SqL.of hpl), (by show 2 ≤ sizeLine; decide), fun r hr => ?_⟩
  have nr : d ≠ r := ne_of_none h1 hr
  have s1 := Same.new hr (.lst [.int ((rV gs).length : Int), .int ((nV w0.places).length : Int)])
  refine ⟨(by show 0 ≤ sizeLine; decide), fun e he => ?_⟩
  have ne : d ≠ e := ne_of_none (s1 _ _ h1) he
  refine ⟨_, rfl, _, _, _, _, rfl, (Same.new he _ _ _ (s1 _ _ h1)), T.cl_dsk, T.n_dsk_givens, (by rw [fs_dsk_len]; decide), ?_⟩
  rw [fs_dsk_put_givens]
  refine ⟨(by show 0 ≤ sizeLine; decide), fun f hf => ?_⟩
  have nf : d ≠ f := ne_of_none upd_same hf
  refine ⟨_, rfl, _, _, _, _, rfl, (Same.new hf _ _ _ upd_same), T.cl_dsk, T.n_dsk_places, (by rw [fs_dsk_len]; decide), ?_⟩
  rw [fs_dsk_put_places]
  refine ⟨_, rfl, ?_⟩
  have K1 := (Kept.of (d := d) s1).trans (Kept.of (d := d) (Same.new he (.lst [])))
  have K2 := (Kept.put (d := d) (H := upd (upd H r (.lst [V.int ((rV gs).length : Int), V.int ((nV w0.places).length : Int)])) e (.lst [])) (o := .ins C.dsk dx (fs_dsk (.ref p0) (.ref e) (.ref pl)))).trans (Kept.of (d := d) (Same.new hf (.lst [])))
  have K3 := K2.trans (Kept.put (d := d) (o := .ins C.dsk dx (fs_dsk (.ref p0) (.ref e) (.ref f))))
  have hr1 := hide_new nr (Same.new he (.lst []) _ _ (upd_same (H := H) (a := r) (o := .lst [V.int ((rV gs).length : Int), V.int ((nV w0.places).length : Int)])))
  have he1 := dh_get (G := G) ne (fun g => hG e g (s1.free he)) (upd_same (H := upd H r (.lst [V.int ((rV gs).length : Int), V.int ((nV w0.places).length : Int)])) (a := e) (o := .lst []))
  refine k _ r (K1.trans K3) hr ⟨dx, p0, e, f, upd_same, h2.same (K1.trans K3).dh, ⟨[], K3.dh _ _ he1, trivial⟩, ?_⟩ ?_
  · refine dh_get nf (fun g => hG f g ((K1.trans Kept.put).free nf hf)) ?_
    rw [upd_ne nf.symm]
    exact upd_same
  · rw [hide_same _ _ _ _ (K3 _ _ hr1), rV_length, hg2.len, nV_length]
    rfl
abbrev s_Desk_answer_enough : Stmt := inClass (top 65) 8
theorem sc_Desk_answer_enough : FnScope ["self", "kept", "holds"] ["self", "kept"] (defScope s_Desk_answer_enough) := ⟨rfl, rfl, rfl, by decide +kernel, rfl, by decide +kernel, by decide +kernel⟩
theorem ok_Desk_answer_enough (T : Txt K mg C) : OkM P w K mg base C.dsk 31 "answer_enough" ["self", "kept"] (spEnoughA C) := by
  have h_Desk_measure := ok_Desk_measure (P := P) (w := w) (base := base) T
  have h_Measure_is_enough := ok_Measure_is_enough (P := P) (w := w) (base := base) T
  have h_Program_many := ok_Program_many (P := P) (w := w) (base := base) T
  have h_alone := ok_alone (P := P) (w := w) (base := base) T
  have h_rising_lines := ok_rising_lines (P := P) (w := w) (base := base) T
  obtain ⟨f, fd, hm, F, b⟩ := T.m_Desk_answer_enough
  refine ⟨f, fd, hm, b, F.ok sc_Desk_answer_enough (fun vs H Q E h => ?_) (fun cdv A outer s H vs Q E hr h => ?_)⟩
  · obtain ⟨G, d, a, xs, P, c, w, rfl, _⟩ := h
    rfl
  refine ⟨_, (pss_cons (ps_if (pt_not (pt_val (pe_cf h_rising_lines (hr.mono (by decide)) (by rfl) (pa_cons (pv 1) (pa_cons (pe_cm0 (pe_fld (pv 0) rfl) T.cl_prg h_Program_many (hr.mono (by decide))) pa_nil))))) (pss_one (ps_ret (pe_lst (pa_cons (pe_un un_neg pe_int) pa_nil)))) pss_nil)
        (pss_cons (ps_set (i := 2) sc_Desk_answer_enough.nd rfl (Or.inl rfl) (pe_ifExp (pt_val (pe_cm (pe_cm0 (pv 0) T.cl_dsk h_Desk_measure (hr.mono (by decide))) T.cl_msr h_Measure_is_enough (hr.mono (by decide)) (pa_cons (pv 1) pa_nil))) pe_int pe_int))
        (pss_one (ps_ret (pe_lst (pa_cons (pv 2) (pa_cons (pe_callB call_len_seq (by rfl) T.len PySem.boot_len (pa_cons (pe_cf h_alone (hr.mono (by decide)) (by rfl) (pa_cons (pe_fld (pv 0) rfl) (pa_cons (pv 1) pa_nil))) pa_nil)) pa_nil))))))), ?_⟩
  obtain ⟨G, d, a, xs, P0, c, w0, rfl, hD, hOk, ha, hz, k⟩ := h
  obtain ⟨dx, p0, g, pl, h1, h2, h3, h4⟩ := hD.seen
  obtain ⟨dp, ps, ppa, psi, pas, p1, p2, p3, p4, p5⟩ := id h2
  refine ⟨_, rfl, _, rfl, _, _, _, _, _, rfl, h1, T.cl_dsk, T.n_dsk_program, fs_dsk_program, _, _, _, rfl, p1, fs_prg_no_many, p0, dp, ps, _, _, rV pas, rfl, p1, p2, a, P0.length, xs, ?_, ha, _, rfl, ?_⟩
  · rw [rV_length, p5.len]; rfl
  cases z : risingB (-1) P0.length xs with
  | false =>
    refine if_t rfl ⟨_, rfl, (by show 1 ≤ sizeLine; decide), fun D hD' => ?_⟩
    have : resEnough xs P0 c w0 = (P0, w0, [-4]) := by unfold resEnough; rw [if_neg (by rw [z]; decide)]
    rw [this] at k
    exact k.one hD (Same.refl H) hD'
  | true =>
    refine if_f rfl ?_
    obtain ⟨e1, e2⟩ := rising_iV z
    rw [e1] at ha
    have ll : (xs.map Int.toNat).length ≤ 1000 := by rw [List.length_map]; exact hz
    have : resEnough xs P0 c w0 = (P0, w0, [if enoughB P0 c w0 (xs.map Int.toNat) = true then 1 else 0, ((aloneL P0 (xs.map Int.toNat)).length : Int)]) := by unfold resEnough; rw [if_pos z]
    rw [this] at k
    generalize xs.map Int.toNat = ls at *
    refine nx_go ?_
    refine sq_asgH (PV := fun u H2 => u = .int (if enoughB P0 c w0 ls = true then 1 else 0) ∧ Same H H2) (fun Q0 q0 => ?_) ?_
    · refine ⟨_, rfl, _, _, _, rfl, h1, fs_dsk_no_measure, d, P0, c, w0, rfl, hD.see, hOk.good, hOk.wish, fun H1 m s1 hM => ?_⟩
      obtain ⟨dm, p', pl', wn', g1, _⟩ := id hM
      refine ⟨_, _, _, rfl, g1, fs_msr_no_is_enough, _, rfl, m, a, P0, c, w0, ls, rfl, hM, hOk.good, hOk.wish, s1 _ _ ha, e2, ll, fun H2 s2 => ⟨_, rfl, ?_⟩⟩
      refine if_b (fun y => ?_) (fun y => ?_)
      · exact q0 _ _ ⟨by rw [if_pos y], s1.trans s2⟩
      · exact q0 _ _ ⟨by rw [if_neg (by rw [y]; decide)], s1.trans s2⟩
    · rintro u H2 ⟨rfl, s2⟩
      refine ⟨_, rfl, _, rfl, _, _, _, _, _, rfl, (s2 _ _ h1), T.cl_dsk, T.n_dsk_program, fs_dsk_program, _, rfl, p0, a, P0, ls, rfl, h2.same s2, s2 _ _ ha, e2, ll, fun D hD' => ?_⟩
      refine ⟨_, _, rfl, .inl (SqL.of upd_same), (by show 2 ≤ sizeLine; decide), fun r hr => ?_⟩
      refine k.stay hD ((s2.trans (Same.new hD' _)).trans (Same.new hr _)) (Same.free ((s2.trans (Same.new hD' _))) hr) ?_
      rw [upd_same, nV_length]
      rfl
abbrev s_Desk_answer_byone : Stmt := inClass (top 65) 9
theorem sc_Desk_answer_byone : FnScope ["self", "left"] ["self"] (defScope s_Desk_answer_byone) := ⟨rfl, rfl, rfl, by decide +kernel, rfl, by decide +kernel, by decide +kernel⟩
theorem ok_Desk_answer_byone (T : Txt K mg C) : OkM P w K mg base C.dsk 31 "answer_byone" ["self"] (spByoneA C) := by
  have h_Desk_measure := ok_Desk_measure (P := P) (w := w) (base := base) T
  have h_counted := ok_counted (P := P) (w := w) (base := base) T
  have h_one_by_one := ok_one_by_one (P := P) (w := w) (base := base) T
  have h_text_of := ok_text_of (P := P) (w := w) (base := base) T
  obtain ⟨f, fd, hm, F, b⟩ := T.m_Desk_answer_byone
  refine ⟨f, fd, hm, b, F.ok sc_Desk_answer_byone (fun vs H Q E h => ?_) (fun cdv A outer s H vs Q E hr h => ?_)⟩
  · obtain ⟨G, d, P, A, c, w, rfl, _⟩ := h
    rfl
  refine ⟨_, (pss_cons (ps_set (i := 1) sc_Desk_answer_byone.nd rfl (Or.inl rfl) (pe_cf h_one_by_one (hr.mono (by decide)) (by rfl) (pa_cons (pe_cm0 (pv 0) T.cl_dsk h_Desk_measure (hr.mono (by decide))) pa_nil)))
        (pss_one (ps_ret (pe_op op_cat (pe_cf h_counted (hr.mono (by decide)) (by rfl) (pa_cons (pv 1) pa_nil)) (pe_cf h_counted (hr.mono (by decide)) (by rfl) (pa_cons (pe_cf h_text_of (hr.mono (by decide)) (by rfl) (pa_cons (pe_fld (pv 0) rfl) (pa_cons (pv 1) pa_nil))) pa_nil)))))), ?_⟩
  obtain ⟨G, d, P0, A0, c, w0, rfl, hD, hOk, hA, k⟩ := h
  obtain ⟨dx, p0, g, pl, h1, h2, h3, h4⟩ := hD.seen
  have pl14 := hOk.good.len
  refine ⟨_, rfl, _, _, _, rfl, h1, fs_dsk_no_measure, d, P0, c, w0, rfl, hD.see, hOk.good, hOk.wish, fun H1 m s1 hM => ?_⟩
  refine ⟨m, P0, c, w0, rfl, hM, hOk.good, hOk.wish, fun H2 q s2 hq => ?_⟩
  have s12 := s1.trans s2
  have hlok : LinesOk P0 (oneL P0 c w0) := by
    have : ∀ (f : Nat) (l : List Nat), LinesOk P0 l → LinesOk P0 (byL P0 c w0 f l) := by
      intro f
      induction f with
      | zero => intro l hl; exact hl
      | succ f ih =>
        intro l hl
        show LinesOk P0 (if _ then _ else _)
        split
        · exact ih _ (hl.go c w0)
        · exact hl.go c w0
    exact this _ _ ⟨fun n hn => List.mem_range.mp hn, by rw [List.length_range]; omega⟩
  have hq' : H2 q = some (.lst (nV (oneL P0 c w0))) := hq
  have hr0 : resByone P0 A0 c w0 = (P0, w0, natI (cnt (oneL P0 c w0) ++ cntT (textL P0 A0 (oneL P0 c w0)))) := rfl
  rw [hr0] at k
  clear hr0 hq
  generalize oneL P0 c w0 = ls at *
  have ll := hlok.2
  have tl := (foldText_len P0 A0 hA.len hOk.txt ls ([], [])).1
  have tl' : (textL P0 A0 ls).length ≤ 6100 * 1000 := by
    have : (textL P0 A0 ls).length ≤ 0 + 6100 * ls.length := tl
    omega
  refine ⟨_, rfl, q, _, rfl, hq', by rw [nV_length]; omega, fun D H3 s3 hD3 => ?_⟩
  have s13 := s12.trans s3
  refine ⟨_, rfl, _, _, _, _, _, rfl, (s13 _ _ h1), T.cl_dsk, T.n_dsk_program, fs_dsk_program, _, rfl, p0, q, P0, A0, ls, rfl, h2.same s13, s3 _ _ hq', hlok.1, ll, hA.ar, hA.len, hOk.txt, hA.side, fun H4 T' s4 hT => ?_⟩
  refine ⟨T', _, rfl, hT, by rw [bV_length]; omega, fun E H5 s5 hE => ?_⟩
  refine ⟨_, _, _, _, rfl, rfl, s5 _ _ (s4 _ _ hD3), hE, ?_, fun F hF => ?_⟩
  · rw [cntV_nat, cntV_bytes, nV_length, nV_length, List.length_cons, List.length_cons, List.length_map]
    exact Nat.le_trans (show _ ≤ 6102002 by omega) (by decide)
  · refine k.stay hD (((s13.trans s4).trans s5).trans (Same.new hF _)) (Same.free (((s13.trans s4).trans s5)) hF) ?_
    rw [upd_same, iV_natI, cntV_nat, cntV_bytes]
    unfold nV cnt cntT
    rw [List.map_append]
abbrev s_Desk_answer_least : Stmt := inClass (top 65) 10
theorem sc_Desk_answer_least : FnScope ["self", "found"] ["self"] (defScope s_Desk_answer_least) := ⟨rfl, rfl, rfl, by decide +kernel, rfl, by decide +kernel, by decide +kernel⟩
theorem ok_Desk_answer_least (T : Txt K mg C) : OkM P w K mg base C.dsk 31 "answer_least" ["self"] (spLeastA C) := by
  have h_Desk_measure := ok_Desk_measure (P := P) (w := w) (base := base) T
  have h_Program_many := ok_Program_many (P := P) (w := w) (base := base) T
  have h_all_least := ok_all_least (P := P) (w := w) (base := base) T
  have h_counted := ok_counted (P := P) (w := w) (base := base) T
  obtain ⟨f, fd, hm, F, b⟩ := T.m_Desk_answer_least
  refine ⟨f, fd, hm, b, F.ok sc_Desk_answer_least (fun vs H Q E h => ?_) (fun cdv A outer s H vs Q E hr h => ?_)⟩
  · obtain ⟨G, d, P, c, w, rfl, _⟩ := h
    rfl
  refine ⟨_, (pss_cons (ps_if (pt_cmpR op_gt (pe_cm0 (pe_fld (pv 0) rfl) T.cl_prg h_Program_many (hr.mono (by decide))) (pe_gi rfl T.c_MOST_FOR_LEAST) (nomark _)) (pss_one (ps_ret (pe_lst (pa_cons (pe_un un_neg pe_int) pa_nil)))) pss_nil)
        (pss_cons (ps_set (i := 1) sc_Desk_answer_least.nd rfl (Or.inl rfl) (pe_cf h_all_least (hr.mono (by decide)) (by rfl) (pa_cons (pe_cm0 (pv 0) T.cl_dsk h_Desk_measure (hr.mono (by decide))) pa_nil)))
        (pss_one (ps_ret (pe_op op_cat (pe_lst (pa_cons (pe_callB call_len_seq (by rfl) T.len PySem.boot_len (pa_cons (pv 1) pa_nil)) pa_nil)) (pe_cf h_counted (hr.mono (by decide)) (by rfl) (pa_cons (pe_ix ix_list (pv 1) pe_int (fun _ _ => rfl)) pa_nil))))))), ?_⟩
  obtain ⟨G, d, P0, c, w0, rfl, hD, hOk, k⟩ := h
  obtain ⟨dx, p0, g, pl, h1, h2, h3, h4⟩ := hD.seen
  obtain ⟨dp, ps, ppa, psi, pas, p1, p2, p3, p4, p5⟩ := id h2
  refine ⟨_, rfl, _, _, _, _, _, rfl, h1, T.cl_dsk, T.n_dsk_program, fs_dsk_program, _, _, _, rfl, p1, fs_prg_no_many, p0, dp, ps, _, _, rV pas, rfl, p1, p2, _, _, rfl, rfl, _, rfl, ?_⟩
  rw [rV_length, p5.len]
  refine if_d (fun z => ?_) (fun z => ?_)
  · refine ⟨_, rfl, (by show 1 ≤ sizeLine; decide), fun D hD' => ?_⟩
    have : resLeast P0 c w0 = (P0, w0, [-7]) := by unfold resLeast; rw [if_pos (by omega)]
    rw [this] at k
    exact k.one hD (Same.refl H) hD'
  · have hP10 : P0.length ≤ 10 := by omega
    have : resLeast P0 c w0 = (P0, w0, natI ((leastL P0 c w0).length :: cnt ((leastL P0 c w0).headD []))) := by unfold resLeast; rw [if_neg (by omega)]
    rw [this] at k
    have hch := hOk.ch hP10
    have hne := hOk.least hP10 w0
    have lsub : ∀ (f k : Nat), ∃ k', (∀ l ∈ leastGo P0 c w0 f k, l ∈ chL P0 k') ∧ (leastGo P0 c w0 f k).length ≤ 20000 := by
      intro f
      induction f with
      | zero => intro k; exact ⟨k, fun l hl => (List.mem_filter.mp hl).1, Nat.le_trans (List.length_filter_le _ _) (hch k).len⟩
      | succ f ih =>
        intro k
        have e : leastGo P0 c w0 (f + 1) k = if (foundL P0 c w0 k).isEmpty = true then leastGo P0 c w0 f (k + 1) else foundL P0 c w0 k := rfl
        rw [e]
        split
        · exact ih _
        · exact ⟨k, fun l hl => (List.mem_filter.mp hl).1, Nat.le_trans (List.length_filter_le _ _) (hch k).len⟩
    obtain ⟨k', hsub, hlen⟩ := lsub P0.length 0
    have hlen' : (leastL P0 c w0).length ≤ 20000 := hlen
    have hsub' : ∀ l ∈ leastL P0 c w0, l ∈ chL P0 k' := hsub
    refine ⟨_, rfl, _, _, _, rfl, h1, fs_dsk_no_measure, d, P0, c, w0, rfl, hD.see, hOk.good, hOk.wish, fun H1 m s1 hM => ?_⟩
    refine ⟨m, P0, c, w0, rfl, hM, hOk.good, hOk.wish, hch, hne, fun H2 q s2 hN => ?_⟩
    obtain ⟨rs, hq, hrs⟩ := hN
    obtain ⟨l0, r0, hl0⟩ : ∃ l r, leastL P0 c w0 = l :: r := by
      cases e : leastL P0 c w0 with
      | nil => exact absurd e hne
      | cons a r => exact ⟨a, r, rfl⟩
    have hm0 : l0 ∈ chL P0 k' := hsub' l0 (by rw [hl0]; simp)
    have g0 : (leastL P0 c w0)[0]? = some l0 := by rw [hl0]; rfl
    obtain ⟨fa, hfa, hfl⟩ := hrs.get g0
    have hhd : (leastL P0 c w0).headD [] = l0 := by rw [hl0]; rfl
    rw [hhd] at k
    have lz := (hch k').sz l0 hm0
    refine ⟨_, rfl, _, _, rfl, .inl (SqL.of hq), (by show 1 ≤ sizeLine; decide), fun D hD' => ?_⟩
    have s3 := Same.new hD' (.lst [.int ((rV rs).length : Int)])
    refine ⟨_, rfl, _, _, _, _, rfl, rfl, SqL.of (s3 _ _ hq), atI_n (i := 0) (rV_at hfa), fa, _, rfl, s3 _ _ hfl, by rw [nV_length]; omega, fun E H4 s4 hE => ?_⟩
    refine ⟨_, _, _, _, rfl, rfl, s4 _ _ upd_same, hE, ?_, fun F hF => ?_⟩
    · rw [cntV_nat, nV_length]
      exact Nat.le_trans (show 1 + (l0.length + 1) ≤ 102 by omega) (by decide)
    · refine k.stay hD (((((s1.trans s2).trans s3).trans s4)).trans (Same.new hF _)) (Same.free (((((s1.trans s2).trans s3).trans s4))) hF) ?_
      rw [upd_same, iV_natI, cntV_nat, rV_length, hrs.len]
      rfl
abbrev s_Desk_answer_joined : Stmt := inClass (top 65) 11
theorem sc_Desk_answer_joined : FnScope ["self", "lines", "holds"] ["self"] (defScope s_Desk_answer_joined) := ⟨rfl, rfl, rfl, by decide +kernel, rfl, by decide +kernel, by decide +kernel⟩
theorem ok_Desk_answer_joined (T : Txt K mg C) : OkM P w K mg base C.dsk 31 "answer_joined" ["self"] (spJoinedA C) := by
  have h_Desk_measure := ok_Desk_measure (P := P) (w := w) (base := base) T
  have h_Measure_is_enough := ok_Measure_is_enough (P := P) (w := w) (base := base) T
  have h_Program_many := ok_Program_many (P := P) (w := w) (base := base) T
  have h_counted := ok_counted (P := P) (w := w) (base := base) T
  have h_joined_lines := ok_joined_lines (P := P) (w := w) (base := base) T
  obtain ⟨f, fd, hm, F, b⟩ := T.m_Desk_answer_joined
  refine ⟨f, fd, hm, b, F.ok sc_Desk_answer_joined (fun vs H Q E h => ?_) (fun cdv A outer s H vs Q E hr h => ?_)⟩
  · obtain ⟨G, d, P, c, w, rfl, _⟩ := h
    rfl
  refine ⟨_, (pss_cons (ps_if (pt_cmpR op_gt (pe_cm0 (pe_fld (pv 0) rfl) T.cl_prg h_Program_many (hr.mono (by decide))) (pe_gi rfl T.c_MOST_FOR_LEAST) (nomark _)) (pss_one (ps_ret (pe_lst (pa_cons (pe_un un_neg pe_int) pa_nil)))) pss_nil)
        (pss_cons (ps_set (i := 1) sc_Desk_answer_joined.nd rfl (Or.inl rfl) (pe_cf h_joined_lines (hr.mono (by decide)) (by rfl) (pa_cons (pe_fld (pv 0) rfl) (pa_cons (pe_fld (pv 0) rfl) (pa_cons (pe_fld (pv 0) rfl) pa_nil)))))
        (pss_cons (ps_set (i := 2) sc_Desk_answer_joined.nd rfl (Or.inl rfl) (pe_ifExp (pt_val (pe_cm (pe_cm0 (pv 0) T.cl_dsk h_Desk_measure (hr.mono (by decide))) T.cl_msr h_Measure_is_enough (hr.mono (by decide)) (pa_cons (pv 1) pa_nil))) pe_int pe_int))
        (pss_one (ps_ret (pe_op op_cat (pe_cf h_counted (hr.mono (by decide)) (by rfl) (pa_cons (pv 1) pa_nil)) (pe_lst (pa_cons (pv 2) pa_nil)))))))), ?_⟩
  obtain ⟨G, d, P0, c, w0, rfl, hD, hOk, k⟩ := h
  obtain ⟨dx, p0, g, pl, h1, h2, h3, h4⟩ := hD.seen
  obtain ⟨dp, ps, ppa, psi, pas, p1, p2, p3, p4, p5⟩ := id h2
  refine ⟨_, rfl, _, _, _, _, _, rfl, h1, T.cl_dsk, T.n_dsk_program, fs_dsk_program, _, _, _, rfl, p1, fs_prg_no_many, p0, dp, ps, _, _, rV pas, rfl, p1, p2, _, _, rfl, rfl, _, rfl, ?_⟩
  rw [rV_length, p5.len]
  refine if_d (fun z => ?_) (fun z => ?_)
  · refine ⟨_, rfl, (by show 1 ≤ sizeLine; decide), fun D hD' => ?_⟩
    have : resJoined P0 c w0 = (P0, w0, [-7]) := by unfold resJoined; rw [if_pos (by omega)]
    rw [this] at k
    exact k.one hD (Same.refl H) hD'
  · have hP10 : P0.length ≤ 10 := by omega
    have : resJoined P0 c w0 = (P0, w0, natI (cnt (joinedL P0 c w0) ++ [if enoughB P0 c w0 (joinedL P0 c w0) = true then 1 else 0])) := by unfold resJoined; rw [if_neg (by omega)]
    rw [this] at k
    have hjl : (∀ n ∈ joinedL P0 c w0, n < P0.length) ∧ (joinedL P0 c w0).length ≤ 10 := by
      unfold joinedL
      refine ⟨fun n hn => List.mem_range.mp (List.mem_filter.mp hn).1, Nat.le_trans (List.length_filter_le _ _) ?_⟩
      rw [List.length_range]
      exact hP10
    refine ⟨_, rfl, _, _, _, _, _, rfl, h1, T.cl_dsk, T.n_dsk_program, fs_dsk_program, _, rfl, _, _, _, _, _, rfl, h1, T.cl_dsk, T.n_dsk_givens, fs_dsk_givens, _, rfl, _, _, _, _, _, rfl, h1, T.cl_dsk, T.n_dsk_places, fs_dsk_places, p0, g, pl, P0, c, w0, rfl, h2, hOk.good, h3, h4, hOk.wish, hOk.ch hP10, fun q _ => hOk.least hP10 _, fun H1 q s1 hq => ?_⟩
    generalize joinedL P0 c w0 = ls at *
    refine nx_go' ?_
    refine sq_asgH (PV := fun u H2 => u = .int ((if enoughB P0 c w0 ls = true then 1 else 0 : Nat) : Int) ∧ Same H1 H2) (fun Q0 q0 => ?_) ?_
    · refine ⟨_, rfl, _, _, _, rfl, (s1 _ _ h1), fs_dsk_no_measure, d, P0, c, w0, rfl, (hD.same s1).see, hOk.good, hOk.wish, fun H2 m s2 hM => ?_⟩
      obtain ⟨dm, p', pl', wn', g1, _⟩ := id hM
      refine ⟨_, _, _, rfl, g1, fs_msr_no_is_enough, _, rfl, m, q, P0, c, w0, ls, rfl, hM, hOk.good, hOk.wish, s2 _ _ hq, hjl.1, by have := hjl.2; omega, fun H3 s3 => ⟨_, rfl, ?_⟩⟩
      refine if_b (fun y => ?_) (fun y => ?_)
      · exact q0 _ _ ⟨by rw [if_pos y]; rfl, s2.trans s3⟩
      · exact q0 _ _ ⟨by rw [if_neg (by rw [y]; decide)]; rfl, s2.trans s3⟩
    · rintro u H2 ⟨rfl, s2⟩
      refine ⟨_, rfl, q, _, rfl, s2 _ _ hq, by rw [nV_length]; omega, fun D H3 s3 hD3 => ?_⟩
      refine ⟨_, rfl, (by show 1 ≤ sizeLine; decide), fun E hE => ?_⟩
      refine ⟨_, _, _, _, rfl, rfl, Same.new hE _ _ _ hD3, upd_same, ?_, fun F hF => ?_⟩
      · rw [cntV_nat, nV_length]
        exact Nat.le_trans (show ls.length + 1 + 1 ≤ 12 by omega) (by decide)
      · refine k.stay hD ((((s1.trans s2).trans s3).trans (Same.new hE _)).trans (Same.new hF _)) (Same.free ((((s1.trans s2).trans s3).trans (Same.new hE _))) hF) ?_
        rw [upd_same, iV_natI, cntV_nat]
        unfold nV cnt
        rw [List.map_append]
        rfl
end
end Ld
end
section
set_option Elab.async false
set_option maxRecDepth 100000
set_option maxHeartbeats 4000000
namespace Ld
open PySem PySem.Spec PyProof.Rows L2 RT
open Vaslca (Text ascii decimal runOf statusNumber valuesAt ends)
open Vaslcf (Wish)
theorem flat_len {α : Type} (f : α → List Nat) (b : Nat) : ∀ (l : List α), (∀ x ∈ l, (f x).length ≤ b) → (l.flatMap f).length ≤ b * l.length
  | [], _ => by simp
  | a :: r, h => by
    have h1 := flat_len f b r fun x hx => h x (List.mem_cons_of_mem _ hx)
    have h2 := h a (by simp)
    rw [List.flatMap_cons, List.length_append, List.length_cons, Nat.mul_add]
    omega
theorem vals_len (x : VRun) (n : Nat) (h : x.steps.length ≤ 120) : (valuesAt x n).length ≤ 120 := by
  unfold Vaslca.valuesAt
  rw [List.length_map]
  exact Nat.le_trans (List.length_filter_le _ _) h
theorem nums_len (x : VRun) (n : Nat) (h : x.steps.length ≤ 120) : (numsAt x n).length ≤ 120 := by
  unfold numsAt
  refine Nat.le_trans (List.length_filter_le _ _) ?_
  rw [List.length_range]
  exact h
theorem nums_lt (x : VRun) (n : Nat) : ∀ j ∈ numsAt x n, j < x.steps.length := fun j hj => List.mem_range.mp (List.mem_filter.mp hj).1
theorem behind_lt (l : List VStep) (k : Nat) : ∀ j ∈ behindL l k, j ≤ k := fun j hj => by
  have := List.mem_range.mp (List.mem_filter.mp hj).1
  omega
theorem behind_len (l : List VStep) (k : Nat) : (behindL l k).length ≤ k + 1 := by
  unfold behindL
  refine Nat.le_trans (List.length_filter_le _ _) ?_
  rw [List.length_range]
  exact Nat.le_refl _
theorem given_at {w : Wish} {i : Int} (h : hasGiven w i = true) : ∃ (m : Nat) (d : List Nat), i = (m : Int) ∧ w.inputs[m]? = some d := by
  unfold hasGiven at h
  rw [Bool.and_eq_true, decide_eq_true_eq, decide_eq_true_eq] at h
  obtain ⟨m, rfl⟩ : ∃ m : Nat, i = (m : Int) := ⟨i.toNat, by omega⟩
  exact ⟨m, _, rfl, List.getElem?_eq_getElem (by omega)⟩
theorem line_at {P : List PL} {n : Int} (h : hasLine P n = true) : ∃ m : Nat, n = (m : Int) ∧ m < P.length := by
  unfold hasLine at h
  rw [Bool.and_eq_true, decide_eq_true_eq, decide_eq_true_eq] at h
  exact ⟨n.toNat, by omega, by omega⟩
theorem runAt_some {c : Vaslca.Code} {w : Wish} {m : Nat} {d : List Nat} (h : w.inputs[m]? = some d) : runAtI c w (m : Int) = runOf c d := by
  unfold runAtI
  rw [Int.toNat_natCast, h]
  rfl
theorem refusal_ok {i n k : Int} {P : List PL} {c : Vaslca.Code} {w : Wish} (h : ¬ refusal i n k P c w < 0) : hasGiven w i = true ∧ hasLine P n = true ∧ 0 ≤ k ∧ k < ((numsAt (runAtI c w i) n.toNat).length : Int) := by
  unfold refusal at h
  split at h
  · split at h
    · split at h
      · rename_i h1 h2 h3
        rw [Bool.and_eq_true, decide_eq_true_eq, decide_eq_true_eq] at h3
        exact ⟨h1, h2, h3⟩
      · exact absurd (by decide) h
    · exact absurd (by decide) h
  · exact absurd (by decide) h
section
variable {P : Program} {w : World} {K : PySem.W.Frag} {mg : Str → Option Value} {base : Heap} {C : Cs}
abbrev s_Desk_answer_rows : Stmt := inClass (top 65) 12
theorem sc_Desk_answer_rows : FnScope ["self", "i", "run", "out", "place"] ["self", "i"] (defScope s_Desk_answer_rows) := ⟨rfl, rfl, rfl, by decide +kernel, rfl, by decide +kernel, by decide +kernel⟩
theorem ok_Desk_answer_rows (T : Txt K mg C) : OkM P w K mg base C.dsk 27 "answer_rows" ["self", "i"] (spRowsA C) := by
  have h_Desk_has_given := ok_Desk_has_given (P := P) (w := w) (base := base) T
  have h_Run_row := ok_Run_row (P := P) (w := w) (base := base) T
  have h_counted := ok_counted (P := P) (w := w) (base := base) T
  have h_run_all := ok_run_all (P := P) (w := w) (base := base) T
  obtain ⟨f, fd, hm, F, b⟩ := T.m_Desk_answer_rows
  refine ⟨f, fd, hm, b, F.ok sc_Desk_answer_rows (fun vs H Q E h => ?_) (fun cdv A outer s H vs Q E hr h => ?_)⟩
  · obtain ⟨G, d, i, P, c, w, rfl, _⟩ := h
    rfl
  refine ⟨_, (pss_cons (ps_if (pt_not (pt_val (pe_cm (pv 0) T.cl_dsk h_Desk_has_given (hr.mono (by decide)) (pa_cons (pv 1) pa_nil)))) (pss_one (ps_ret (pe_lst (pa_cons (pe_un un_neg pe_int) pa_nil)))) pss_nil)
        (pss_cons (ps_set (i := 2) sc_Desk_answer_rows.nd rfl (Or.inl rfl) (pe_cf h_run_all (hr.mono (by decide)) (by rfl) (pa_cons (pe_fld (pv 0) rfl) (pa_cons (pe_ix ix_list (pe_fld (pv 0) rfl) (pv 1) (fun _ _ => rfl)) pa_nil))))
        (pss_cons (ps_set (i := 3) sc_Desk_answer_rows.nd rfl (Or.inl rfl) (pe_lst (pa_cons (pe_fld (pv 2) rfl) pa_nil)))
        (pss_cons (ps_for PassesOwn.never rfl (pi_list (pe_fld (pv 0) rfl)) (pg_name (i := 4) sc_Desk_answer_rows.nd rfl (Or.inl rfl)) (pss_one (ps_expr (pe_bm PySem.F.plainAttrs_list PySem.F.slot_list_extend PySem.F.type_list_extend mt_extend (pv 3) (pa_cons (pe_cf h_counted (hr.mono (by decide)) (by rfl) (pa_cons (pe_cm (pv 2) T.cl_run h_Run_row (hr.mono (by decide)) (pa_cons (pv 4) pa_nil)) pa_nil)) pa_nil)))))
        (pss_one (ps_ret (pv 3))))))), ?_⟩
  obtain ⟨G, d, i, P0, c, w0, rfl, hD, hOk, k⟩ := h
  obtain ⟨dx, p0, g, pl, h1, h2, h3, h4⟩ := hD.seen
  refine ⟨_, rfl, _, _, _, rfl, h1, fs_dsk_no_has_given, _, rfl, d, i, P0, w0, rfl, hD.see, _, rfl, ?_⟩
  cases z : hasGiven w0 i with
  | false =>
    refine if_t rfl ⟨_, rfl, (by show 1 ≤ sizeLine; decide), fun D hD' => ?_⟩
    have : resRows i P0 c w0 = (P0, w0, [-2]) := by unfold resRows; rw [if_neg (by rw [z]; decide)]
    rw [this] at k
    exact k.one hD (Same.refl H) hD'
  | true =>
    refine if_f rfl ?_
    have : resRows i P0 c w0 = (P0, w0, natI (statusNumber (runAtI c w0 i).status :: w0.places.flatMap fun p => cnt (valuesAt (runAtI c w0 i) p))) := by unfold resRows; rw [if_pos z]
    rw [this] at k
    obtain ⟨m, dd, rfl, hm⟩ := given_at z
    rw [runAt_some hm] at k
    obtain ⟨gs, hg1, hg2⟩ := id h3
    obtain ⟨da, hda, hdl⟩ := hg2.get hm
    refine ⟨_, rfl, _, _, _, _, _, rfl, h1, T.cl_dsk, T.n_dsk_program, fs_dsk_program, _, rfl, _, _, _, _, _, rfl, h1, T.cl_dsk, T.n_dsk_givens, fs_dsk_givens, _, rfl, _, _, _, _, rfl, rfl, SqL.of hg1, atI_n (rV_at hda), p0, da, P0, c, dd, rfl, h2, hOk.good, hdl, hOk.wish.inp _ (List.mem_of_getElem? hm), fun H1 r s1 hR => ?_⟩
    obtain ⟨⟨dr, ss, u0, u1, u2, u4, u5, tss, q1, _⟩, ok⟩ := id hR
    have pl3 := hOk.wish.pl
    generalize runOf c dd = x at *
    refine ⟨_, rfl, _, _, _, _, _, rfl, q1, T.cl_run, T.n_run_how, fs_run_how, (by show 1 ≤ sizeLine; decide), fun D hD' => ?_⟩
    have hD1 : H1 D = none := hD'
    have s2 := Same.new hD1 (.lst [.int (statusNumber x.status : Nat)])
    have s12 := s1.trans s2
    refine ⟨_, rfl, _, _, _, _, _, rfl, (s12 _ _ h1), T.cl_dsk, T.n_dsk_places, fs_dsk_places, pl, rfl, ⟨_, SqL.of (s12 _ _ h4)⟩, for_list (K := K) (a := pl) (xs := nV w0.places) (fun j σ H' => ∃ v, σ = [some (.ref d), some (.int (m : Int)), some (.ref r), some (.ref D), v] ∧ Same H1 H' ∧ H' D = some (.lst (nV (statusNumber x.status :: (w0.places.take j).flatMap fun p => cnt (valuesAt x p)))))
      ⟨none, rfl, s2, upd_same⟩ (fun j σ H' _ ⟨_, _, s3, _⟩ => SqL.of (s3 _ _ (s1 _ _ h4))) ?_ ?_⟩
    · rintro j y σ H' hy ⟨v, rfl, s3, hDl⟩
      obtain ⟨q, hq, rfl⟩ := nV_get hy
      have hj : j < 3 := Nat.lt_of_lt_of_le (List.getElem?_eq_some_iff.mp hq).1 pl3
      refine ⟨_, rfl, .inl ⟨rfl, _, SqL.of hDl⟩, _, rfl, _, _, _, rfl, (s3 _ _ q1), fs_run_no_row, _, rfl, r, q, x, rfl, hR.same s3, fun R hRn => ?_⟩
      have hv := vals_len x q ok.len
      refine ⟨R, _, rfl, upd_same, by rw [nV_length]; omega, fun E H4 s4 hE => ?_⟩
      have s5 := (Same.new hRn (.lst (nV (valuesAt x q)))).trans s4
      have fl := flat_len (fun p => cnt (valuesAt x p)) 121 (w0.places.take j) (fun p _ => by
        have := vals_len x p ok.len
        show (valuesAt x p).length + 1 ≤ 121
        omega)
      rw [List.length_take] at fl
      refine ⟨_, _, _, _, rfl, rfl, s5 _ _ hDl, hE, ?_, ?_⟩
      · rw [cntV_nat, nV_length, nV_length, List.length_cons, List.length_cons]
        exact Nat.le_trans (show _ ≤ 1000 by omega) (by decide)
      · refine ⟨_, rfl, (s3.trans s5).put hD1 _, ?_⟩
        rw [upd_same, cntV_nat, take_more hq, List.flatMap_append]
        unfold nV cnt
        rw [← List.map_append]
        simp
    · rintro σ H' ⟨v, rfl, s3, hDl⟩
      rw [nV_length, List.take_length] at hDl
      refine ⟨_, rfl, k.stay hD (s1.trans s3) (s1.free hD1) ?_⟩
      rw [hDl, iV_natI]
abbrev s_Desk_refuse_value : Stmt := inClass (top 65) 13
theorem sc_Desk_refuse_value : FnScope ["self", "i", "line", "k", "run"] ["self", "i", "line", "k"] (defScope s_Desk_refuse_value) := ⟨rfl, rfl, rfl, by decide +kernel, rfl, by decide +kernel, by decide +kernel⟩
theorem ok_Desk_refuse_value (T : Txt K mg C) : OkM P w K mg base C.dsk 27 "refuse_value" ["self", "i", "line", "k"] (spRefuse C) := by
  have h_Desk_has_given := ok_Desk_has_given (P := P) (w := w) (base := base) T
  have h_Desk_has_line := ok_Desk_has_line (P := P) (w := w) (base := base) T
  have h_Run_numbers_at := ok_Run_numbers_at (P := P) (w := w) (base := base) T
  have h_run_all := ok_run_all (P := P) (w := w) (base := base) T
  obtain ⟨f, fd, hm, F, b⟩ := T.m_Desk_refuse_value
  refine ⟨f, fd, hm, b, F.ok sc_Desk_refuse_value (fun vs H Q E h => ?_) (fun cdv A outer s H vs Q E hr h => ?_)⟩
  · obtain ⟨d, i, n, k, P, c, w, rfl, _⟩ := h
    rfl
  refine ⟨_, (pss_cons (ps_if (pt_not (pt_val (pe_cm (pv 0) T.cl_dsk h_Desk_has_given (hr.mono (by decide)) (pa_cons (pv 1) pa_nil)))) (pss_one (ps_ret (pe_un un_neg pe_int))) pss_nil)
        (pss_cons (ps_if (pt_not (pt_val (pe_cm (pv 0) T.cl_dsk h_Desk_has_line (hr.mono (by decide)) (pa_cons (pv 2) pa_nil)))) (pss_one (ps_ret (pe_un un_neg pe_int))) pss_nil)
        (pss_cons (ps_set (i := 4) sc_Desk_refuse_value.nd rfl (Or.inl rfl) (pe_cf h_run_all (hr.mono (by decide)) (by rfl) (pa_cons (pe_fld (pv 0) rfl) (pa_cons (pe_ix ix_list (pe_fld (pv 0) rfl) (pv 1) (fun _ _ => rfl)) pa_nil))))
        (pss_cons (ps_if (pt_not (pt_chain op_le op_lt pe_int (pv 3) (pe_callB call_len_seq (by rfl) T.len PySem.boot_len (pa_cons (pe_cm (pv 4) T.cl_run h_Run_numbers_at (hr.mono (by decide)) (pa_cons (pv 2) pa_nil)) pa_nil)))) (pss_one (ps_ret (pe_un un_neg pe_int))) pss_nil)
        (pss_one (ps_ret pe_int)))))), ?_⟩
  obtain ⟨d, i, n, k', P0, c, w0, rfl, hD, hOk, k⟩ := h
  obtain ⟨dx, p0, g, pl, h1, h2, h3, h4⟩ := hD.seen
  refine ⟨_, rfl, _, _, _, rfl, h1, fs_dsk_no_has_given, _, rfl, d, i, P0, w0, rfl, hD, _, rfl, ?_⟩
  cases z : hasGiven w0 i with
  | false =>
    have : refusal i n k' P0 c w0 = -2 := by unfold refusal; rw [if_neg (by rw [z]; decide)]
    rw [this] at k
    exact if_t rfl ⟨_, rfl, k H (Same.refl H)⟩
  | true =>
    refine if_f rfl ?_
    refine ⟨_, rfl, _, _, _, rfl, h1, fs_dsk_no_has_line, _, rfl, d, n, P0, w0, rfl, hD, _, rfl, ?_⟩
    cases z2 : hasLine P0 n with
    | false =>
      have : refusal i n k' P0 c w0 = -3 := by unfold refusal; rw [if_pos z, if_neg (by rw [z2]; decide)]
      rw [this] at k
      exact if_t rfl ⟨_, rfl, k H (Same.refl H)⟩
    | true =>
      refine if_f rfl ?_
      have rf : refusal i n k' P0 c w0 = if (decide (0 ≤ k') && decide (k' < ((numsAt (runAtI c w0 i) n.toNat).length : Int))) = true then 0 else -5 := by unfold refusal; rw [if_pos z, if_pos z2]
      rw [rf] at k
      obtain ⟨m, dd, rfl, hm⟩ := given_at z
      obtain ⟨n, rfl, hn⟩ := line_at z2
      rw [runAt_some hm] at k
      obtain ⟨gs, hg1, hg2⟩ := id h3
      obtain ⟨da, hda, hdl⟩ := hg2.get hm
      refine ⟨_, rfl, _, _, _, _, _, rfl, h1, T.cl_dsk, T.n_dsk_program, fs_dsk_program, _, rfl, _, _, _, _, _, rfl, h1, T.cl_dsk, T.n_dsk_givens, fs_dsk_givens, _, rfl, _, _, _, _, rfl, rfl, SqL.of hg1, atI_n (rV_at hda), p0, da, P0, c, dd, rfl, h2, hOk.good, hdl, hOk.wish.inp _ (List.mem_of_getElem? hm), fun H1 r s1 hR => ?_⟩
      obtain ⟨⟨dr, ss, u0, u1, u2, u4, u5, tss, q1, _⟩, ok⟩ := id hR
      generalize runOf c dd = x at *
      rw [Int.toNat_natCast] at k
      refine ⟨_, rfl, _, _, rfl, rfl, _, rfl, ?_⟩
      by_cases y : 0 ≤ k'
      · rw [decide_eq_true y, Bool.true_and] at k
        refine ite2 (fun _ => ?_) (fun e => absurd (decide_eq_true y) e)
        refine ⟨_, rfl, _, _, _, rfl, q1, fs_run_no_numbers_at, _, rfl, r, n, x, rfl, hR, fun D hD' => ?_⟩
        refine ⟨_, _, rfl, .inl (SqL.of upd_same), _, _, rfl, rfl, _, rfl, ?_⟩
        rw [nV_length]
        by_cases y2 : k' < ((numsAt x n).length : Int)
        · rw [if_pos (decide_eq_true y2)] at k
          refine if_f (by rw [decide_eq_true y2]; rfl) ?_
          exact k _ (s1.trans (Same.new hD' _))
        · rw [if_neg (by rw [decide_eq_false y2]; decide)] at k
          refine if_t (by rw [decide_eq_false y2]; rfl) ?_
          exact ⟨_, rfl, k _ (s1.trans (Same.new hD' _))⟩
      · rw [decide_eq_false y, Bool.false_and, if_neg (by decide)] at k
        refine ite2 (fun e => absurd (of_decide_eq_true e) y) (fun _ => ?_)
        refine ⟨_, rfl, ?_⟩
        exact if_t rfl ⟨_, rfl, k _ s1⟩
abbrev s_Desk_answer_size : Stmt := inClass (top 65) 16
theorem sc_Desk_answer_size : FnScope ["self", "ending", "data"] ["self"] (defScope s_Desk_answer_size) := ⟨rfl, rfl, rfl, by decide +kernel, rfl, by decide +kernel, by decide +kernel⟩
theorem ok_Desk_answer_size (T : Txt K mg C) : OkM P w K mg base C.dsk 27 "answer_size" ["self"] (spSizeA C) := by
  have h_Program_many := ok_Program_many (P := P) (w := w) (base := base) T
  have h_run_all := ok_run_all (P := P) (w := w) (base := base) T
  obtain ⟨f, fd, hm, F, b⟩ := T.m_Desk_answer_size
  refine ⟨f, fd, hm, b, F.ok sc_Desk_answer_size (fun vs H Q E h => ?_) (fun cdv A outer s H vs Q E hr h => ?_)⟩
  · obtain ⟨G, d, P, c, w, rfl, _⟩ := h
    rfl
  refine ⟨_, (pss_cons (ps_set (i := 1) sc_Desk_answer_size.nd rfl (Or.inl rfl) pe_int)
        (pss_cons (ps_for PassesOwn.never rfl (pi_list (pe_fld (pv 0) rfl)) (pg_name (i := 2) sc_Desk_answer_size.nd rfl (Or.inl rfl)) (pss_one (ps_if (pt_cmpR op_ne (pe_fld (pe_cf h_run_all (hr.mono (by decide)) (by rfl) (pa_cons (pe_fld (pv 0) rfl) (pa_cons (pv 2) pa_nil))) rfl) (pe_gi rfl T.c_LONG) (nomark _)) (pss_one (ps_aug (i := 1) sc_Desk_answer_size.nd rfl (Or.inl rfl) pe_int ip_add)) pss_nil)))
        (pss_one (ps_ret (pe_lst (pa_cons (pe_cm0 (pe_fld (pv 0) rfl) T.cl_prg h_Program_many (hr.mono (by decide))) (pa_cons (pe_callB call_len_seq (by rfl) T.len PySem.boot_len (pa_cons (pe_fld (pv 0) rfl) pa_nil)) (pa_cons (pe_callB call_len_seq (by rfl) T.len PySem.boot_len (pa_cons (pe_fld (pv 0) rfl) pa_nil)) (pa_cons (pv 1) pa_nil))))))))), ?_⟩
  obtain ⟨G, d, P0, c, w0, rfl, hD, hOk, k⟩ := h
  obtain ⟨dx, p0, g, pl, h1, h2, h3, h4⟩ := hD.seen
  obtain ⟨gs, hg1, hg2⟩ := id h3
  refine ⟨_, rfl, _, _, _, _, _, rfl, h1, T.cl_dsk, T.n_dsk_givens, fs_dsk_givens, g, rfl, ⟨_, SqL.of hg1⟩, for_list (K := K) (a := g) (xs := rV gs) (fun j σ H' => ∃ v, σ = [some (.ref d), some (.int ((((w0.inputs.take j).filter fun i => ends (runOf c i)).length : Nat) : Int)), v] ∧ Same H H')
    ⟨none, rfl, Same.refl H⟩ (fun j σ H' _ ⟨_, _, s3⟩ => SqL.of (s3 _ _ hg1)) ?_ ?_⟩
  · rintro j y σ H' hy ⟨v, rfl, s1⟩
    obtain ⟨da, hda, rfl⟩ := rV_get hy
    obtain ⟨dd, hdd, hdl⟩ := hg2.get' hda
    refine ⟨_, rfl, _, _, _, _, _, rfl, (s1 _ _ h1), T.cl_dsk, T.n_dsk_program, fs_dsk_program, _, rfl, p0, da, P0, c, dd, rfl, h2.same s1, hOk.good, s1 _ _ hdl, hOk.wish.inp _ (List.mem_of_getElem? hdd), fun H2 r s2 hR => ?_⟩
    obtain ⟨⟨dr, ss, u0, u1, u2, u4, u5, tss, q1, _⟩, ok⟩ := id hR
    refine ⟨_, _, _, _, _, rfl, q1, T.cl_run, T.n_run_how, fs_run_how, rfl, _, rfl, ?_⟩
    have dl : decide (V.int (statusNumber (runOf c dd).status : Nat) = V.int 2) = !ends (runOf c dd) := by
      unfold Vaslca.ends
      cases (runOf c dd).status <;> decide
    rw [dl, Bool.not_not]
    have st : ((w0.inputs.take (j + 1)).filter fun i => ends (runOf c i)).length = ((w0.inputs.take j).filter fun i => ends (runOf c i)).length + (if ends (runOf c dd) = true then 1 else 0) := by
      rw [take_more hdd, List.filter_append, List.length_append]
      by_cases z : ends (runOf c dd) = true
      · simp [z]
      · simp [z]
    refine if_b (fun z => ?_) (fun z => ?_)
    · rw [if_pos z] at st
      refine ⟨_, rfl, _, _, rfl, rfl, ?_⟩
      refine ⟨some (.ref da), ?_, s1.trans s2⟩
      rw [st]
      rfl
    · rw [if_neg (by rw [z]; decide)] at st
      refine ⟨some (.ref da), ?_, s1.trans s2⟩
      rw [st]
      rfl
  · rintro σ H' ⟨v, rfl, s1⟩
    rw [rV_length, hg2.len, List.take_length]
    obtain ⟨dp, ps, ppa, psi, pas, p1, p2, p3, p4, p5⟩ := id (h2.same s1)
    refine ⟨_, rfl, _, _, _, _, _, rfl, (s1 _ _ h1), T.cl_dsk, T.n_dsk_program, fs_dsk_program, _, _, _, rfl, p1, fs_prg_no_many, p0, dp, ps, _, _, rV pas, rfl, p1, p2, _, rfl, _, _, _, _, _, rfl, (s1 _ _ h1), T.cl_dsk, T.n_dsk_givens, fs_dsk_givens, _, _, rfl, .inl (SqL.of (s1 _ _ hg1)), _, rfl, _, _, _, _, _, rfl, (s1 _ _ h1), T.cl_dsk, T.n_dsk_places, fs_dsk_places, _, _, rfl, .inl (SqL.of (s1 _ _ h4)), _, rfl, (by show 4 ≤ sizeLine; decide), fun D hD' => ?_⟩
    refine k.stay hD (s1.trans (Same.new hD' _)) (Same.free (s1) hD') ?_
    rw [upd_same, rV_length, p5.len, rV_length, hg2.len, nV_length]
    rfl
abbrev s_Desk_answer_explain : Stmt := inClass (top 65) 14
theorem sc_Desk_answer_explain : FnScope ["self", "i", "line", "k", "refusal", "run", "numbers", "out", "number"] ["self", "i", "line", "k"] (defScope s_Desk_answer_explain) := ⟨rfl, rfl, rfl, by decide +kernel, rfl, by decide +kernel, by decide +kernel⟩
theorem ok_Desk_answer_explain (T : Txt K mg C) : OkM P w K mg base C.dsk 28 "answer_explain" ["self", "i", "line", "k"] (spExplainA C) := by
  have h_Desk_refuse_value := ok_Desk_refuse_value (P := P) (w := w) (base := base) T
  have h_Run_numbers_at := ok_Run_numbers_at (P := P) (w := w) (base := base) T
  have h_counted := ok_counted (P := P) (w := w) (base := base) T
  have h_in_words := ok_in_words (P := P) (w := w) (base := base) T
  have h_run_all := ok_run_all (P := P) (w := w) (base := base) T
  have h_steps_behind := ok_steps_behind (P := P) (w := w) (base := base) T
  obtain ⟨f, fd, hm, F, b⟩ := T.m_Desk_answer_explain
  refine ⟨f, fd, hm, b, F.ok sc_Desk_answer_explain (fun vs H Q E h => ?_) (fun cdv A outer s H vs Q E hr h => ?_)⟩
  · obtain ⟨G, d, i, n, k, P, c, w, rfl, _⟩ := h
    rfl
  refine ⟨_, (pss_cons (ps_set (i := 4) sc_Desk_answer_explain.nd rfl (Or.inl rfl) (pe_cm (pv 0) T.cl_dsk h_Desk_refuse_value (hr.mono (by decide)) (pa_cons (pv 1) (pa_cons (pv 2) (pa_cons (pv 3) pa_nil)))))
        (pss_cons (ps_if (pt_cmpR op_lt (pv 4) pe_int (nomark _)) (pss_one (ps_ret (pe_lst (pa_cons (pv 4) pa_nil)))) pss_nil)
        (pss_cons (ps_set (i := 5) sc_Desk_answer_explain.nd rfl (Or.inl rfl) (pe_cf h_run_all (hr.mono (by decide)) (by rfl) (pa_cons (pe_fld (pv 0) rfl) (pa_cons (pe_ix ix_list (pe_fld (pv 0) rfl) (pv 1) (fun _ _ => rfl)) pa_nil))))
        (pss_cons (ps_set (i := 6) sc_Desk_answer_explain.nd rfl (Or.inl rfl) (pe_cf h_steps_behind (hr.mono (by decide)) (by rfl) (pa_cons (pe_fld (pv 5) rfl) (pa_cons (pe_ix ix_list (pe_cm (pv 5) T.cl_run h_Run_numbers_at (hr.mono (by decide)) (pa_cons (pv 2) pa_nil)) (pv 3) (fun _ _ => rfl)) pa_nil))))
        (pss_cons (ps_set (i := 7) sc_Desk_answer_explain.nd rfl (Or.inl rfl) (pe_lst (pa_cons (pe_callB call_len_seq (by rfl) T.len PySem.boot_len (pa_cons (pv 6) pa_nil)) pa_nil)))
        (pss_cons (ps_for PassesOwn.never rfl (pi_list (pv 6)) (pg_name (i := 8) sc_Desk_answer_explain.nd rfl (Or.inl rfl)) (pss_one (ps_expr (pe_bm PySem.F.plainAttrs_list PySem.F.slot_list_extend PySem.F.type_list_extend mt_extend (pv 7) (pa_cons (pe_cf h_counted (hr.mono (by decide)) (by rfl) (pa_cons (pe_cf h_in_words (hr.mono (by decide)) (by rfl) (pa_cons (pe_fld (pv 0) rfl) (pa_cons (pe_ix ix_list (pe_fld (pv 5) rfl) (pv 8) (fun _ _ => rfl)) pa_nil))) pa_nil)) pa_nil)))))
        (pss_one (ps_ret (pv 7))))))))), ?_⟩
  obtain ⟨G, d, i, n, k', P0, c, w0, rfl, hD, hOk, k⟩ := h
  obtain ⟨dx, p0, g, pl, h1, h2, h3, h4⟩ := hD.seen
  refine ⟨_, rfl, _, _, _, rfl, h1, fs_dsk_no_refuse_value, _, rfl, _, rfl, _, rfl, d, i, n, k', P0, c, w0, rfl, hD.see, hOk, fun H1 s1 => ?_⟩
  refine ⟨_, rfl, _, _, rfl, rfl, _, rfl, ?_⟩
  refine if_d (fun z => ?_) (fun z => ?_)
  · refine ⟨_, rfl, (by show 1 ≤ sizeLine; decide), fun D hD' => ?_⟩
    have : resExplain i n k' P0 c w0 = (P0, w0, [refusal i n k' P0 c w0]) := by unfold resExplain; rw [if_pos z]
    rw [this] at k
    exact k.one hD s1 hD'
  · have : resExplain i n k' P0 c w0 = (P0, w0, natI ((behindAt c w0 i n k').length :: (behindAt c w0 i n k').flatMap (saidL P0 (runAtI c w0 i)))) := by unfold resExplain; rw [if_neg z]
    rw [this] at k
    obtain ⟨r1, r2, r3, r4⟩ := refusal_ok z
    obtain ⟨m, dd, rfl, hm⟩ := given_at r1
    obtain ⟨n, rfl, hn⟩ := line_at r2
    obtain ⟨kk, rfl⟩ : ∃ kk : Nat, k' = (kk : Int) := ⟨k'.toNat, by omega⟩
    unfold behindAt at k
    rw [runAt_some hm] at k r4
    rw [Int.toNat_natCast] at r4
    rw [Int.toNat_natCast, Int.toNat_natCast] at k
    obtain ⟨gs, hg1, hg2⟩ := id h3
    obtain ⟨da, hda, hdl⟩ := hg2.get hm
    refine ⟨_, rfl, _, _, _, _, _, rfl, (s1 _ _ h1), T.cl_dsk, T.n_dsk_program, fs_dsk_program, _, rfl, _, _, _, _, _, rfl, (s1 _ _ h1), T.cl_dsk, T.n_dsk_givens, fs_dsk_givens, _, rfl, _, _, _, _, rfl, rfl, SqL.of (s1 _ _ hg1), atI_n (rV_at hda), p0, da, P0, c, dd, rfl, h2.same s1, hOk.good, s1 _ _ hdl, hOk.wish.inp _ (List.mem_of_getElem? hm), fun H2 r s2 hR => ?_⟩
    obtain ⟨⟨dr, ss, u0, u1, u2, u4, u5, tss, q1, q2, q3⟩, ok⟩ := id hR
    have hstp := hOk.stp dd
    generalize runOf c dd = x at *
    have xl := ok.len
    obtain ⟨num, hnum⟩ : ∃ num, (numsAt x n)[kk]? = some num := ⟨_, List.getElem?_eq_getElem (by omega)⟩
    have hnl := nums_lt x n num (List.mem_of_getElem? hnum)
    rw [hnum] at k
    refine ⟨_, rfl, _, _, _, _, _, rfl, q1, T.cl_run, T.n_run_steps, fs_run_steps, _, rfl, _, _, _, rfl, q1, fs_run_no_numbers_at, _, rfl, r, n, x, rfl, hR, fun N hN => ?_⟩
    have s3 := Same.new hN (.lst (nV (numsAt x n)))
    refine ⟨_, rfl, _, _, _, _, rfl, rfl, SqL.of upd_same, atI_n (x := V.int (num : Int)) (show (nV (numsAt x n))[kk]? = some (V.int (num : Int)) by unfold nV; rw [List.getElem?_map, hnum]; rfl), ss, num, tss, x.steps, rfl, s3 _ _ q2, q3.mono (fun a q => StepAt.same s3), ok.src, hnl, xl, fun H3 q s4 hq => ?_⟩
    have s14 := ((s1.trans s2).trans s3).trans s4
    have hb1 := behind_len x.steps num
    have hb2 := behind_lt x.steps num
    have k2 : AnsTo G C d H Q (P0, w0, natI ((behindL x.steps num).length :: (behindL x.steps num).flatMap (saidL P0 x))) := k
    clear k
    generalize behindL x.steps num = ns at *
    refine ⟨_, rfl, _, _, rfl, .inl (SqL.of hq), (by show 1 ≤ sizeLine; decide), fun D hD' => ?_⟩
    have s5 := Same.new hD' (.lst [.int ((nV ns).length : Int)])
    refine ⟨_, rfl, q, rfl, ⟨_, SqL.of (s5 _ _ hq)⟩, for_list (K := K) (a := q) (xs := nV ns) (fun j σ H' => ∃ v, σ = [some (.ref d), some (.int (m : Int)), some (.int (n : Int)), some (.int (kk : Int)), some (.int (refusal m n kk P0 c w0)), some (.ref r), some (.ref q), some (.ref D), v] ∧ Same H3 H' ∧ H' D = some (.lst (nV (ns.length :: (ns.take j).flatMap (saidL P0 x)))))
      ⟨none, rfl, s5, by rw [upd_same, nV_length]; rfl⟩ (fun j σ H' _ ⟨_, _, s6, _⟩ => SqL.of (s6 _ _ hq)) ?_ ?_⟩
    · rintro j y σ H' hy ⟨v, rfl, s6, hDl⟩
      obtain ⟨at', hat, rfl⟩ := nV_get hy
      have hal := hb2 at' (List.mem_of_getElem? hat)
      have hjl := (List.getElem?_eq_some_iff.mp hat).1
      obtain ⟨st, hst⟩ : ∃ st, x.steps[at']? = some st := ⟨_, List.getElem?_eq_getElem (by omega)⟩
      have hstm := List.mem_of_getElem? hst
      have hsl := hstp st hstm
      obtain ⟨l, hl⟩ : ∃ l, P0[st.line]? = some l := ⟨_, List.getElem?_eq_getElem hsl⟩
      have htx := hOk.txt l (List.mem_of_getElem? hl)
      have s26 := (s3.trans s4).trans s6
      have s16 := s14.trans s6
      obtain ⟨ta, hta, f, fs, t1, t2, t3⟩ := q3.get hst
      have hv := ok.val st hstm
      obtain ⟨c1, c2, c3⟩ := dec_codes ⟨st.value, by omega⟩
      dsimp only at c3
      have said : saidL P0 x at' = cntT (l.head.text ++ (ascii " gives " ++ decimal st.value)) := by unfold saidL; rw [hst]; dsimp only; rw [hl]
      have saidn : ∀ a ∈ ns.take j, (saidL P0 x a).length ≤ 1011 := fun a _ => by
        unfold saidL
        cases e : x.steps[a]? with
        | none => exact Nat.zero_le _
        | some s' =>
          dsimp only
          have hm' := List.mem_of_getElem? e
          have hs' := hstp s' hm'
          cases e2 : P0[s'.line]? with
          | none => exact Nat.zero_le _
          | some l' =>
            dsimp only
            have h5 := hOk.txt l' (List.mem_of_getElem? e2)
            obtain ⟨_, _, c3'⟩ := dec_codes ⟨s'.value, by have := ok.val s' hm'; omega⟩
            dsimp only at c3'
            unfold cntT
            rw [List.length_cons, List.length_map, List.length_append, List.length_append]
            have : (ascii " gives ").length = 7 := by decide +kernel
            omega
      have fl := flat_len (saidL P0 x) 1011 (ns.take j) saidn
      rw [List.length_take] at fl
      have g7 : (ascii " gives ").length = 7 := by decide +kernel
      refine ⟨_, rfl, .inl ⟨rfl, _, SqL.of hDl⟩, _, rfl, _, _, _, _, _, rfl, (s16 _ _ h1), T.cl_dsk, T.n_dsk_program, fs_dsk_program, _, rfl, _, _, _, _, _, rfl, (s26 _ _ q1), T.cl_run, T.n_run_steps, fs_run_steps, _, rfl, _, _, _, _, rfl, rfl, SqL.of (s26 _ _ q2), atI_n (rV_at hta), p0, ta, f, P0, st.line, st.value, l, rfl, h2.same s16, hl, htx, hv, s26 _ _ t1, fun H4 W s7 hW => ?_⟩
      refine ⟨W, _, rfl, hW, ?_, fun E H5 s8 hE => ?_⟩
      · rw [bV_length, List.length_append, List.length_append]
        omega
      refine ⟨_, _, _, _, rfl, rfl, s8 _ _ (s7 _ _ hDl), hE, ?_, ?_⟩
      · rw [cntV_bytes, nV_length, nV_length, List.length_cons, List.length_cons, List.length_map, List.length_append, List.length_append]
        exact Nat.le_trans (show _ ≤ 1000000 by omega) (by decide)
      · refine ⟨_, rfl, (s6.trans (s7.trans s8)).put hD' _, ?_⟩
        rw [upd_same, cntV_bytes, take_more hat, List.flatMap_append]
        unfold nV
        rw [← List.map_append]
        simp [said, cntT]
    · rintro σ H' ⟨v, rfl, s6, hDl⟩
      rw [nV_length, List.take_length] at hDl
      refine ⟨_, rfl, k2.stay hD (s14.trans s6) (s14.free hD') ?_⟩
      rw [hDl, iV_natI]
abbrev s_Desk_answer_chain : Stmt := inClass (top 65) 15
theorem sc_Desk_answer_chain : FnScope ["self", "i", "line", "k", "refusal", "run", "numbers", "touched", "lines", "number", "other"] ["self", "i", "line", "k"] (defScope s_Desk_answer_chain) := ⟨rfl, rfl, rfl, by decide +kernel, rfl, by decide +kernel, by decide +kernel⟩
theorem ok_Desk_answer_chain (T : Txt K mg C) : OkM P w K mg base C.dsk 28 "answer_chain" ["self", "i", "line", "k"] (spChainA C) := by
  have h_Desk_refuse_value := ok_Desk_refuse_value (P := P) (w := w) (base := base) T
  have h_Program_many := ok_Program_many (P := P) (w := w) (base := base) T
  have h_Run_numbers_at := ok_Run_numbers_at (P := P) (w := w) (base := base) T
  have h_counted := ok_counted (P := P) (w := w) (base := base) T
  have h_run_all := ok_run_all (P := P) (w := w) (base := base) T
  have h_steps_behind := ok_steps_behind (P := P) (w := w) (base := base) T
  obtain ⟨f, fd, hm, F, b⟩ := T.m_Desk_answer_chain
  refine ⟨f, fd, hm, b, F.ok sc_Desk_answer_chain (fun vs H Q E h => ?_) (fun cdv A outer s H vs Q E hr h => ?_)⟩
  · obtain ⟨G, d, i, n, k, P, c, w, rfl, _⟩ := h
    rfl
  refine ⟨_, (pss_cons (ps_set (i := 4) sc_Desk_answer_chain.nd rfl (Or.inl rfl) (pe_cm (pv 0) T.cl_dsk h_Desk_refuse_value (hr.mono (by decide)) (pa_cons (pv 1) (pa_cons (pv 2) (pa_cons (pv 3) pa_nil)))))
        (pss_cons (ps_if (pt_cmpR op_lt (pv 4) pe_int (nomark _)) (pss_one (ps_ret (pe_lst (pa_cons (pv 4) pa_nil)))) pss_nil)
        (pss_cons (ps_set (i := 5) sc_Desk_answer_chain.nd rfl (Or.inr rfl) (pe_cf h_run_all (hr.mono (by decide)) (by rfl) (pa_cons (pe_fld (pv 0) rfl) (pa_cons (pe_ix ix_list (pe_fld (pv 0) rfl) (pv 1) (fun _ _ => rfl)) pa_nil))))
        (pss_cons (ps_set (i := 6) sc_Desk_answer_chain.nd rfl (Or.inl rfl) (pe_cf h_steps_behind (hr.mono (by decide)) (by rfl) (pa_cons (pe_fld (pv 5) rfl) (pa_cons (pe_ix ix_list (pe_cm (pv 5) T.cl_run h_Run_numbers_at (hr.mono (by decide)) (pa_cons (pv 2) pa_nil)) (pv 3) (fun _ _ => rfl)) pa_nil))))
        (pss_cons (ps_set (i := 7) sc_Desk_answer_chain.nd rfl (Or.inr rfl) (pe_lc (own := [("number", 9)]) (g := gName 9) rfl sc_Desk_answer_chain.nd (pi_list (pv 6)) (blkOk_by (own := [("number", 9)]) (N := ["self", "i", "line", "k", "refusal", "run", "numbers", "touched", "lines", "number", "other"]) (sc := defScope s_Desk_answer_chain) (by decide +kernel)) (fun _ _ _ _ _ => pg_name (i := 9) sc_Desk_answer_chain.nd rfl (Or.inl rfl)) (fun _ _ _ _ _ => pts_nil) (fun _ _ _ _ _ => (pe_ix (ix_tupK (K := K) rfl) (pe_ix (ix_listK (K := K) rfl) (pe_fldK (K := K) (pv 5) rfl rfl) (pv 9) (fun _ _ => rfl)) pe_int (fun _ _ => rfl)))))
        (pss_cons (ps_setLc (i := 8) (own := [("other", 10)]) (g := gName 10) rfl sc_Desk_answer_chain.nd rfl rfl (sw_true rfl rfl rfl (by decide +kernel)) (pi_range1 (by rfl) T.range (pa_cons (pe_cm0 (pe_fld (pv 0) rfl) T.cl_prg h_Program_many (hr.mono (by decide))) pa_nil)) (blkOk_by (own := [("other", 10)]) (N := ["self", "i", "line", "k", "refusal", "run", "numbers", "touched", "lines", "number", "other"]) (sc := defScope s_Desk_answer_chain) (by decide +kernel)) (fun _ _ _ _ _ => pg_name (i := 10) sc_Desk_answer_chain.nd rfl (Or.inl rfl)) (fun _ _ _ _ _ => (pts_one (pt_cmpR (op_in_seqK (K := K) rfl) (pv 10) (pv 7) (by rfl)))) (fun _ _ _ _ _ => (pv 10)))
        (pss_one (ps_ret (pe_op op_cat (pe_cf h_counted (hr.mono (by decide)) (by rfl) (pa_cons (pv 6) pa_nil)) (pe_cf h_counted (hr.mono (by decide)) (by rfl) (pa_cons (pv 8) pa_nil))))))))))), ?_⟩
  obtain ⟨G, d, i, n, k', P0, c, w0, rfl, hD, hOk, k⟩ := h
  obtain ⟨dx, p0, g, pl, h1, h2, h3, h4⟩ := hD.seen
  refine ⟨_, rfl, _, _, _, rfl, h1, fs_dsk_no_refuse_value, _, rfl, _, rfl, _, rfl, d, i, n, k', P0, c, w0, rfl, hD.see, hOk, fun H1 s1 => ?_⟩
  refine ⟨_, rfl, _, _, rfl, rfl, _, rfl, ?_⟩
  refine if_d (fun z => ?_) (fun z => ?_)
  · refine ⟨_, rfl, (by show 1 ≤ sizeLine; decide), fun D hD' => ?_⟩
    have : resChain i n k' P0 c w0 = (P0, w0, [refusal i n k' P0 c w0]) := by unfold resChain; rw [if_pos z]
    rw [this] at k
    exact k.one hD s1 hD'
  · have : resChain i n k' P0 c w0 = (P0, w0, natI (cnt (behindAt c w0 i n k') ++ cnt ((List.range P0.length).filter fun m => (behindAt c w0 i n k').any fun j => ((runAtI c w0 i).steps[j]?).any fun s => s.line == m))) := by unfold resChain; rw [if_neg z]
    rw [this] at k
    obtain ⟨r1, r2, r3, r4⟩ := refusal_ok z
    obtain ⟨m, dd, rfl, hm⟩ := given_at r1
    obtain ⟨n, rfl, hn⟩ := line_at r2
    obtain ⟨kk, rfl⟩ : ∃ kk : Nat, k' = (kk : Int) := ⟨k'.toNat, by omega⟩
    unfold behindAt at k
    rw [runAt_some hm] at k r4
    rw [Int.toNat_natCast] at r4
    rw [Int.toNat_natCast, Int.toNat_natCast] at k
    obtain ⟨gs, hg1, hg2⟩ := id h3
    obtain ⟨da, hda, hdl⟩ := hg2.get hm
    refine ⟨_, rfl, _, _, _, _, _, rfl, (s1 _ _ h1), T.cl_dsk, T.n_dsk_program, fs_dsk_program, _, rfl, _, _, _, _, _, rfl, (s1 _ _ h1), T.cl_dsk, T.n_dsk_givens, fs_dsk_givens, _, rfl, _, _, _, _, rfl, rfl, SqL.of (s1 _ _ hg1), atI_n (rV_at hda), p0, da, P0, c, dd, rfl, h2.same s1, hOk.good, s1 _ _ hdl, hOk.wish.inp _ (List.mem_of_getElem? hm), fun H2 r s2 hR => ?_⟩
    obtain ⟨⟨dr, ss, u0, u1, u2, u4, u5, tss, q1, q2, q3⟩, ok⟩ := id hR
    have hstp := hOk.stp dd
    generalize runOf c dd = x at *
    have xl := ok.len
    obtain ⟨num, hnum⟩ : ∃ num, (numsAt x n)[kk]? = some num := ⟨_, List.getElem?_eq_getElem (by omega)⟩
    have hnl := nums_lt x n num (List.mem_of_getElem? hnum)
    rw [hnum] at k
    refine ⟨_, rfl, _, _, _, _, _, rfl, q1, T.cl_run, T.n_run_steps, fs_run_steps, _, rfl, _, _, _, rfl, q1, fs_run_no_numbers_at, _, rfl, r, n, x, rfl, hR, fun N hN => ?_⟩
    have s3 := Same.new hN (.lst (nV (numsAt x n)))
    refine ⟨_, rfl, _, _, _, _, rfl, rfl, SqL.of upd_same, atI_n (x := V.int (num : Int)) (show (nV (numsAt x n))[kk]? = some (V.int (num : Int)) by unfold nV; rw [List.getElem?_map, hnum]; rfl), ss, num, tss, x.steps, rfl, s3 _ _ q2, q3.mono (fun a q => StepAt.same s3), ok.src, hnl, xl, fun H3 q s4 hq => ?_⟩
    have s14 := ((s1.trans s2).trans s3).trans s4
    have s24 := s3.trans s4
    have hb1 := behind_len x.steps num
    have hb2 := behind_lt x.steps num
    have k2 : AnsTo G C d H Q (P0, w0, natI (cnt (behindL x.steps num) ++ cnt ((List.range P0.length).filter fun m => (behindL x.steps num).any fun j => (x.steps[j]?).any fun s => s.line == m))) := k
    clear k
    generalize behindL x.steps num = ns at *
    -- touched
    let tch : Nat → Nat := fun j => ((x.steps[j]?).map fun s => s.line).getD 0
    refine nx_go' (sq_asg ?_)
    refine lc_by (K := K) (a := q) (xs := nV ns) (ys := ns) (fun j : Nat => V.int (tch j : Nat)) (fun _ => true) (val_var rfl) (SqL.of hq) (nV_length _) (by rw [nV_length]; exact Nat.le_trans (show _ ≤ 1000 by omega) (by decide)) (fun v => rfl)
      (fun j v y hv hy H' s5 => fun Q q => q) (fun j v y hv hy _ H' s5 => ?_) (fun D hD' => ?_)
    · obtain ⟨y', hy', rfl⟩ := nV_get hv
      rw [hy] at hy'
      cases Option.some.inj hy'
      have hal := hb2 y (List.mem_of_getElem? hy)
      obtain ⟨st, hst⟩ : ∃ st, x.steps[y]? = some st := ⟨_, List.getElem?_eq_getElem (by omega)⟩
      obtain ⟨ta, hta, f, fs, t1, t2, t3⟩ := q3.get hst
      have e : tch y = st.line := by show ((x.steps[y]?).map fun s => s.line).getD 0 = _; rw [hst]; rfl
      rw [e]
      have s25 := s24.trans s5
      exact val_ixT (val_ix (val_fld (val_var rfl) (s25 _ _ q1) T.cl_run T.n_run_steps fs_run_steps) (val_var rfl) (SqL.of (s25 _ _ q2)) (atI_n (rV_at hta))) val_c (SqT.of (s25 _ _ t1)) (atI_n (i := 0) rfl)
    · have e0 : (ns.filter fun _ => true).map (fun j : Nat => V.int (tch j : Nat)) = nV (ns.map tch) := by
        rw [List.filter_eq_self.mpr (fun _ _ => rfl)]
        unfold nV
        rw [List.map_map]
        rfl
      rw [e0]
      have s5 := Same.new hD' (.lst (nV (ns.map tch)))
      have s15 := s14.trans s5
      obtain ⟨dp, ps, ppa, psi, pas, p1, p2, p3, p4, p5⟩ := id (h2.same s15)
      have pl14 := hOk.good.len
      refine sq_asg ?_
      refine lc_rg (n := P0.length) (fun n => V.int (n : Int)) (fun n => (ns.map tch).contains n) (fun Q' q => ⟨_, rfl, _, _, _, _, _, rfl, (s15 _ _ h1), T.cl_dsk, T.n_dsk_program, fs_dsk_program, _, _, _, rfl, p1, fs_prg_no_many, p0, dp, ps, _, _, rV pas, rfl, p1, p2, by rw [rV_length, p5.len]; exact q⟩) (Nat.le_trans (show _ ≤ 14 by omega) (by decide)) (fun v => rfl)
        (fun n hn H2 s6 => fun Q q => ?_) (fun n hn _ H2 s2 => val_var rfl) fun F hF => ?_
      · refine ⟨_, rfl, _, rfl, D, _, rfl, .inl (SqL.of (s6 _ _ upd_same)), rfl, flat_nV _, _, rfl, ?_⟩
        rw [inV_nV]
        show Q ((ns.map tch).any fun y : Nat => decide ((y : Int) = (n : Int))) H2
        rw [mem_nat]
        exact q
      · have e1 : ((List.range P0.length).filter fun n => (ns.map tch).contains n).map (fun n : Nat => V.int (n : Int)) = nV ((List.range P0.length).filter fun m => ns.any fun j => (x.steps[j]?).any fun s => s.line == m) := by
          show nV _ = nV _
          congr 1
          refine List.filter_congr fun n _ => ?_
          rw [Bool.eq_iff_iff, List.contains_iff_mem, List.mem_map, List.any_eq_true]
          constructor
          · rintro ⟨j, h1, h2⟩
            obtain ⟨st, hst⟩ : ∃ st, x.steps[j]? = some st := ⟨_, List.getElem?_eq_getElem (by have := hb2 j h1; omega)⟩
            refine ⟨j, h1, ?_⟩
            have e : tch j = st.line := by show ((x.steps[j]?).map fun s => s.line).getD 0 = _; rw [hst]; rfl
            rw [hst]
            show (st.line == n) = true
            rw [← h2, e]
            simp
          · rintro ⟨j, h1, h2⟩
            obtain ⟨st, hst⟩ : ∃ st, x.steps[j]? = some st := ⟨_, List.getElem?_eq_getElem (by have := hb2 j h1; omega)⟩
            refine ⟨j, h1, ?_⟩
            have e : tch j = st.line := by show ((x.steps[j]?).map fun s => s.line).getD 0 = _; rw [hst]; rfl
            rw [hst] at h2
            have h3 : (st.line == n) = true := h2
            rw [e]
            simpa using h3
        rw [e1]
        have s6 := Same.new hF (.lst (nV ((List.range P0.length).filter fun m => ns.any fun j => (x.steps[j]?).any fun s => s.line == m)))
        have ll : ((List.range P0.length).filter fun m => ns.any fun j => (x.steps[j]?).any fun s => s.line == m).length ≤ 14 := by
          refine Nat.le_trans (List.length_filter_le _ _) ?_
          rw [List.length_range]
          exact pl14
        have hF2 := upd_same (H := upd H3 D (.lst (nV (ns.map tch)))) (a := F) (o := .lst (nV ((List.range P0.length).filter fun m => ns.any fun j => (x.steps[j]?).any fun s => s.line == m)))
        generalize ((List.range P0.length).filter fun m => ns.any fun j => (x.steps[j]?).any fun s => s.line == m) = ls at *
        refine ⟨_, rfl, q, _, rfl, s6 _ _ (s5 _ _ hq), by rw [nV_length]; omega, fun E H5 s7 hE => ?_⟩
        refine ⟨_, rfl, F, _, rfl, s7 _ _ hF2, by rw [nV_length]; omega, fun G H6 s8 hG => ?_⟩
        refine ⟨_, _, _, _, rfl, rfl, s8 _ _ hE, hG, ?_, fun Z hZ => ?_⟩
        · rw [cntV_nat, cntV_nat, nV_length, nV_length, List.length_cons, List.length_cons]
          exact Nat.le_trans (show _ ≤ 1000 by omega) (by decide)
        · refine k2.stay hD ((((s15.trans s6).trans s7).trans s8).trans (Same.new hZ _)) (Same.free ((((s15.trans s6).trans s7).trans s8)) hZ) ?_
          rw [upd_same, iV_natI, cntV_nat, cntV_nat]
          unfold nV cnt
          rw [List.map_append]
end
end Ld
end
section
set_option Elab.async false
set_option maxRecDepth 100000
set_option maxHeartbeats 4000000
namespace Ld
open PySem PySem.Spec PyProof.Rows L2 RT
open Vaslca (Text)
open Vaslcf (Wish)
open PyFlat (put1 putRow putRows put told)
def hasRowB (op : Int) : Bool := decide (op = 0) || (decide (op = 1) || decide (op = 4))
def numsOf (op : Int) : Int := if op = 2 ∨ op = 8 then 1 else if op = 9 ∨ op = 10 then 3 else 0
inductive OkForm : List (List Int) → Prop where
  | program (r : List Int) (h : ∀ z ∈ r, 0 ≤ z ∧ z ≤ 255) (n : r.length ≤ 1000) : OkForm [[0], r]
  | given (r : List Int) (n : r.length ≤ 20) : OkForm [[1], r]
  | place (n : Int) : OkForm [[2, n]]
  | clear : OkForm [[3]]
  | enough (r : List Int) (n : r.length ≤ 20) : OkForm [[4], r]
  | byone : OkForm [[5]]
  | least : OkForm [[6]]
  | joined : OkForm [[7]]
  | rows (i : Int) : OkForm [[8, i]]
  | explain (i n k : Int) : OkForm [[9, i, n, k]]
  | chain (i n k : Int) : OkForm [[10, i, n, k]]
  | size : OkForm [[11]]
def bytesOf (r : List Int) : Text := r.map fun z => UInt8.ofNat z.toNat
theorem bytes_iV {r : List Int} (h : ∀ z ∈ r, 0 ≤ z ∧ z ≤ 255) : iV r = bV (bytesOf r) := by
  unfold iV bV bytesOf
  rw [List.map_map]
  refine List.map_congr_left fun z hz => ?_
  have := h z hz
  show V.int z = V.int (((UInt8.ofNat z.toNat).toNat : Nat) : Int)
  rw [UInt8.toNat_ofNat', Nat.mod_eq_of_lt (by omega), Int.toNat_of_nonneg this.1]
def resCall (P : List PL) (A : Nat → List Nat) (c : Vaslca.Code) (w : Wish) : List (List Int) → Res
  | [[0], r] => resProgram (bytesOf r) P w
  | [[1], r] => resGiven r P w
  | [[2, n]] => resPlace n P w
  | [[3]] => resClear P w
  | [[4], r] => resEnough r P c w
  | [[5]] => resByone P A c w
  | [[6]] => resLeast P c w
  | [[7]] => resJoined P c w
  | [[8, i]] => resRows i P c w
  | [[9, i, n, k]] => resExplain i n k P c w
  | [[10, i, n, k]] => resChain i n k P c w
  | [[11]] => resSize P c w
  | _ => (P, w, [])
def Runs : List PL → Wish → List (List (List Int)) → List (List Int) → Prop
  | _, _, [], outs => outs = []
  | P, w, c :: cs, outs => ∃ (A : Nat → List Nat) (code : Vaslca.Code) (rest : List (List Int)), outs = (resCall P A code w c).2.2 :: rest ∧ DeskOk P code w ∧ ArOk P A ∧ Runs (resCall P A code w c).1 (resCall P A code w c).2.1 cs rest
def spHasRow : Sp := fun vs H Q _ => ∃ op : Int, vs = [.int op] ∧ Q (.bl (hasRowB op)) H
def spHowMany : Sp := fun vs H Q _ => ∃ op : Int, vs = [.int op] ∧ Q (.int (numsOf op)) H
def CallAt (l : List Int) (at' : Nat) (c : List (List Int)) : Prop := ∃ rest, l.drop at' = put1 c ++ rest
def spCallEnd (K : PySem.W.Frag) : Sp := fun vs H Q _ => ∃ (a : Addr) (l : List Int) (at' : Nat) (c : List (List Int)), vs = [.ref a, .int (at' : Int)] ∧ SqL K H a (iV l) ∧ CallAt l at' c ∧ OkForm c ∧ Q (.int ((at' + (put1 c).length : Nat) : Int)) H
def spAnsRow (C : Cs) : Sp := fun vs H Q _ => ∃ (G : Addr → Prop) (d a : Addr) (op : Int) (r : List Int) (P : List PL) (A : Nat → List Nat) (c : Vaslca.Code) (w : Wish), vs = [.ref d, .int op, .ref a] ∧ DeskAt G C H d P w ∧ (∀ b, G b → H b ≠ none) ∧ DeskOk P c w ∧ ArOk P A ∧ H a = some (.lst (iV r)) ∧ OkForm [[op], r] ∧ AnsTo G C d H Q (resCall P A c w [[op], r])
def spAnsPlain (C : Cs) : Sp := fun vs H Q _ => ∃ (G : Addr → Prop) (d : Addr) (op : Int) (P : List PL) (A : Nat → List Nat) (c : Vaslca.Code) (w : Wish), vs = [.ref d, .int op] ∧ DeskAt G C H d P w ∧ (∀ b, G b → H b ≠ none) ∧ DeskOk P c w ∧ ArOk P A ∧ OkForm [[op]] ∧ AnsTo G C d H Q (resCall P A c w [[op]])
def spAnsCall (K : PySem.W.Frag) (C : Cs) : Sp := fun vs H Q _ => ∃ (G : Addr → Prop) (d a : Addr) (l : List Int) (at' : Nat) (q : List (List Int)) (P : List PL) (A : Nat → List Nat) (c : Vaslca.Code) (w : Wish), vs = [.ref d, .ref a, .int (at' : Int)] ∧ SqL K H a (iV l) ∧ CallAt l at' q ∧ OkForm q ∧ DeskAt G C H d P w ∧ (∀ b, G b → H b ≠ none) ∧ DeskOk P c w ∧ ArOk P A ∧ AnsTo G C d H Q (resCall P A c w q)
def spAnswers : PySem.W.Frag → Sp := fun K vs H Q _ => ∃ (a : Addr) (cs : List (List (List Int))) (outs : List (List Int)), vs = [.ref a] ∧ SqL K H a (iV (put cs)) ∧ (∀ c ∈ cs, OkForm c) ∧ Runs [] ⟨[], []⟩ cs outs ∧ (told outs).length ≤ 10000000 ∧
  ∀ (H' : Hp) (p : Addr), H' p = some (.lst (iV (told outs))) → Q (.ref p) H'
theorem iV_at {l : List Int} {i : Nat} {z : Int} (h : l[i]? = some z) : atI (iV l) (i : Int) = some (.int z) := atI_n (by unfold iV; rw [List.getElem?_map, h]; rfl)
theorem at_call {l : List Int} {at' : Nat} {X rest : List Int} (h : l.drop at' = X ++ rest) (j : Nat) {z : Int} (hz : X[j]? = some z) : l[at' + j]? = some z := by
  have : (l.drop at')[j]? = some z := by
    rw [h, List.getElem?_append_left (List.getElem?_eq_some_iff.mp hz).1]
    exact hz
  rw [List.getElem?_drop] at this
  exact this
theorem end_call {l : List Int} {at' : Nat} {X rest : List Int} (h : l.drop at' = X ++ rest) (hX : 0 < X.length) : at' + X.length ≤ l.length := by
  have := congrArg List.length h
  rw [List.length_drop, List.length_append] at this
  omega
section
variable {P : Program} {w : World} {K : PySem.W.Frag} {mg : Str → Option Value} {base : Heap} {C : Cs}
theorem eqI (a b : Int) : decide (V.int a = V.int b) = decide (a = b) := decide_eq_decide.mpr ⟨fun z => V.int.inj z, fun z => by rw [z]⟩
abbrev s_has_row : Stmt := top 67
theorem sc_has_row : FnScope ["op"] ["op"] (defScope s_has_row) := ⟨rfl, rfl, rfl, by decide +kernel, rfl, by decide +kernel, by decide +kernel⟩
theorem ok_has_row (T : Txt K mg C) : OkF P w K mg base 1 "has_row" ["op"] (spHasRow) := by
  obtain ⟨f, fd, hm, F, b⟩ := T.f_has_row
  refine ⟨f, fd, hm, F.kp, b, F.ok sc_has_row (fun vs H Q E h => ?_) (fun cdv A outer s H vs Q E hr h => ?_)⟩
  · obtain ⟨op, rfl, _⟩ := h
    rfl
  refine ⟨_, (pss_one (ps_ret (pe_or (pe_cmpR op_eq (pv 0) pe_int (nomark _)) (pe_or (pe_cmpR op_eq (pv 0) pe_int (nomark _)) (pe_one (pe_cmpR op_eq (pv 0) pe_int (nomark _))))))), ?_⟩
  obtain ⟨op, rfl, k⟩ := h
  refine ⟨_, rfl, rfl, _, rfl, ?_⟩
  rw [eqI]
  unfold hasRowB at k
  refine if_d (fun z => ?_) (fun z => ?_)
  · rw [decide_eq_true z, Bool.true_or] at k
    exact k
  · rw [decide_eq_false z, Bool.false_or] at k
    refine ⟨_, rfl, rfl, _, rfl, ?_⟩
    rw [eqI]
    refine if_d (fun z => ?_) (fun z => ?_)
    · rw [decide_eq_true z, Bool.true_or] at k
      exact k
    · rw [decide_eq_false z, Bool.false_or] at k
      refine ⟨_, rfl, rfl, ?_⟩
      rw [eqI]
      exact k
abbrev s_how_many_numbers : Stmt := top 68
theorem sc_how_many_numbers : FnScope ["op"] ["op"] (defScope s_how_many_numbers) := ⟨rfl, rfl, rfl, by decide +kernel, rfl, by decide +kernel, by decide +kernel⟩
theorem ok_how_many_numbers (T : Txt K mg C) : OkF P w K mg base 1 "how_many_numbers" ["op"] (spHowMany) := by
  obtain ⟨f, fd, hm, F, b⟩ := T.f_how_many_numbers
  refine ⟨f, fd, hm, F.kp, b, F.ok sc_how_many_numbers (fun vs H Q E h => ?_) (fun cdv A outer s H vs Q E hr h => ?_)⟩
  · obtain ⟨op, rfl, _⟩ := h
    rfl
  refine ⟨_, (pss_cons (ps_if (PW.pt (pw_or (pt_cmpR op_eq (pv 0) pe_int (nomark _)) (pw_or1 (pt_cmpR op_eq (pv 0) pe_int (nomark _))))) (pss_one (ps_ret pe_int)) pss_nil)
        (pss_cons (ps_if (PW.pt (pw_or (pt_cmpR op_eq (pv 0) pe_int (nomark _)) (pw_or1 (pt_cmpR op_eq (pv 0) pe_int (nomark _))))) (pss_one (ps_ret pe_int)) pss_nil)
        (pss_one (ps_ret pe_int)))), ?_⟩
  obtain ⟨op, rfl, k⟩ := h
  unfold numsOf at k
  have t1 : op = 2 ∨ op = 8 → Q (.int 1) H := fun z => by rw [if_pos z] at k; exact k
  have t2 : ¬ (op = 2 ∨ op = 8) → op = 9 ∨ op = 10 → Q (.int 3) H := fun y z => by rw [if_neg y, if_pos z] at k; exact k
  have t3 : ¬ (op = 2 ∨ op = 8) → ¬ (op = 9 ∨ op = 10) → Q (.int 0) H := fun y z => by rw [if_neg y, if_neg z] at k; exact k
  have rest : ¬ (op = 2 ∨ op = 8) → tSeq (tIfS (tOr (tTest (tOp rEq (tVar 0) (tC (.int 9)))) (tTest (tOp rEq (tVar 0) (tC (.int 10))))) (tRet (tC (.int 3))) tNext) (tRet (tC (.int 0))) { nx := fun x H' => Q V.non H', rt := Q } [some (.int op)] H := fun y => by
    refine ⟨_, rfl, rfl, _, rfl, ?_⟩
    rw [eqI]
    refine if_d (fun z => ?_) (fun z => ?_)
    · exact if_t rfl (t2 y (.inl z))
    · refine ⟨_, rfl, rfl, _, rfl, ?_⟩
      rw [eqI]
      refine if_d (fun z2 => ?_) (fun z2 => ?_)
      · exact t2 y (.inr z2)
      · exact t3 y (fun e => e.elim z z2)
  refine ⟨_, rfl, rfl, _, rfl, ?_⟩
  rw [eqI]
  refine if_d (fun z => ?_) (fun z => ?_)
  · exact if_t rfl (t1 (.inl z))
  · refine ⟨_, rfl, rfl, _, rfl, ?_⟩
    rw [eqI]
    refine if_d (fun z2 => ?_) (fun z2 => ?_)
    · exact t1 (.inr z2)
    · exact rest (fun e => e.elim z z2)
abbrev s_call_end : Stmt := top 69
theorem sc_call_end : FnScope ["calls", "at"] ["calls", "at"] (defScope s_call_end) := ⟨rfl, rfl, rfl, by decide +kernel, rfl, by decide +kernel, by decide +kernel⟩
theorem ok_call_end (T : Txt K mg C) : OkF P w K mg base 2 "call_end" ["calls", "at"] (spCallEnd K) := by
  have h_has_row := ok_has_row (P := P) (w := w) (base := base) T
  have h_how_many_numbers := ok_how_many_numbers (P := P) (w := w) (base := base) T
  obtain ⟨f, fd, hm, F, b⟩ := T.f_call_end
  refine ⟨f, fd, hm, F.kp, b, F.ok sc_call_end (fun vs H Q E h => ?_) (fun cdv A outer s H vs Q E hr h => ?_)⟩
  · obtain ⟨a, l, at', c, rfl, _⟩ := h
    rfl
  refine ⟨_, (pss_cons (ps_if (pt_val (pe_cf h_has_row (hr.mono (by decide)) (by rfl) (pa_cons (pe_ix ix_list (pv 0) (pv 1) (fun _ _ => rfl)) pa_nil))) (pss_one (ps_ret (pe_op op_add (pe_op op_add (pv 1) pe_int) (pe_ix ix_list (pv 0) (pe_op op_add (pv 1) pe_int) (fun _ _ => rfl))))) pss_nil)
        (pss_one (ps_ret (pe_op op_add (pe_op op_add (pv 1) pe_int) (pe_cf h_how_many_numbers (hr.mono (by decide)) (by rfl) (pa_cons (pe_ix ix_list (pv 0) (pv 1) (fun _ _ => rfl)) pa_nil)))))), ?_⟩
  obtain ⟨a, l, at', q, rfl, ha, ⟨rest, hl⟩, hq, k⟩ := h
  have row : ∀ (op : Int) (r : List Int), q = [[op], r] → hasRowB op = true → Q (.int ((at' + (put1 q).length : Nat) : Int)) H → tSeq (tIfS (tB (tCall spHasRow [] E0 (tCons (tOp (rIxL K) (tVar 0) (tVar 1)) tNil)))
      (tRet (tOp (rI0 fun i j => V.int (i + j)) (tOp (rI0 fun i j => V.int (i + j)) (tVar 1) (tC (.int 2))) (tOp (rIxL K) (tVar 0) (tOp (rI0 fun i j => V.int (i + j)) (tVar 1) (tC (.int 1)))))) tNext)
      (tRet (tOp (rI0 fun i j => V.int (i + j)) (tOp (rI0 fun i j => V.int (i + j)) (tVar 1) (tC (.int 1))) (tCall spHowMany [] E0 (tCons (tOp (rIxL K) (tVar 0) (tVar 1)) tNil)))) { nx := fun x H' => Q V.non H', rt := Q } [some (.ref a), some (.int (at' : Int))] H := by
    rintro op r rfl hop k
    have e : put1 [[op], r] = op :: (r.length : Int) :: (r ++ []) := rfl
    rw [e] at hl k
    have g0 := at_call hl 0 (z := op) rfl
    have g1 := at_call hl 1 (z := (r.length : Int)) rfl
    rw [Nat.add_zero] at g0
    have g1' : atI (iV l) ((at' : Int) + 1) = some (.int (r.length : Int)) := iV_at g1
    refine ⟨_, rfl, _, rfl, _, _, _, _, rfl, rfl, ha, iV_at g0, op, rfl, _, rfl, if_t hop ?_⟩
    refine ⟨_, rfl, _, _, rfl, rfl, _, rfl, _, rfl, _, _, rfl, rfl, _, _, _, _, rfl, rfl, ha, g1', _, _, rfl, rfl, ?_⟩
    have : (at' : Int) + 2 + (r.length : Int) = ((at' + (op :: (r.length : Int) :: (r ++ [])).length : Nat) : Int) := by
      simp only [List.length_cons, List.append_nil]
      omega
    dsimp only
    rw [this]
    exact k
  have plain : ∀ (op : Int) (r : List Int), q = [op :: r] → hasRowB op = false → numsOf op = (r.length : Int) → Q (.int ((at' + (put1 q).length : Nat) : Int)) H → tSeq (tIfS (tB (tCall spHasRow [] E0 (tCons (tOp (rIxL K) (tVar 0) (tVar 1)) tNil)))
      (tRet (tOp (rI0 fun i j => V.int (i + j)) (tOp (rI0 fun i j => V.int (i + j)) (tVar 1) (tC (.int 2))) (tOp (rIxL K) (tVar 0) (tOp (rI0 fun i j => V.int (i + j)) (tVar 1) (tC (.int 1)))))) tNext)
      (tRet (tOp (rI0 fun i j => V.int (i + j)) (tOp (rI0 fun i j => V.int (i + j)) (tVar 1) (tC (.int 1))) (tCall spHowMany [] E0 (tCons (tOp (rIxL K) (tVar 0) (tVar 1)) tNil)))) { nx := fun x H' => Q V.non H', rt := Q } [some (.ref a), some (.int (at' : Int))] H := by
    rintro op r rfl hop hn k
    have e : put1 [op :: r] = op :: (r ++ []) := rfl
    rw [e] at hl k
    have g0 := at_call hl 0 (z := op) rfl
    rw [Nat.add_zero] at g0
    refine ⟨_, rfl, _, rfl, _, _, _, _, rfl, rfl, ha, iV_at g0, op, rfl, _, rfl, if_f hop ?_⟩
    refine ⟨_, rfl, _, _, rfl, rfl, _, rfl, _, rfl, _, _, _, _, rfl, rfl, ha, iV_at g0, op, rfl, _, _, rfl, rfl, ?_⟩
    have : (at' : Int) + 1 + numsOf op = ((at' + (op :: (r ++ [])).length : Nat) : Int) := by
      rw [hn]
      simp only [List.length_cons, List.append_nil]
      omega
    dsimp only
    rw [this]
    exact k
  cases hq with
  | program r h n => exact row _ _ rfl rfl k
  | given r n => exact row _ _ rfl rfl k
  | enough r n => exact row _ _ rfl rfl k
  | place n => exact plain _ _ rfl rfl rfl k
  | clear => exact plain _ _ rfl rfl rfl k
  | byone => exact plain _ _ rfl rfl rfl k
  | least => exact plain _ _ rfl rfl rfl k
  | joined => exact plain _ _ rfl rfl rfl k
  | rows i => exact plain _ _ rfl rfl rfl k
  | explain i n m => exact plain _ _ rfl rfl rfl k
  | chain i n m => exact plain _ _ rfl rfl rfl k
  | size => exact plain _ _ rfl rfl rfl k
abbrev s_answer_row : Stmt := top 70
theorem sc_answer_row : FnScope ["desk", "op", "row"] ["desk", "op", "row"] (defScope s_answer_row) := ⟨rfl, rfl, rfl, by decide +kernel, rfl, by decide +kernel, by decide +kernel⟩
theorem ok_answer_row (T : Txt K mg C) : OkF P w K mg base 32 "answer_row" ["desk", "op", "row"] (spAnsRow C) := by
  have h_Desk_answer_enough := ok_Desk_answer_enough (P := P) (w := w) (base := base) T
  have h_Desk_answer_given := ok_Desk_answer_given (P := P) (w := w) (base := base) T
  have h_Desk_answer_program := ok_Desk_answer_program (P := P) (w := w) (base := base) T
  obtain ⟨f, fd, hm, F, b⟩ := T.f_answer_row
  refine ⟨f, fd, hm, F.kp, b, F.ok sc_answer_row (fun vs H Q E h => ?_) (fun cdv A outer s H vs Q E hr h => ?_)⟩
  · obtain ⟨G, d, a, op, r, P, A, c, w, rfl, _⟩ := h
    rfl
  refine ⟨_, (pss_cons (ps_if (pt_cmpR op_eq (pv 1) pe_int (nomark _)) (pss_one (ps_ret (pe_cm (pv 0) T.cl_dsk h_Desk_answer_program (hr.mono (by decide)) (pa_cons (pv 2) pa_nil)))) pss_nil)
        (pss_cons (ps_if (pt_cmpR op_eq (pv 1) pe_int (nomark _)) (pss_one (ps_ret (pe_cm (pv 0) T.cl_dsk h_Desk_answer_given (hr.mono (by decide)) (pa_cons (pv 2) pa_nil)))) pss_nil)
        (pss_one (ps_ret (pe_cm (pv 0) T.cl_dsk h_Desk_answer_enough (hr.mono (by decide)) (pa_cons (pv 2) pa_nil)))))), ?_⟩
  obtain ⟨G, d, a, op, r, P0, A0, c, w0, rfl, hD, hG, hOk, hA, ha, hf, k⟩ := h
  obtain ⟨dx, p, g, pl, h1, _⟩ := id hD
  refine ⟨_, rfl, rfl, _, rfl, ?_⟩
  cases hf with
  | program _ hb hn =>
    rw [bytes_iV hb] at ha
    refine if_t rfl ⟨_, rfl, _, _, _, rfl, h1, fs_dsk_no_answer_program, _, rfl, G, d, a, bytesOf r, P0, w0, rfl, hD, hG, ha, by unfold bytesOf; rw [List.length_map]; exact hn, k⟩
  | given _ hn =>
    refine if_f rfl ⟨_, rfl, rfl, _, rfl, if_t rfl ⟨_, rfl, _, _, _, rfl, h1, fs_dsk_no_answer_given, _, rfl, G, d, a, r, P0, w0, rfl, hD, hG, ha, k⟩⟩
  | enough _ hn =>
    refine if_f rfl ⟨_, rfl, rfl, _, rfl, if_f rfl ⟨_, rfl, _, _, _, rfl, h1, fs_dsk_no_answer_enough, _, rfl, G, d, a, r, P0, c, w0, rfl, hD, hOk, ha, by omega, k⟩⟩
abbrev s_answer_plain : Stmt := top 71
theorem sc_answer_plain : FnScope ["desk", "op"] ["desk", "op"] (defScope s_answer_plain) := ⟨rfl, rfl, rfl, by decide +kernel, rfl, by decide +kernel, by decide +kernel⟩
theorem ok_answer_plain (T : Txt K mg C) : OkF P w K mg base 32 "answer_plain" ["desk", "op"] (spAnsPlain C) := by
  have h_Desk_answer_byone := ok_Desk_answer_byone (P := P) (w := w) (base := base) T
  have h_Desk_answer_clear := ok_Desk_answer_clear (P := P) (w := w) (base := base) T
  have h_Desk_answer_joined := ok_Desk_answer_joined (P := P) (w := w) (base := base) T
  have h_Desk_answer_least := ok_Desk_answer_least (P := P) (w := w) (base := base) T
  have h_Desk_answer_size := ok_Desk_answer_size (P := P) (w := w) (base := base) T
  obtain ⟨f, fd, hm, F, b⟩ := T.f_answer_plain
  refine ⟨f, fd, hm, F.kp, b, F.ok sc_answer_plain (fun vs H Q E h => ?_) (fun cdv A outer s H vs Q E hr h => ?_)⟩
  · obtain ⟨G, d, op, P, A, c, w, rfl, _⟩ := h
    rfl
  refine ⟨_, (pss_cons (ps_if (pt_cmpR op_eq (pv 1) pe_int (nomark _)) (pss_one (ps_ret (pe_cm0 (pv 0) T.cl_dsk h_Desk_answer_clear (hr.mono (by decide))))) pss_nil)
        (pss_cons (ps_if (pt_cmpR op_eq (pv 1) pe_int (nomark _)) (pss_one (ps_ret (pe_cm0 (pv 0) T.cl_dsk h_Desk_answer_byone (hr.mono (by decide))))) pss_nil)
        (pss_cons (ps_if (pt_cmpR op_eq (pv 1) pe_int (nomark _)) (pss_one (ps_ret (pe_cm0 (pv 0) T.cl_dsk h_Desk_answer_least (hr.mono (by decide))))) pss_nil)
        (pss_cons (ps_if (pt_cmpR op_eq (pv 1) pe_int (nomark _)) (pss_one (ps_ret (pe_cm0 (pv 0) T.cl_dsk h_Desk_answer_joined (hr.mono (by decide))))) pss_nil)
        (pss_one (ps_ret (pe_cm0 (pv 0) T.cl_dsk h_Desk_answer_size (hr.mono (by decide))))))))), ?_⟩
  obtain ⟨G, d, op, P0, A0, c, w0, rfl, hD, hG, hOk, hA, hf, k⟩ := h
  obtain ⟨dx, p, g, pl, h1, _⟩ := id hD
  refine ⟨_, rfl, rfl, _, rfl, ?_⟩
  cases hf with
  | clear => exact if_t rfl ⟨_, rfl, _, _, _, rfl, h1, fs_dsk_no_answer_clear, G, d, P0, w0, rfl, hD, hG, k⟩
  | byone => exact if_f rfl ⟨_, rfl, rfl, _, rfl, if_t rfl ⟨_, rfl, _, _, _, rfl, h1, fs_dsk_no_answer_byone, G, d, P0, A0, c, w0, rfl, hD, hOk, hA, k⟩⟩
  | least => exact if_f rfl ⟨_, rfl, rfl, _, rfl, if_f rfl ⟨_, rfl, rfl, _, rfl, if_t rfl ⟨_, rfl, _, _, _, rfl, h1, fs_dsk_no_answer_least, G, d, P0, c, w0, rfl, hD, hOk, k⟩⟩⟩
  | joined => exact if_f rfl ⟨_, rfl, rfl, _, rfl, if_f rfl ⟨_, rfl, rfl, _, rfl, if_f rfl ⟨_, rfl, rfl, _, rfl, if_t rfl ⟨_, rfl, _, _, _, rfl, h1, fs_dsk_no_answer_joined, G, d, P0, c, w0, rfl, hD, hOk, k⟩⟩⟩⟩
  | size => exact if_f rfl ⟨_, rfl, rfl, _, rfl, if_f rfl ⟨_, rfl, rfl, _, rfl, if_f rfl ⟨_, rfl, rfl, _, rfl, if_f rfl ⟨_, rfl, _, _, _, rfl, h1, fs_dsk_no_answer_size, G, d, P0, c, w0, rfl, hD, hOk, k⟩⟩⟩⟩
theorem cut_row {l : List Int} {at' : Nat} {op : Int} {r rest : List Int} (hl : l.drop at' = put1 [[op], r] ++ rest) : cutV (iV l) (some ((at' : Int) + 2)) (some ((at' + (put1 [[op], r]).length : Nat) : Int)) = iV r := by
  have e : put1 [[op], r] = op :: (r.length : Int) :: (r ++ []) := rfl
  have hle := end_call hl (by rw [e]; simp)
  rw [e] at hl hle ⊢
  rw [show ((at' : Int) + 2) = ((at' + 2 : Nat) : Int) by omega]
  have hll : (iV l).length = l.length := by unfold iV; simp
  simp only [List.append_nil, List.length_cons] at hle ⊢
  rw [cut_mid _ _ _ (by rw [hll]; exact hle) (by omega)]
  unfold iV
  rw [← List.map_drop, ← List.map_take, ← List.drop_drop, hl]
  have : at' + (r.length + 1 + 1) - (at' + 2) = r.length := by omega
  rw [this]
  simp
theorem AnsTo.from {G : Addr → Prop} {C : Cs} {d : Addr} {H H1 : Hp} {Q : VK} {r : Res} (k : AnsTo G C d H Q r) (s : Same H H1) : AnsTo G C d H1 Q r := fun H' q kp n hD e => k H' q ((Kept.of s).trans kp) (s.free n) hD e
abbrev s_answer_call : Stmt := top 72
theorem sc_answer_call : FnScope ["desk", "calls", "at", "op"] ["desk", "calls", "at"] (defScope s_answer_call) := ⟨rfl, rfl, rfl, by decide +kernel, rfl, by decide +kernel, by decide +kernel⟩
theorem ok_answer_call (T : Txt K mg C) : OkF P w K mg base 33 "answer_call" ["desk", "calls", "at"] (spAnsCall K C) := by
  have h_Desk_answer_chain := ok_Desk_answer_chain (P := P) (w := w) (base := base) T
  have h_Desk_answer_explain := ok_Desk_answer_explain (P := P) (w := w) (base := base) T
  have h_Desk_answer_place := ok_Desk_answer_place (P := P) (w := w) (base := base) T
  have h_Desk_answer_rows := ok_Desk_answer_rows (P := P) (w := w) (base := base) T
  have h_answer_plain := ok_answer_plain (P := P) (w := w) (base := base) T
  have h_answer_row := ok_answer_row (P := P) (w := w) (base := base) T
  have h_call_end := ok_call_end (P := P) (w := w) (base := base) T
  have h_has_row := ok_has_row (P := P) (w := w) (base := base) T
  obtain ⟨f, fd, hm, F, b⟩ := T.f_answer_call
  refine ⟨f, fd, hm, F.kp, b, F.ok sc_answer_call (fun vs H Q E h => ?_) (fun cdv A outer s H vs Q E hr h => ?_)⟩
  · obtain ⟨G, d, a, l, at', q, P, A, c, w, rfl, _⟩ := h
    rfl
  refine ⟨_, (pss_cons (ps_set (i := 3) sc_answer_call.nd rfl (Or.inl rfl) (pe_ix ix_list (pv 1) (pv 2) (fun _ _ => rfl)))
        (pss_cons (ps_if (pt_val (pe_cf h_has_row (hr.mono (by decide)) (by rfl) (pa_cons (pv 3) pa_nil))) (pss_one (ps_ret (pe_cf h_answer_row (hr.mono (by decide)) (by rfl) (pa_cons (pv 0) (pa_cons (pv 3) (pa_cons (pe_slice sl_list (pv 1) (po_some (pe_op op_add (pv 2) pe_int)) (po_some (pe_cf h_call_end (hr.mono (by decide)) (by rfl) (pa_cons (pv 1) (pa_cons (pv 2) pa_nil))))) pa_nil)))))) pss_nil)
        (pss_cons (ps_if (pt_cmpR op_eq (pv 3) pe_int (nomark _)) (pss_one (ps_ret (pe_cm (pv 0) T.cl_dsk h_Desk_answer_place (hr.mono (by decide)) (pa_cons (pe_ix ix_list (pv 1) (pe_op op_add (pv 2) pe_int) (fun _ _ => rfl)) pa_nil)))) pss_nil)
        (pss_cons (ps_if (pt_cmpR op_eq (pv 3) pe_int (nomark _)) (pss_one (ps_ret (pe_cm (pv 0) T.cl_dsk h_Desk_answer_rows (hr.mono (by decide)) (pa_cons (pe_ix ix_list (pv 1) (pe_op op_add (pv 2) pe_int) (fun _ _ => rfl)) pa_nil)))) pss_nil)
        (pss_cons (ps_if (pt_cmpR op_eq (pv 3) pe_int (nomark _)) (pss_one (ps_ret (pe_cm (pv 0) T.cl_dsk h_Desk_answer_explain (hr.mono (by decide)) (pa_cons (pe_ix ix_list (pv 1) (pe_op op_add (pv 2) pe_int) (fun _ _ => rfl)) (pa_cons (pe_ix ix_list (pv 1) (pe_op op_add (pv 2) pe_int) (fun _ _ => rfl)) (pa_cons (pe_ix ix_list (pv 1) (pe_op op_add (pv 2) pe_int) (fun _ _ => rfl)) pa_nil)))))) pss_nil)
        (pss_cons (ps_if (pt_cmpR op_eq (pv 3) pe_int (nomark _)) (pss_one (ps_ret (pe_cm (pv 0) T.cl_dsk h_Desk_answer_chain (hr.mono (by decide)) (pa_cons (pe_ix ix_list (pv 1) (pe_op op_add (pv 2) pe_int) (fun _ _ => rfl)) (pa_cons (pe_ix ix_list (pv 1) (pe_op op_add (pv 2) pe_int) (fun _ _ => rfl)) (pa_cons (pe_ix ix_list (pv 1) (pe_op op_add (pv 2) pe_int) (fun _ _ => rfl)) pa_nil)))))) pss_nil)
        (pss_one (ps_ret (pe_cf h_answer_plain (hr.mono (by decide)) (by rfl) (pa_cons (pv 0) (pa_cons (pv 3) pa_nil))))))))))), ?_⟩
  obtain ⟨G, d, a, l, at', q, P0, A0, c, w0, rfl, ha, hc, hf, hD, hG, hOk, hA, k⟩ := h
  obtain ⟨rest, hl⟩ := id hc
  obtain ⟨dx, p, g, pl, h1, _⟩ := id hD
  cases hf with
  | program r hb hn =>
    have g0 := at_call hl 0 (z := 0) rfl
    rw [Nat.add_zero] at g0
    refine ⟨_, rfl, _, rfl, _, _, _, _, rfl, rfl, ha, iV_at g0, _, rfl, _, rfl, _, rfl, if_t rfl ?_⟩
    refine ⟨_, rfl, _, rfl, _, rfl, _, rfl, _, _, rfl, rfl, _, rfl, _, rfl, _, rfl, a, l, at', _, rfl, ha, hc, .program r hb hn, _, rfl, _, _, rfl, ha, fun z hz => ?_⟩
    rw [cut_row hl]
    have s1 := Same.new hz (.lst (iV r))
    exact ⟨G, d, z, 0, r, P0, A0, c, w0, rfl, hD.same s1, (fun b g e => hG b g (s1.free e)), hOk, hA, upd_same, .program r hb hn, k.from s1⟩
  | given r hn =>
    have g0 := at_call hl 0 (z := 1) rfl
    rw [Nat.add_zero] at g0
    refine ⟨_, rfl, _, rfl, _, _, _, _, rfl, rfl, ha, iV_at g0, _, rfl, _, rfl, _, rfl, if_t rfl ?_⟩
    refine ⟨_, rfl, _, rfl, _, rfl, _, rfl, _, _, rfl, rfl, _, rfl, _, rfl, _, rfl, a, l, at', _, rfl, ha, hc, .given r hn, _, rfl, _, _, rfl, ha, fun z hz => ?_⟩
    rw [cut_row hl]
    have s1 := Same.new hz (.lst (iV r))
    exact ⟨G, d, z, 1, r, P0, A0, c, w0, rfl, hD.same s1, (fun b g e => hG b g (s1.free e)), hOk, hA, upd_same, .given r hn, k.from s1⟩
  | enough r hn =>
    have g0 := at_call hl 0 (z := 4) rfl
    rw [Nat.add_zero] at g0
    refine ⟨_, rfl, _, rfl, _, _, _, _, rfl, rfl, ha, iV_at g0, _, rfl, _, rfl, _, rfl, if_t rfl ?_⟩
    refine ⟨_, rfl, _, rfl, _, rfl, _, rfl, _, _, rfl, rfl, _, rfl, _, rfl, _, rfl, a, l, at', _, rfl, ha, hc, .enough r hn, _, rfl, _, _, rfl, ha, fun z hz => ?_⟩
    rw [cut_row hl]
    have s1 := Same.new hz (.lst (iV r))
    exact ⟨G, d, z, 4, r, P0, A0, c, w0, rfl, hD.same s1, (fun b g e => hG b g (s1.free e)), hOk, hA, upd_same, .enough r hn, k.from s1⟩
  | place n =>
    have g0 := at_call hl 0 (z := 2) rfl
    have g1 := at_call hl 1 (z := n) rfl
    rw [Nat.add_zero] at g0
    refine ⟨_, rfl, _, rfl, _, _, _, _, rfl, rfl, ha, iV_at g0, _, rfl, _, rfl, _, rfl, if_f rfl ?_⟩
    refine ⟨_, rfl, rfl, _, rfl, if_t rfl ?_⟩
    exact ⟨_, rfl, _, _, _, rfl, h1, fs_dsk_no_answer_place, _, rfl, _, rfl, _, _, rfl, rfl, _, _, _, _, rfl, rfl, ha, iV_at g1, G, d, n, P0, w0, rfl, hD, hG, k⟩
  | rows n =>
    have g0 := at_call hl 0 (z := 8) rfl
    have g1 := at_call hl 1 (z := n) rfl
    rw [Nat.add_zero] at g0
    refine ⟨_, rfl, _, rfl, _, _, _, _, rfl, rfl, ha, iV_at g0, _, rfl, _, rfl, _, rfl, if_f rfl ?_⟩
    refine ⟨_, rfl, rfl, _, rfl, if_f rfl ⟨_, rfl, rfl, _, rfl, if_t rfl ?_⟩⟩
    exact ⟨_, rfl, _, _, _, rfl, h1, fs_dsk_no_answer_rows, _, rfl, _, rfl, _, _, rfl, rfl, _, _, _, _, rfl, rfl, ha, iV_at g1, G, d, n, P0, c, w0, rfl, hD, hOk, k⟩
  | explain i n m =>
    have g0 := at_call hl 0 (z := 9) rfl
    have g1 := at_call hl 1 (z := i) rfl
    have g2 := at_call hl 2 (z := n) rfl
    have g3 := at_call hl 3 (z := m) rfl
    rw [Nat.add_zero] at g0
    refine ⟨_, rfl, _, rfl, _, _, _, _, rfl, rfl, ha, iV_at g0, _, rfl, _, rfl, _, rfl, if_f rfl ?_⟩
    refine ⟨_, rfl, rfl, _, rfl, if_f rfl ⟨_, rfl, rfl, _, rfl, if_f rfl ⟨_, rfl, rfl, _, rfl, if_t rfl ?_⟩⟩⟩
    exact ⟨_, rfl, _, _, _, rfl, h1, fs_dsk_no_answer_explain, _, rfl, _, rfl, _, _, rfl, rfl, _, _, _, _, rfl, rfl, ha, iV_at g1, _, rfl, _, rfl, _, _, rfl, rfl, _, _, _, _, rfl, rfl, ha, iV_at g2, _, rfl, _, rfl, _, _, rfl, rfl, _, _, _, _, rfl, rfl, ha, iV_at g3, G, d, i, n, m, P0, c, w0, rfl, hD, hOk, k⟩
  | chain i n m =>
    have g0 := at_call hl 0 (z := 10) rfl
    have g1 := at_call hl 1 (z := i) rfl
    have g2 := at_call hl 2 (z := n) rfl
    have g3 := at_call hl 3 (z := m) rfl
    rw [Nat.add_zero] at g0
    refine ⟨_, rfl, _, rfl, _, _, _, _, rfl, rfl, ha, iV_at g0, _, rfl, _, rfl, _, rfl, if_f rfl ?_⟩
    refine ⟨_, rfl, rfl, _, rfl, if_f rfl ⟨_, rfl, rfl, _, rfl, if_f rfl ⟨_, rfl, rfl, _, rfl, if_f rfl ⟨_, rfl, rfl, _, rfl, if_t rfl ?_⟩⟩⟩⟩
    exact ⟨_, rfl, _, _, _, rfl, h1, fs_dsk_no_answer_chain, _, rfl, _, rfl, _, _, rfl, rfl, _, _, _, _, rfl, rfl, ha, iV_at g1, _, rfl, _, rfl, _, _, rfl, rfl, _, _, _, _, rfl, rfl, ha, iV_at g2, _, rfl, _, rfl, _, _, rfl, rfl, _, _, _, _, rfl, rfl, ha, iV_at g3, G, d, i, n, m, P0, c, w0, rfl, hD, hOk, k⟩
  | clear =>
    have g0 := at_call hl 0 (z := 3) rfl
    rw [Nat.add_zero] at g0
    refine ⟨_, rfl, _, rfl, _, _, _, _, rfl, rfl, ha, iV_at g0, _, rfl, _, rfl, _, rfl, if_f rfl ?_⟩
    refine ⟨_, rfl, rfl, _, rfl, if_f rfl ⟨_, rfl, rfl, _, rfl, if_f rfl ⟨_, rfl, rfl, _, rfl, if_f rfl ⟨_, rfl, rfl, _, rfl, if_f rfl ?_⟩⟩⟩⟩
    exact ⟨_, rfl, _, rfl, G, d, 3, P0, A0, c, w0, rfl, hD, hG, hOk, hA, .clear, k⟩
  | byone =>
    have g0 := at_call hl 0 (z := 5) rfl
    rw [Nat.add_zero] at g0
    refine ⟨_, rfl, _, rfl, _, _, _, _, rfl, rfl, ha, iV_at g0, _, rfl, _, rfl, _, rfl, if_f rfl ?_⟩
    refine ⟨_, rfl, rfl, _, rfl, if_f rfl ⟨_, rfl, rfl, _, rfl, if_f rfl ⟨_, rfl, rfl, _, rfl, if_f rfl ⟨_, rfl, rfl, _, rfl, if_f rfl ?_⟩⟩⟩⟩
    exact ⟨_, rfl, _, rfl, G, d, 5, P0, A0, c, w0, rfl, hD, hG, hOk, hA, .byone, k⟩
  | least =>
    have g0 := at_call hl 0 (z := 6) rfl
    rw [Nat.add_zero] at g0
    refine ⟨_, rfl, _, rfl, _, _, _, _, rfl, rfl, ha, iV_at g0, _, rfl, _, rfl, _, rfl, if_f rfl ?_⟩
    refine ⟨_, rfl, rfl, _, rfl, if_f rfl ⟨_, rfl, rfl, _, rfl, if_f rfl ⟨_, rfl, rfl, _, rfl, if_f rfl ⟨_, rfl, rfl, _, rfl, if_f rfl ?_⟩⟩⟩⟩
    exact ⟨_, rfl, _, rfl, G, d, 6, P0, A0, c, w0, rfl, hD, hG, hOk, hA, .least, k⟩
  | joined =>
    have g0 := at_call hl 0 (z := 7) rfl
    rw [Nat.add_zero] at g0
    refine ⟨_, rfl, _, rfl, _, _, _, _, rfl, rfl, ha, iV_at g0, _, rfl, _, rfl, _, rfl, if_f rfl ?_⟩
    refine ⟨_, rfl, rfl, _, rfl, if_f rfl ⟨_, rfl, rfl, _, rfl, if_f rfl ⟨_, rfl, rfl, _, rfl, if_f rfl ⟨_, rfl, rfl, _, rfl, if_f rfl ?_⟩⟩⟩⟩
    exact ⟨_, rfl, _, rfl, G, d, 7, P0, A0, c, w0, rfl, hD, hG, hOk, hA, .joined, k⟩
  | size =>
    have g0 := at_call hl 0 (z := 11) rfl
    rw [Nat.add_zero] at g0
    refine ⟨_, rfl, _, rfl, _, _, _, _, rfl, rfl, ha, iV_at g0, _, rfl, _, rfl, _, rfl, if_f rfl ?_⟩
    refine ⟨_, rfl, rfl, _, rfl, if_f rfl ⟨_, rfl, rfl, _, rfl, if_f rfl ⟨_, rfl, rfl, _, rfl, if_f rfl ⟨_, rfl, rfl, _, rfl, if_f rfl ?_⟩⟩⟩⟩
    exact ⟨_, rfl, _, rfl, G, d, 11, P0, A0, c, w0, rfl, hD, hG, hOk, hA, .size, k⟩
theorem put_app : ∀ (a b : List (List (List Int))), put (a ++ b) = put a ++ put b
  | [], _ => rfl
  | c :: a, b => by
    show put1 c ++ put (a ++ b) = put1 c ++ put a ++ put b
    rw [put_app a b, List.append_assoc]
theorem told_app (a b : List (List Int)) : told (a ++ b) = told a ++ told b := by unfold PyFlat.told; rw [List.flatMap_append]
theorem put1_pos {c : List (List Int)} (h : OkForm c) : 0 < (put1 c).length := by
  cases h <;> exact Nat.succ_pos _
theorem iV_length (l : List Int) : (iV l).length = l.length := by unfold iV; simp
theorem iV_app (a b : List Int) : iV (a ++ b) = iV a ++ iV b := by unfold iV; rw [List.map_append]
theorem runs_len : ∀ (cs : List (List (List Int))) (P : List PL) (w : Wish) (outs : List (List Int)), Runs P w cs outs → outs.length = cs.length
  | [], _, _, outs, h => by
    have h' : outs = [] := h
    rw [h']
    rfl
  | c :: cs, P, w, outs, h => by
    obtain ⟨A, code, rest, e, _, _, h2⟩ := h
    rw [e, List.length_cons, runs_len cs _ _ rest h2, List.length_cons]
theorem dh_upd {G : Addr → Prop} {d o : Addr} {H : Hp} {x : HO} (g : G o) : dh G d (upd H o x) = dh G d H := by
  funext b
  unfold dh hg
  by_cases z : b = d ∨ G b
  · rw [if_pos z, if_pos z]
  · rw [if_neg z, if_neg z, upd_ne (fun e => z (.inr (by rw [e]; exact g)))]
abbrev s_answers : Stmt := top 73
theorem sc_answers : FnScope ["calls", "desk", "out", "at", "answer"] ["calls"] (defScope s_answers) := ⟨rfl, rfl, rfl, by decide +kernel, rfl, by decide +kernel, by decide +kernel⟩
theorem fn_answers (T : Txt K mg C) {f : Addr} {fd : FuncData} (F : Fun K "answers" "answers" (top 73) f fd) : FnOk P w K mg base CX0 34 f fd ["calls"] (spAnswers K) := by
  have h_Desk_init := ok_Desk_init (P := P) (w := w) (base := base) T
  have h_answer_call := ok_answer_call (P := P) (w := w) (base := base) T
  have h_call_end := ok_call_end (P := P) (w := w) (base := base) T
  refine F.ok sc_answers (fun vs H Q E h => ?_) (fun cdv A outer s H vs Q E hr h => ?_)
  · obtain ⟨a, cs, outs, rfl, _⟩ := h
    rfl
  refine ⟨_, (pss_cons (ps_set (i := 1) sc_answers.nd rfl (Or.inl rfl) (pe_mk0 h_Desk_init (hr.mono (by decide)) (by rfl) T.g_Desk))
        (pss_cons (ps_set (i := 2) sc_answers.nd rfl (Or.inl rfl) (pe_lst pa_nil))
        (pss_cons (ps_set (i := 3) sc_answers.nd rfl (Or.inl rfl) pe_int)
        (pss_cons (ps_while PassesOwn.never (pt_cmpR op_lt (pv 3) (pe_callB call_len_seq (by rfl) T.len PySem.boot_len (pa_cons (pv 0) pa_nil)) (nomark _)) (pss_cons (ps_set (i := 4) sc_answers.nd rfl (Or.inl rfl) (pe_cf h_answer_call (hr.mono (by decide)) (by rfl) (pa_cons (pv 1) (pa_cons (pv 0) (pa_cons (pv 3) pa_nil)))))
        (pss_cons (ps_expr (pe_bm PySem.F.plainAttrs_list PySem.F.slot_list_append PySem.F.type_list_append mt_append (pv 2) (pa_cons (pe_callB call_len_seq (by rfl) T.len PySem.boot_len (pa_cons (pv 4) pa_nil)) pa_nil)))
        (pss_cons (ps_expr (pe_bm PySem.F.plainAttrs_list PySem.F.slot_list_extend PySem.F.type_list_extend mt_extend (pv 2) (pa_cons (pv 4) pa_nil)))
        (pss_one (ps_set (i := 3) sc_answers.nd rfl (Or.inl rfl) (pe_cf h_call_end (hr.mono (by decide)) (by rfl) (pa_cons (pv 0) (pa_cons (pv 3) pa_nil)))))))))
        (pss_one (ps_ret (pv 2))))))), ?_⟩
  obtain ⟨a, cs, outs, rfl, ha, hcs, hR, hz, k⟩ := h
  intro d dx nd ndx ne
  refine ⟨d, dx, H, rfl, upd_same, made_same' nd ndx ne.symm, nd, fun H1 s1 hD1 => ⟨rfl, ?_⟩⟩
  have hd1 : H1 d ≠ none := by
    obtain ⟨_, _, _, _, e, _⟩ := hD1 (fun _ => False) (fun _ g => g.elim)
    rw [e]
    exact fun y => by cases y
  refine ⟨(by show 0 ≤ sizeLine; decide), fun o ho => ?_⟩
  have hdo : d ≠ o := fun e => hd1 (by rw [e]; exact ho)
  have ha1 : SqL K (dh (· = o) d (upd H1 o (.lst []))) a (iV (put cs)) := by
    refine Same.seq (H := H) (fun b u e => ?_) ha
    exact dh_get (ne_of_none e nd).symm (ne_of_none e (s1.free ho)) (Same.new ho _ _ _ (s1 _ _ e))
  have hD2 : DeskAt (· = o) C (upd H1 o (.lst [])) d [] ⟨[], []⟩ := by
    obtain ⟨dx1, p, g, pl, h1, h2, h3, h4⟩ := hD1 (fun _ => False) (fun _ g => g.elim)
    have sd : Same (dh (fun _ => False) d H1) (dh (· = o) d (upd H1 o (.lst []))) := fun b u e => by
      have e' : H1 b = some u := hg_same _ _ _ _ e
      have hbd : d ≠ b := fun y => by
        unfold dh hg at e
        rw [if_pos (.inl y.symm)] at e
        cases e
      exact dh_get hbd (ne_of_none e' ho) (Same.new ho _ _ _ e')
    exact ⟨dx1, p, g, pl, Same.new ho _ _ _ h1, h2.same sd, h3.same sd, sd _ _ h4⟩
  refine ⟨fun m σ H' => ∃ (dn td : List (List (List Int))) (o1 o2 : List (List Int)) (P : List PL) (w : Wish) (v : Option V), σ = [some (.ref a), some (.ref d), some (.ref o), some (.int ((put dn).length : Nat)), v] ∧ cs = dn ++ td ∧ outs = o1 ++ o2 ∧ m = td.length ∧
      DeskAt (· = o) C H' d P w ∧ Runs P w td o2 ∧ H' o = some (.lst (iV (told o1))) ∧ SqL K (dh (· = o) d H') a (iV (put cs)),
    ⟨cs.length, [], cs, [], outs, [], ⟨[], []⟩, none, rfl, rfl, rfl, rfl, hD2, hR, upd_same, ha1⟩, ?_⟩
  rintro m σ H' ⟨dn, td, o1, o2, P1, w1, v, rfl, rfl, rfl, rfl, hD, hR', hol, ha'⟩
  have haH : SqL K H' a _ := Same.seq (hg_same _ _) ha'
  refine ⟨_, rfl, _, rfl, _, _, rfl, .inl haH, _, _, rfl, rfl, _, rfl, ?_⟩
  rw [iV_length]
  cases td with
  | nil =>
    have h2 : o2 = [] := hR'
    subst h2
    refine if_f (decide_eq_false (by rw [List.append_nil]; omega)) ?_
    rw [List.append_nil] at k
    exact ⟨_, rfl, k H' o hol⟩
  | cons q td =>
    obtain ⟨A0, code, o2', rfl, hOk, hA, hR2⟩ := hR'
    have hq : OkForm q := hcs q (by simp)
    have hpos := put1_pos hq
    have eput : put (dn ++ q :: td) = put dn ++ (put1 q ++ put td) := by rw [put_app]; rfl
    have hat : CallAt (put (dn ++ q :: td)) (put dn).length q := ⟨put td, by rw [eput, List.drop_left]⟩
    refine if_t (decide_eq_true (by rw [eput, List.length_append, List.length_append]; omega)) ⟨_, fun _ _ h => h, ?_⟩
    refine ⟨_, rfl, _, rfl, _, rfl, (· = o), d, a, _, _, q, P1, A0, code, w1, rfl, haH, hat, hq, hD, (fun b e y => by rw [e, hol] at y; cases y), hOk, hA, fun H2 r kp nr hD2 hr => ?_⟩
    generalize hres : resCall P1 A0 code w1 q = res at *
    have ho2 : H2 o = some (.lst (iV (told o1))) := by
      have := kp _ _ (hide_new hdo hol)
      exact hide_same _ _ _ _ this
    have hro : r ≠ o := fun e => by rw [e] at nr; rw [nr] at hol; cases hol
    have toldlen : (told o1).length + 1 + res.2.2.length ≤ 10000000 := by
      have e : told (o1 ++ res.2.2 :: o2') = told o1 ++ ((res.2.2.length : Int) :: (res.2.2 ++ told o2')) := by rw [told_app]; rfl
      rw [e, List.length_append, List.length_cons, List.length_append] at hz
      omega
    refine ⟨_, rfl, .inl ⟨rfl, _, SqL.of ho2⟩, _, rfl, _, _, rfl, .inl (SqL.of hr), _, _, _, rfl, rfl, ho2, ?_, ?_⟩
    · rw [iV_length]
      exact Nat.lt_of_le_of_lt (show _ ≤ 10000000 by omega) (by decide)
    have hr3 : (upd H2 o (.lst (iV (told o1) ++ [.int ((iV res.2.2).length : Int)]))) r = some (.lst (iV res.2.2)) := by rw [upd_ne hro]; exact hr
    refine ⟨_, rfl, .inl ⟨rfl, _, SqL.of upd_same⟩, _, rfl, _, _, _, _, rfl, rfl, upd_same, hr3, ?_, ?_⟩
    · rw [List.length_append, iV_length, iV_length]
      exact Nat.le_trans (show _ ≤ 10000000 by simp only [List.length_singleton]; omega) (by decide)
    rw [upd_upd]
    have hfin : iV (told o1) ++ [V.int ((iV res.2.2).length : Int)] ++ iV res.2.2 = iV (told (o1 ++ [res.2.2])) := by
      rw [told_app, iV_app, iV_length, List.append_assoc]
      congr 1
      show _ = iV ((res.2.2.length : Int) :: (res.2.2 ++ []))
      rw [List.append_nil]
      rfl
    rw [hfin]
    have ha3 : SqL K (dh (· = o) d (upd H2 o (.lst (iV (told (o1 ++ [res.2.2])))))) a (iV (put (dn ++ q :: td))) := by
      rw [dh_upd (G := (· = o)) rfl]
      exact Same.seq kp.dh ha'
    have hD3 : DeskAt (· = o) C (upd H2 o (.lst (iV (told (o1 ++ [res.2.2]))))) d res.1 res.2.1 := by
      obtain ⟨dx1, p, g, pl, h1, h2, h3, h4⟩ := hD2
      exact ⟨dx1, p, g, pl, by rw [upd_ne hdo]; exact h1, by rw [dh_upd (G := (· = o)) rfl]; exact h2, by rw [dh_upd (G := (· = o)) rfl]; exact h3, by rw [dh_upd (G := (· = o)) rfl]; exact h4⟩
    refine ⟨_, rfl, _, rfl, a, _, _, q, rfl, Same.seq (hg_same _ _) ha3, hat, hq, ?_⟩
    refine ⟨td.length, Nat.lt_succ_self _, dn ++ [q], td, o1 ++ [res.2.2], o2', res.1, res.2.1, some (.ref r), ?_, by simp, by simp, rfl, hD3, hR2, upd_same, ?_⟩
    · rw [put_app, List.length_append]
      show _ = [some (V.ref a), some (V.ref d), some (V.ref o), some (V.int (((put dn).length + (put1 q ++ []).length : Nat) : Int)), some (V.ref r)]
      rw [List.append_nil]
      rfl
    · exact ha3
end
end Ld
end
section
set_option Elab.async false
set_option maxRecDepth 100000
set_option maxHeartbeats 4000000
namespace Ld
open PySem PySem.Spec PyProof.Rows L2
section
variable {K : PySem.W.Frag} {h : Heap} {mg : Str → Option Value}
theorem defF_mk {f : Addr} {nm : Str} {st : Stmt} {ps : List Str} {od an : Option Addr} {sl : Array (Option Value)} {oc kV dc pm cd ct : Value} (hb : ∀ fd, Fun K nm nm st f fd → L2.Binds K fd ps []) (X : K.In h) (G : h.Ns mainGlobals mg)
    (a : PySem.W.nsIn K mainGlobals nm = some (some (.ref f))) (l : K.lookup f = some ⟨oc, od, .func (PySem.W.fnOf nm nm (defArgs st) (defBody st) (defScope st) .none kV dc pm an cd ct), sl⟩) (c : PySem.W.codeIn K cd nm = true) (k : PySem.W.keepIn K (.ref f) = true) : DefF K mg nm st ps :=
  ⟨f, _, PySem.W.mg_of X G a, fun_mk (st := st) l c k, hb _ (fun_mk (st := st) l c k)⟩
theorem defM_mk {C f : Addr} {m q : Str} {st : Stmt} {ps : List Str} {od an : Option Addr} {sl : Array (Option Value)} {oc kV dc pm cd ct : Value} (hb : ∀ fd, Fun K m q st f fd → L2.Binds K fd ps [])
    (a : PySem.W.findIn K (.ref C) m = some (some (.ref f))) (i : PySem.W.isFn K (.ref f) = true) (l : K.lookup f = some ⟨oc, od, .func (PySem.W.fnOf m q (defArgs st) (defBody st) (defScope st) .none kV dc pm an cd ct), sl⟩) (c : PySem.W.codeIn K cd q = true) (k : PySem.W.keepIn K (.ref f) = true) : DefM K C m q st ps :=
  ⟨f, _, ⟨a, i, k⟩, fun_mk (st := st) l c k, hb _ (fun_mk (st := st) l c k)⟩
theorem defI_mk {C f : Addr} {q : Str} {st : Stmt} {ps : List Str} {od an : Option Addr} {sl : Array (Option Value)} {oc kV dc pm cd ct : Value} (hb : ∀ fd, Fun K "__init__" q st f fd → L2.Binds K fd ps [])
    (a : PySem.W.findIn K (.ref C) "__init__" = some (some (.ref f))) (i : PySem.W.isFn K (.ref f) = true) (l : K.lookup f = some ⟨oc, od, .func (PySem.W.fnOf "__init__" q (defArgs st) (defBody st) (defScope st) .none kV dc pm an cd ct), sl⟩) (c : PySem.W.codeIn K cd q = true) (k : PySem.W.keepIn K (.ref f) = true)
    (mk : PySem.W.makesIn K C = true) (kc : PySem.W.keepIn K (.ref C) = true) : DefI K C q st ps :=
  ⟨f, _, ⟨mk, a, i, kc⟩, fun_mk (st := st) l c k, hb _ (fun_mk (st := st) l c k)⟩
theorem b_codes {f : Addr} : ∀ fd, Fun K "codes" "codes" (top 7) f fd → L2.Binds K fd ["word"] [] := fun _ F => F.binds (ps := ["word"]) fun _ _ _ _ _ _ us hl => match us, hl with | [_], _ => rfl
theorem b_which {f : Addr} : ∀ fd, Fun K "which" "which" (top 8) f fd → L2.Binds K fd ["word", "choices"] [] := fun _ F => F.binds (ps := ["word", "choices"]) fun _ _ _ _ _ _ us hl => match us, hl with | [_, _], _ => rfl
theorem b_is_digit {f : Addr} : ∀ fd, Fun K "is_digit" "is_digit" (top 9) f fd → L2.Binds K fd ["byte"] [] := fun _ F => F.binds (ps := ["byte"]) fun _ _ _ _ _ _ us hl => match us, hl with | [_], _ => rfl
theorem b_all_small {f : Addr} : ∀ fd, Fun K "all_small" "all_small" (top 10) f fd → L2.Binds K fd ["word"] [] := fun _ F => F.binds (ps := ["word"]) fun _ _ _ _ _ _ us hl => match us, hl with | [_], _ => rfl
theorem b_is_name {f : Addr} : ∀ fd, Fun K "is_name" "is_name" (top 11) f fd → L2.Binds K fd ["word"] [] := fun _ F => F.binds (ps := ["word"]) fun _ _ _ _ _ _ us hl => match us, hl with | [_], _ => rfl
theorem b_is_number {f : Addr} : ∀ fd, Fun K "is_number" "is_number" (top 12) f fd → L2.Binds K fd ["word"] [] := fun _ F => F.binds (ps := ["word"]) fun _ _ _ _ _ _ us hl => match us, hl with | [_], _ => rfl
theorem b_is_atom {f : Addr} : ∀ fd, Fun K "is_atom" "is_atom" (top 13) f fd → L2.Binds K fd ["word"] [] := fun _ F => F.binds (ps := ["word"]) fun _ _ _ _ _ _ us hl => match us, hl with | [_], _ => rfl
theorem b_number_of {f : Addr} : ∀ fd, Fun K "number_of" "number_of" (top 14) f fd → L2.Binds K fd ["word"] [] := fun _ F => F.binds (ps := ["word"]) fun _ _ _ _ _ _ us hl => match us, hl with | [_], _ => rfl
theorem b_run_lines {f : Addr} : ∀ fd, Fun K "run_lines" "run_lines" (top 21) f fd → L2.Binds K fd ["program", "data", "lines"] [] := fun _ F => F.binds (ps := ["program", "data", "lines"]) fun _ _ _ _ _ _ us hl => match us, hl with | [_, _, _], _ => rfl
theorem b_run_all {f : Addr} : ∀ fd, Fun K "run_all" "run_all" (top 22) f fd → L2.Binds K fd ["program", "data"] [] := fun _ F => F.binds (ps := ["program", "data"]) fun _ _ _ _ _ _ us hl => match us, hl with | [_, _], _ => rfl
theorem b_ends_well {f : Addr} : ∀ fd, Fun K "ends_well" "ends_well" (top 24) f fd → L2.Binds K fd ["text"] [] := fun _ F => F.binds (ps := ["text"]) fun _ _ _ _ _ _ us hl => match us, hl with | [_], _ => rfl
theorem b_rows_of {f : Addr} : ∀ fd, Fun K "rows_of" "rows_of" (top 25) f fd → L2.Binds K fd ["text"] [] := fun _ F => F.binds (ps := ["text"]) fun _ _ _ _ _ _ us hl => match us, hl with | [_], _ => rfl
theorem b_blanks_ahead {f : Addr} : ∀ fd, Fun K "blanks_ahead" "blanks_ahead" (top 26) f fd → L2.Binds K fd ["row"] [] := fun _ F => F.binds (ps := ["row"]) fun _ _ _ _ _ _ us hl => match us, hl with | [_], _ => rfl
theorem b_words_of {f : Addr} : ∀ fd, Fun K "words_of" "words_of" (top 27) f fd → L2.Binds K fd ["row"] [] := fun _ F => F.binds (ps := ["row"]) fun _ _ _ _ _ _ us hl => match us, hl with | [_], _ => rfl
theorem b_read_statement {f : Addr} : ∀ fd, Fun K "read_statement" "read_statement" (top 30) f fd → L2.Binds K fd ["row"] [] := fun _ F => F.binds (ps := ["row"]) fun _ _ _ _ _ _ us hl => match us, hl with | [_], _ => rfl
theorem b_read_stop {f : Addr} : ∀ fd, Fun K "read_stop" "read_stop" (top 31) f fd → L2.Binds K fd ["row", "words"] [] := fun _ F => F.binds (ps := ["row", "words"]) fun _ _ _ _ _ _ us hl => match us, hl with | [_, _], _ => rfl
theorem b_read_read {f : Addr} : ∀ fd, Fun K "read_read" "read_read" (top 32) f fd → L2.Binds K fd ["row", "words"] [] := fun _ F => F.binds (ps := ["row", "words"]) fun _ _ _ _ _ _ us hl => match us, hl with | [_, _], _ => rfl
theorem b_read_write {f : Addr} : ∀ fd, Fun K "read_write" "read_write" (top 33) f fd → L2.Binds K fd ["row", "words"] [] := fun _ F => F.binds (ps := ["row", "words"]) fun _ _ _ _ _ _ us hl => match us, hl with | [_, _], _ => rfl
theorem b_read_test {f : Addr} : ∀ fd, Fun K "read_test" "read_test" (top 34) f fd → L2.Binds K fd ["kind", "row", "words"] [] := fun _ F => F.binds (ps := ["kind", "row", "words"]) fun _ _ _ _ _ _ us hl => match us, hl with | [_, _, _], _ => rfl
theorem b_read_set {f : Addr} : ∀ fd, Fun K "read_set" "read_set" (top 35) f fd → L2.Binds K fd ["row", "words"] [] := fun _ F => F.binds (ps := ["row", "words"]) fun _ _ _ _ _ _ us hl => match us, hl with | [_, _], _ => rfl
theorem b_read_program {f : Addr} : ∀ fd, Fun K "read_program" "read_program" (top 41) f fd → L2.Binds K fd ["text"] [] := fun _ F => F.binds (ps := ["text"]) fun _ _ _ _ _ _ us hl => match us, hl with | [_], _ => rfl
theorem b_alone {f : Addr} : ∀ fd, Fun K "alone" "alone" (top 42) f fd → L2.Binds K fd ["program", "lines"] [] := fun _ F => F.binds (ps := ["program", "lines"]) fun _ _ _ _ _ _ us hl => match us, hl with | [_, _], _ => rfl
theorem b_one_row {f : Addr} : ∀ fd, Fun K "one_row" "one_row" (top 43) f fd → L2.Binds K fd ["deep", "written"] [] := fun _ F => F.binds (ps := ["deep", "written"]) fun _ _ _ _ _ _ us hl => match us, hl with | [_, _], _ => rfl
theorem b_text_of {f : Addr} : ∀ fd, Fun K "text_of" "text_of" (top 44) f fd → L2.Binds K fd ["program", "lines"] [] := fun _ F => F.binds (ps := ["program", "lines"]) fun _ _ _ _ _ _ us hl => match us, hl with | [_, _], _ => rfl
theorem b_rows_at {f : Addr} : ∀ fd, Fun K "rows_at" "rows_at" (top 46) f fd → L2.Binds K fd ["run", "places"] [] := fun _ F => F.binds (ps := ["run", "places"]) fun _ _ _ _ _ _ us hl => match us, hl with | [_, _], _ => rfl
theorem b_wanted_rows {f : Addr} : ∀ fd, Fun K "wanted_rows" "wanted_rows" (top 47) f fd → L2.Binds K fd ["program", "givens", "places"] [] := fun _ F => F.binds (ps := ["program", "givens", "places"]) fun _ _ _ _ _ _ us hl => match us, hl with | [_, _, _], _ => rfl
theorem b_go_through {f : Addr} : ∀ fd, Fun K "go_through" "go_through" (top 49) f fd → L2.Binds K fd ["measure", "lines"] [] := fun _ F => F.binds (ps := ["measure", "lines"]) fun _ _ _ _ _ _ us hl => match us, hl with | [_, _], _ => rfl
theorem b_one_by_one {f : Addr} : ∀ fd, Fun K "one_by_one" "one_by_one" (top 50) f fd → L2.Binds K fd ["measure"] [] := fun _ F => F.binds (ps := ["measure"]) fun _ _ _ _ _ _ us hl => match us, hl with | [_], _ => rfl
theorem b_one_longer {f : Addr} : ∀ fd, Fun K "one_longer" "one_longer" (top 51) f fd → L2.Binds K fd ["program", "choices"] [] := fun _ F => F.binds (ps := ["program", "choices"]) fun _ _ _ _ _ _ us hl => match us, hl with | [_, _], _ => rfl
theorem b_all_least {f : Addr} : ∀ fd, Fun K "all_least" "all_least" (top 52) f fd → L2.Binds K fd ["measure"] [] := fun _ F => F.binds (ps := ["measure"]) fun _ _ _ _ _ _ us hl => match us, hl with | [_], _ => rfl
theorem b_joined_lines {f : Addr} : ∀ fd, Fun K "joined_lines" "joined_lines" (top 53) f fd → L2.Binds K fd ["program", "givens", "places"] [] := fun _ F => F.binds (ps := ["program", "givens", "places"]) fun _ _ _ _ _ _ us hl => match us, hl with | [_, _, _], _ => rfl
theorem b_steps_behind {f : Addr} : ∀ fd, Fun K "steps_behind" "steps_behind" (top 55) f fd → L2.Binds K fd ["steps", "number"] [] := fun _ F => F.binds (ps := ["steps", "number"]) fun _ _ _ _ _ _ us hl => match us, hl with | [_, _], _ => rfl
theorem b_in_words {f : Addr} : ∀ fd, Fun K "in_words" "in_words" (top 56) f fd → L2.Binds K fd ["program", "step"] [] := fun _ F => F.binds (ps := ["program", "step"]) fun _ _ _ _ _ _ us hl => match us, hl with | [_, _], _ => rfl
theorem b_counted {f : Addr} : ∀ fd, Fun K "counted" "counted" (top 62) f fd → L2.Binds K fd ["things"] [] := fun _ F => F.binds (ps := ["things"]) fun _ _ _ _ _ _ us hl => match us, hl with | [_], _ => rfl
theorem b_all_values {f : Addr} : ∀ fd, Fun K "all_values" "all_values" (top 63) f fd → L2.Binds K fd ["numbers"] [] := fun _ F => F.binds (ps := ["numbers"]) fun _ _ _ _ _ _ us hl => match us, hl with | [_], _ => rfl
theorem b_rising_lines {f : Addr} : ∀ fd, Fun K "rising_lines" "rising_lines" (top 64) f fd → L2.Binds K fd ["numbers", "many"] [] := fun _ F => F.binds (ps := ["numbers", "many"]) fun _ _ _ _ _ _ us hl => match us, hl with | [_, _], _ => rfl
theorem b_has_row {f : Addr} : ∀ fd, Fun K "has_row" "has_row" (top 67) f fd → L2.Binds K fd ["op"] [] := fun _ F => F.binds (ps := ["op"]) fun _ _ _ _ _ _ us hl => match us, hl with | [_], _ => rfl
theorem b_how_many_numbers {f : Addr} : ∀ fd, Fun K "how_many_numbers" "how_many_numbers" (top 68) f fd → L2.Binds K fd ["op"] [] := fun _ F => F.binds (ps := ["op"]) fun _ _ _ _ _ _ us hl => match us, hl with | [_], _ => rfl
theorem b_call_end {f : Addr} : ∀ fd, Fun K "call_end" "call_end" (top 69) f fd → L2.Binds K fd ["calls", "at"] [] := fun _ F => F.binds (ps := ["calls", "at"]) fun _ _ _ _ _ _ us hl => match us, hl with | [_, _], _ => rfl
theorem b_answer_row {f : Addr} : ∀ fd, Fun K "answer_row" "answer_row" (top 70) f fd → L2.Binds K fd ["desk", "op", "row"] [] := fun _ F => F.binds (ps := ["desk", "op", "row"]) fun _ _ _ _ _ _ us hl => match us, hl with | [_, _, _], _ => rfl
theorem b_answer_plain {f : Addr} : ∀ fd, Fun K "answer_plain" "answer_plain" (top 71) f fd → L2.Binds K fd ["desk", "op"] [] := fun _ F => F.binds (ps := ["desk", "op"]) fun _ _ _ _ _ _ us hl => match us, hl with | [_, _], _ => rfl
theorem b_answer_call {f : Addr} : ∀ fd, Fun K "answer_call" "answer_call" (top 72) f fd → L2.Binds K fd ["desk", "calls", "at"] [] := fun _ F => F.binds (ps := ["desk", "calls", "at"]) fun _ _ _ _ _ _ us hl => match us, hl with | [_, _, _], _ => rfl
theorem b_answers {f : Addr} : ∀ fd, Fun K "answers" "answers" (top 73) f fd → L2.Binds K fd ["calls"] [] := fun _ F => F.binds (ps := ["calls"]) fun _ _ _ _ _ _ us hl => match us, hl with | [_], _ => rfl
theorem b_Run_init {f : Addr} : ∀ fd, Fun K "__init__" "Run.__init__" (inClass (top 20) 0) f fd → L2.Binds K fd ["self", "program", "data", "lines"] [] := fun _ F => F.binds (ps := ["self", "program", "data", "lines"]) fun _ _ _ _ _ _ us hl => match us, hl with | [_, _, _, _], _ => rfl
theorem b_Run_value {f : Addr} : ∀ fd, Fun K "value" "Run.value" (inClass (top 20) 1) f fd → L2.Binds K fd ["self", "atom"] [] := fun _ F => F.binds (ps := ["self", "atom"]) fun _ _ _ _ _ _ us hl => match us, hl with | [_, _], _ => rfl
theorem b_Run_sources {f : Addr} : ∀ fd, Fun K "sources" "Run.sources" (inClass (top 20) 2) f fd → L2.Binds K fd ["self", "line", "let"] [] := fun _ F => F.binds (ps := ["self", "line", "let"]) fun _ _ _ _ _ _ us hl => match us, hl with | [_, _, _], _ => rfl
theorem b_Run_make_step {f : Addr} : ∀ fd, Fun K "make_step" "Run.make_step" (inClass (top 20) 3) f fd → L2.Binds K fd ["self", "line", "value", "froms"] [] := fun _ F => F.binds (ps := ["self", "line", "value", "froms"]) fun _ _ _ _ _ _ us hl => match us, hl with | [_, _, _, _], _ => rfl
theorem b_Run_reckon {f : Addr} : ∀ fd, Fun K "reckon" "Run.reckon" (inClass (top 20) 4) f fd → L2.Binds K fd ["self", "statement"] [] := fun _ F => F.binds (ps := ["self", "statement"]) fun _ _ _ _ _ _ us hl => match us, hl with | [_, _], _ => rfl
theorem b_Run_holds {f : Addr} : ∀ fd, Fun K "holds" "Run.holds" (inClass (top 20) 5) f fd → L2.Binds K fd ["self", "statement"] [] := fun _ F => F.binds (ps := ["self", "statement"]) fun _ _ _ _ _ _ us hl => match us, hl with | [_, _], _ => rfl
theorem b_Run_do_block {f : Addr} : ∀ fd, Fun K "do_block" "Run.do_block" (inClass (top 20) 6) f fd → L2.Binds K fd ["self", "parent", "side", "let"] [] := fun _ F => F.binds (ps := ["self", "parent", "side", "let"]) fun _ _ _ _ _ _ us hl => match us, hl with | [_, _, _, _], _ => rfl
theorem b_Run_do_line {f : Addr} : ∀ fd, Fun K "do_line" "Run.do_line" (inClass (top 20) 7) f fd → L2.Binds K fd ["self", "line", "let"] [] := fun _ F => F.binds (ps := ["self", "line", "let"]) fun _ _ _ _ _ _ us hl => match us, hl with | [_, _, _], _ => rfl
theorem b_Run_do_set {f : Addr} : ∀ fd, Fun K "do_set" "Run.do_set" (inClass (top 20) 8) f fd → L2.Binds K fd ["self", "line", "let"] [] := fun _ F => F.binds (ps := ["self", "line", "let"]) fun _ _ _ _ _ _ us hl => match us, hl with | [_, _, _], _ => rfl
theorem b_Run_do_read {f : Addr} : ∀ fd, Fun K "do_read" "Run.do_read" (inClass (top 20) 9) f fd → L2.Binds K fd ["self", "line", "let"] [] := fun _ F => F.binds (ps := ["self", "line", "let"]) fun _ _ _ _ _ _ us hl => match us, hl with | [_, _, _], _ => rfl
theorem b_Run_do_write {f : Addr} : ∀ fd, Fun K "do_write" "Run.do_write" (inClass (top 20) 10) f fd → L2.Binds K fd ["self", "line", "let"] [] := fun _ F => F.binds (ps := ["self", "line", "let"]) fun _ _ _ _ _ _ us hl => match us, hl with | [_, _, _], _ => rfl
theorem b_Run_do_stop {f : Addr} : ∀ fd, Fun K "do_stop" "Run.do_stop" (inClass (top 20) 11) f fd → L2.Binds K fd ["self", "line", "let"] [] := fun _ F => F.binds (ps := ["self", "line", "let"]) fun _ _ _ _ _ _ us hl => match us, hl with | [_, _, _], _ => rfl
theorem b_Run_do_test {f : Addr} : ∀ fd, Fun K "do_test" "Run.do_test" (inClass (top 20) 12) f fd → L2.Binds K fd ["self", "line", "let"] [] := fun _ F => F.binds (ps := ["self", "line", "let"]) fun _ _ _ _ _ _ us hl => match us, hl with | [_, _, _], _ => rfl
theorem b_Run_do_if {f : Addr} : ∀ fd, Fun K "do_if" "Run.do_if" (inClass (top 20) 13) f fd → L2.Binds K fd ["self", "line", "let"] [] := fun _ F => F.binds (ps := ["self", "line", "let"]) fun _ _ _ _ _ _ us hl => match us, hl with | [_, _, _], _ => rfl
theorem b_Run_do_while {f : Addr} : ∀ fd, Fun K "do_while" "Run.do_while" (inClass (top 20) 14) f fd → L2.Binds K fd ["self", "line", "let"] [] := fun _ F => F.binds (ps := ["self", "line", "let"]) fun _ _ _ _ _ _ us hl => match us, hl with | [_, _, _], _ => rfl
theorem b_Run_ask_again {f : Addr} : ∀ fd, Fun K "ask_again" "Run.ask_again" (inClass (top 20) 15) f fd → L2.Binds K fd ["self", "line", "last"] [] := fun _ F => F.binds (ps := ["self", "line", "last"]) fun _ _ _ _ _ _ us hl => match us, hl with | [_, _, _], _ => rfl
theorem b_Run_row {f : Addr} : ∀ fd, Fun K "row" "Run.row" (inClass (top 20) 16) f fd → L2.Binds K fd ["self", "line"] [] := fun _ F => F.binds (ps := ["self", "line"]) fun _ _ _ _ _ _ us hl => match us, hl with | [_, _], _ => rfl
theorem b_Run_numbers_at {f : Addr} : ∀ fd, Fun K "numbers_at" "Run.numbers_at" (inClass (top 20) 17) f fd → L2.Binds K fd ["self", "line"] [] := fun _ F => F.binds (ps := ["self", "line"]) fun _ _ _ _ _ _ us hl => match us, hl with | [_, _], _ => rfl
theorem b_Statement_init {f : Addr} : ∀ fd, Fun K "__init__" "Statement.__init__" (inClass (top 29) 0) f fd → L2.Binds K fd ["self", "kind", "written", "name", "atoms", "sign"] [] := fun _ F => F.binds (ps := ["self", "kind", "written", "name", "atoms", "sign"]) fun _ _ _ _ _ _ us hl => match us, hl with | [_, _, _, _, _, _], _ => rfl
theorem b_Statement_is_header {f : Addr} : ∀ fd, Fun K "is_header" "Statement.is_header" (inClass (top 29) 1) f fd → L2.Binds K fd ["self"] [] := fun _ F => F.binds (ps := ["self"]) fun _ _ _ _ _ _ us hl => match us, hl with | [_], _ => rfl
theorem b_Program_init {f : Addr} : ∀ fd, Fun K "__init__" "Program.__init__" (inClass (top 39) 0) f fd → L2.Binds K fd ["self"] [] := fun _ F => F.binds (ps := ["self"]) fun _ _ _ _ _ _ us hl => match us, hl with | [_], _ => rfl
theorem b_Program_join_line {f : Addr} : ∀ fd, Fun K "join_line" "Program.join_line" (inClass (top 39) 1) f fd → L2.Binds K fd ["self", "statement", "parent", "side"] [] := fun _ F => F.binds (ps := ["self", "statement", "parent", "side"]) fun _ _ _ _ _ _ us hl => match us, hl with | [_, _, _, _], _ => rfl
theorem b_Program_many {f : Addr} : ∀ fd, Fun K "many" "Program.many" (inClass (top 39) 2) f fd → L2.Binds K fd ["self"] [] := fun _ F => F.binds (ps := ["self"]) fun _ _ _ _ _ _ us hl => match us, hl with | [_], _ => rfl
theorem b_Program_inside {f : Addr} : ∀ fd, Fun K "inside" "Program.inside" (inClass (top 39) 3) f fd → L2.Binds K fd ["self", "parent", "side"] [] := fun _ F => F.binds (ps := ["self", "parent", "side"]) fun _ _ _ _ _ _ us hl => match us, hl with | [_, _, _], _ => rfl
theorem b_Program_depth {f : Addr} : ∀ fd, Fun K "depth" "Program.depth" (inClass (top 39) 4) f fd → L2.Binds K fd ["self", "line"] [] := fun _ F => F.binds (ps := ["self", "line"]) fun _ _ _ _ _ _ us hl => match us, hl with | [_, _], _ => rfl
theorem b_Reader_init {f : Addr} : ∀ fd, Fun K "__init__" "Reader.__init__" (inClass (top 40) 0) f fd → L2.Binds K fd ["self"] [] := fun _ F => F.binds (ps := ["self"]) fun _ _ _ _ _ _ us hl => match us, hl with | [_], _ => rfl
theorem b_Reader_take {f : Addr} : ∀ fd, Fun K "take" "Reader.take" (inClass (top 40) 1) f fd → L2.Binds K fd ["self", "row"] [] := fun _ F => F.binds (ps := ["self", "row"]) fun _ _ _ _ _ _ us hl => match us, hl with | [_, _], _ => rfl
theorem b_Reader_take_else {f : Addr} : ∀ fd, Fun K "take_else" "Reader.take_else" (inClass (top 40) 2) f fd → L2.Binds K fd ["self", "deep"] [] := fun _ F => F.binds (ps := ["self", "deep"]) fun _ _ _ _ _ _ us hl => match us, hl with | [_, _], _ => rfl
theorem b_Reader_take_statement {f : Addr} : ∀ fd, Fun K "take_statement" "Reader.take_statement" (inClass (top 40) 3) f fd → L2.Binds K fd ["self", "deep", "rest"] [] := fun _ F => F.binds (ps := ["self", "deep", "rest"]) fun _ _ _ _ _ _ us hl => match us, hl with | [_, _, _], _ => rfl
theorem b_Measure_init {f : Addr} : ∀ fd, Fun K "__init__" "Measure.__init__" (inClass (top 48) 0) f fd → L2.Binds K fd ["self", "program", "givens", "places"] [] := fun _ F => F.binds (ps := ["self", "program", "givens", "places"]) fun _ _ _ _ _ _ us hl => match us, hl with | [_, _, _, _], _ => rfl
theorem b_Measure_is_enough {f : Addr} : ∀ fd, Fun K "is_enough" "Measure.is_enough" (inClass (top 48) 1) f fd → L2.Binds K fd ["self", "lines"] [] := fun _ F => F.binds (ps := ["self", "lines"]) fun _ _ _ _ _ _ us hl => match us, hl with | [_, _], _ => rfl
theorem b_Desk_init {f : Addr} : ∀ fd, Fun K "__init__" "Desk.__init__" (inClass (top 65) 0) f fd → L2.Binds K fd ["self"] [] := fun _ F => F.binds (ps := ["self"]) fun _ _ _ _ _ _ us hl => match us, hl with | [_], _ => rfl
theorem b_Desk_has_line {f : Addr} : ∀ fd, Fun K "has_line" "Desk.has_line" (inClass (top 65) 1) f fd → L2.Binds K fd ["self", "line"] [] := fun _ F => F.binds (ps := ["self", "line"]) fun _ _ _ _ _ _ us hl => match us, hl with | [_, _], _ => rfl
theorem b_Desk_has_given {f : Addr} : ∀ fd, Fun K "has_given" "Desk.has_given" (inClass (top 65) 2) f fd → L2.Binds K fd ["self", "i"] [] := fun _ F => F.binds (ps := ["self", "i"]) fun _ _ _ _ _ _ us hl => match us, hl with | [_, _], _ => rfl
theorem b_Desk_measure {f : Addr} : ∀ fd, Fun K "measure" "Desk.measure" (inClass (top 65) 3) f fd → L2.Binds K fd ["self"] [] := fun _ F => F.binds (ps := ["self"]) fun _ _ _ _ _ _ us hl => match us, hl with | [_], _ => rfl
theorem b_Desk_answer_program {f : Addr} : ∀ fd, Fun K "answer_program" "Desk.answer_program" (inClass (top 65) 4) f fd → L2.Binds K fd ["self", "text"] [] := fun _ F => F.binds (ps := ["self", "text"]) fun _ _ _ _ _ _ us hl => match us, hl with | [_, _], _ => rfl
theorem b_Desk_answer_given {f : Addr} : ∀ fd, Fun K "answer_given" "Desk.answer_given" (inClass (top 65) 5) f fd → L2.Binds K fd ["self", "given"] [] := fun _ F => F.binds (ps := ["self", "given"]) fun _ _ _ _ _ _ us hl => match us, hl with | [_, _], _ => rfl
theorem b_Desk_answer_place {f : Addr} : ∀ fd, Fun K "answer_place" "Desk.answer_place" (inClass (top 65) 6) f fd → L2.Binds K fd ["self", "line"] [] := fun _ F => F.binds (ps := ["self", "line"]) fun _ _ _ _ _ _ us hl => match us, hl with | [_, _], _ => rfl
theorem b_Desk_answer_clear {f : Addr} : ∀ fd, Fun K "answer_clear" "Desk.answer_clear" (inClass (top 65) 7) f fd → L2.Binds K fd ["self"] [] := fun _ F => F.binds (ps := ["self"]) fun _ _ _ _ _ _ us hl => match us, hl with | [_], _ => rfl
theorem b_Desk_answer_enough {f : Addr} : ∀ fd, Fun K "answer_enough" "Desk.answer_enough" (inClass (top 65) 8) f fd → L2.Binds K fd ["self", "kept"] [] := fun _ F => F.binds (ps := ["self", "kept"]) fun _ _ _ _ _ _ us hl => match us, hl with | [_, _], _ => rfl
theorem b_Desk_answer_byone {f : Addr} : ∀ fd, Fun K "answer_byone" "Desk.answer_byone" (inClass (top 65) 9) f fd → L2.Binds K fd ["self"] [] := fun _ F => F.binds (ps := ["self"]) fun _ _ _ _ _ _ us hl => match us, hl with | [_], _ => rfl
theorem b_Desk_answer_least {f : Addr} : ∀ fd, Fun K "answer_least" "Desk.answer_least" (inClass (top 65) 10) f fd → L2.Binds K fd ["self"] [] := fun _ F => F.binds (ps := ["self"]) fun _ _ _ _ _ _ us hl => match us, hl with | [_], _ => rfl
theorem b_Desk_answer_joined {f : Addr} : ∀ fd, Fun K "answer_joined" "Desk.answer_joined" (inClass (top 65) 11) f fd → L2.Binds K fd ["self"] [] := fun _ F => F.binds (ps := ["self"]) fun _ _ _ _ _ _ us hl => match us, hl with | [_], _ => rfl
theorem b_Desk_answer_rows {f : Addr} : ∀ fd, Fun K "answer_rows" "Desk.answer_rows" (inClass (top 65) 12) f fd → L2.Binds K fd ["self", "i"] [] := fun _ F => F.binds (ps := ["self", "i"]) fun _ _ _ _ _ _ us hl => match us, hl with | [_, _], _ => rfl
theorem b_Desk_refuse_value {f : Addr} : ∀ fd, Fun K "refuse_value" "Desk.refuse_value" (inClass (top 65) 13) f fd → L2.Binds K fd ["self", "i", "line", "k"] [] := fun _ F => F.binds (ps := ["self", "i", "line", "k"]) fun _ _ _ _ _ _ us hl => match us, hl with | [_, _, _, _], _ => rfl
theorem b_Desk_answer_explain {f : Addr} : ∀ fd, Fun K "answer_explain" "Desk.answer_explain" (inClass (top 65) 14) f fd → L2.Binds K fd ["self", "i", "line", "k"] [] := fun _ F => F.binds (ps := ["self", "i", "line", "k"]) fun _ _ _ _ _ _ us hl => match us, hl with | [_, _, _, _], _ => rfl
theorem b_Desk_answer_chain {f : Addr} : ∀ fd, Fun K "answer_chain" "Desk.answer_chain" (inClass (top 65) 15) f fd → L2.Binds K fd ["self", "i", "line", "k"] [] := fun _ F => F.binds (ps := ["self", "i", "line", "k"]) fun _ _ _ _ _ _ us hl => match us, hl with | [_, _, _, _], _ => rfl
theorem b_Desk_answer_size {f : Addr} : ∀ fd, Fun K "answer_size" "Desk.answer_size" (inClass (top 65) 16) f fd → L2.Binds K fd ["self"] [] := fun _ F => F.binds (ps := ["self"]) fun _ _ _ _ _ _ us hl => match us, hl with | [_], _ => rfl
theorem all_mk {P : Program} {w : World} {fa f c1 c2 c3 c4 c5 c6 : Addr} {od an : Option Addr} {sl : Array (Option Value)} {oc kV dc pm cd ct : Value} (X : K.In h) (G : h.Ns mainGlobals mg) (hfa : mg "answers" = some (.ref fa))
    (a : PySem.W.nsIn K mainGlobals "answers" = some (some (.ref f))) (l : K.lookup f = some ⟨oc, od, .func (PySem.W.fnOf "answers" "answers" (defArgs (top 73)) (defBody (top 73)) (defScope (top 73)) .none kV dc pm an cd ct), sl⟩) (c : PySem.W.codeIn K cd "answers" = true) (k : PySem.W.keepIn K (.ref f) = true)
    (a1 : PySem.W.nsIn K mainGlobals "Run" = some (some (.ref c1))) (a2 : PySem.W.nsIn K mainGlobals "Statement" = some (some (.ref c2))) (a3 : PySem.W.nsIn K mainGlobals "Program" = some (some (.ref c3))) (a4 : PySem.W.nsIn K mainGlobals "Reader" = some (some (.ref c4))) (a5 : PySem.W.nsIn K mainGlobals "Measure" = some (some (.ref c5))) (a6 : PySem.W.nsIn K mainGlobals "Desk" = some (some (.ref c6)))
    (T : mg "Run" = some (.ref c1) → mg "Statement" = some (.ref c2) → mg "Program" = some (.ref c3) → mg "Reader" = some (.ref c4) → mg "Measure" = some (.ref c5) → mg "Desk" = some (.ref c6) → Txt K mg ⟨c1, c2, c3, c4, c5, c6⟩) :
    ∃ fd : FuncData, (∀ (s : Shared) (us : List Value), us.length = (["calls"] : List Str).length → BindsTo s fd ⟨us, []⟩ ((["calls"] : List Str).zip us)) ∧ ∀ base : Heap, K.In base → base.Ns mainGlobals mg → FnOk P w K mg base CX0 34 fa fd ["calls"] (spAnswers K) := by
  have e := hfa.symm.trans (PySem.W.mg_of X G a)
  cases e
  have F := fun_mk (st := top 73) l c k
  exact ⟨PySem.W.fnOf "answers" "answers" (defArgs (top 73)) (defBody (top 73)) (defScope (top 73)) .none kV dc pm an cd ct, fun s us hu => match us, hu with | [_], _ => .of_eq rfl, fun base _ _ => fn_answers (T (PySem.W.mg_of X G a1) (PySem.W.mg_of X G a2) (PySem.W.mg_of X G a3) (PySem.W.mg_of X G a4) (PySem.W.mg_of X G a5) (PySem.W.mg_of X G a6)) F⟩
end
end Ld
end
section
set_option Elab.async false
set_option maxHeartbeats 1000000
namespace Ld
open Vaslca (Text Name Atom Expr Cond Op Rel Code Info ascii isName isAtom isExpr isCond atomText linesOf deepOf isDone areStatements only indent isProgram infosIn infosOf infoAt)
/-! ### a code's lines in the flat program -/
def ins : List PL → Nat → Int → Nat → List Nat
  | [], _, _, _ => []
  | l :: r, m, x, y => (if l.parent = x ∧ l.side = y then [m] else []) ++ ins r (m + 1) x y
theorem ins_append : ∀ (a b : List PL) (m : Nat) (x : Int) (y : Nat), ins (a ++ b) m x y = ins a m x y ++ ins b (m + a.length) x y
  | [], b, m, x, y => by simp [ins]
  | l :: a, b, m, x, y => by
    rw [List.cons_append]
    show _ ++ ins (a ++ b) (m + 1) x y = (_ ++ ins a (m + 1) x y) ++ _
    rw [ins_append a b, List.append_assoc, List.length_cons, show m + 1 + a.length = m + (a.length + 1) by omega]
theorem ins_none {P : List PL} {x : Int} {y : Nat} (h : ∀ l ∈ P, ¬ (l.parent = x ∧ l.side = y)) (m : Nat) : ins P m x y = [] := by
  induction P generalizing m with
  | nil => rfl
  | cons l r ih =>
    show (if _ then [m] else []) ++ ins r (m + 1) x y = []
    rw [if_neg (h l (by simp)), ih (fun z hz => h z (List.mem_cons_of_mem _ hz))]
    rfl
theorem inside_ins (P : List PL) (x : Int) (y : Nat) : insideL P x y = ins P 0 x y := by
  have g : ∀ (Q : List PL) (pre : List PL), P = pre ++ Q → (List.range' pre.length Q.length).filter (isIn P x y) = ins Q pre.length x y := by
    intro Q
    induction Q with
    | nil => intro pre _; rfl
    | cons l r ih =>
      intro pre h
      have i2 := ih (pre ++ [l]) (by rw [h]; simp)
      rw [List.length_append] at i2
      have gl : P[pre.length]? = some l := by rw [h, List.getElem?_append_right (Nat.le_refl _)]; simp
      have e : isIn P x y pre.length = (decide (l.parent = x) && decide (l.side = y)) := by unfold isIn; rw [gl]
      rw [List.length_cons, List.range'_succ, List.filter_cons, e]
      show _ = (if l.parent = x ∧ l.side = y then [pre.length] else []) ++ ins r (pre.length + 1) x y
      have i3 : List.filter (isIn P x y) (List.range' (pre.length + 1) r.length) = ins r (pre.length + 1) x y := i2
      rw [i3]
      by_cases h1 : l.parent = x <;> by_cases h2 : l.side = y <;> simp [h1, h2]
  have := g P [] rfl
  unfold insideL
  rw [List.range_eq_range']
  exact this
theorem flat_mem : ∀ (c : Code) (m : Nat) (p : Int) (s : Nat), Rows m c → ∀ l ∈ flat p s c, (l.parent = p ∧ l.side = s) ∨ ((m : Int) ≤ l.parent ∧ l.parent < (m : Int) + (linesOf c).length)
  | .done, _, _, _, _, l, hl => by cases hl
  | .set k v e r, m, p, s, h, l, hl => by
    obtain ⟨rfl, hr⟩ := rows_set h
    have hl' : l = ⟨.set v e, p, s⟩ ∨ l ∈ flat p s r := List.mem_cons.mp hl
    rcases hl' with rfl | hl'
    · exact .inl ⟨rfl, rfl⟩
    · rcases flat_mem r _ p s hr l hl' with z | z
      · exact .inl z
      · refine .inr ?_
        simp only [linesOf, List.length_cons]
        omega
  | .read k v r, m, p, s, h, l, hl => by
    obtain ⟨rfl, hr⟩ := rows_read h
    have hl' : l = ⟨.read v, p, s⟩ ∨ l ∈ flat p s r := List.mem_cons.mp hl
    rcases hl' with rfl | hl'
    · exact .inl ⟨rfl, rfl⟩
    · rcases flat_mem r _ p s hr l hl' with z | z
      · exact .inl z
      · refine .inr ?_
        simp only [linesOf, List.length_cons]
        omega
  | .write k a r, m, p, s, h, l, hl => by
    obtain ⟨rfl, hr⟩ := rows_write h
    have hl' : l = ⟨.write a, p, s⟩ ∨ l ∈ flat p s r := List.mem_cons.mp hl
    rcases hl' with rfl | hl'
    · exact .inl ⟨rfl, rfl⟩
    · rcases flat_mem r _ p s hr l hl' with z | z
      · exact .inl z
      · refine .inr ?_
        simp only [linesOf, List.length_cons]
        omega
  | .halt_ k r, m, p, s, h, l, hl => by
    obtain ⟨rfl, hr⟩ := rows_halt h
    have hl' : l = ⟨.halt, p, s⟩ ∨ l ∈ flat p s r := List.mem_cons.mp hl
    rcases hl' with rfl | hl'
    · exact .inl ⟨rfl, rfl⟩
    · rcases flat_mem r _ p s hr l hl' with z | z
      · exact .inl z
      · refine .inr ?_
        simp only [linesOf, List.length_cons]
        omega
  | .ite k c a b r, m, p, s, h, l, hl => by
    obtain ⟨rfl, ha, hb, hr⟩ := rows_ite h
    have hl' : l = ⟨.ite c, p, s⟩ ∨ l ∈ flat k 0 a ++ (flat k 1 b ++ flat p s r) := List.mem_cons.mp hl
    simp only [linesOf, List.length_cons, List.length_append]
    rcases hl' with rfl | hl'
    · exact .inl ⟨rfl, rfl⟩
    · rcases List.mem_append.mp hl' with z | z
      · rcases flat_mem a _ _ _ ha l z with y | y
        · exact .inr (by omega)
        · exact .inr (by omega)
      · rcases List.mem_append.mp z with z | z
        · rcases flat_mem b _ _ _ hb l z with y | y
          · exact .inr (by omega)
          · exact .inr (by omega)
        · rcases flat_mem r _ _ _ hr l z with y | y
          · exact .inl y
          · exact .inr (by omega)
  | .loop k c b r, m, p, s, h, l, hl => by
    obtain ⟨rfl, hb, hr⟩ := rows_loop h
    have hl' : l = ⟨.loop c, p, s⟩ ∨ l ∈ flat k 0 b ++ flat p s r := List.mem_cons.mp hl
    simp only [linesOf, List.length_cons, List.length_append]
    rcases hl' with rfl | hl'
    · exact .inl ⟨rfl, rfl⟩
    · rcases List.mem_append.mp hl' with z | z
      · rcases flat_mem b _ _ _ hb l z with y | y
        · exact .inr (by omega)
        · exact .inr (by omega)
      · rcases flat_mem r _ _ _ hr l z with y | y
        · exact .inl y
        · exact .inr (by omega)
/-- none stands elsewhere -/
theorem ins_far {c : Code} {m : Nat} {p : Int} {s : Nat} (h : Rows m c) {x : Int} {y : Nat} (h1 : ¬ (p = x ∧ s = y)) (h2 : x < m ∨ (m : Int) + (linesOf c).length ≤ x) (k : Nat) : ins (flat p s c) k x y = [] := by
  refine ins_none (fun l hl => ?_) k
  rintro ⟨e1, e2⟩
  rcases flat_mem c m p s h l hl with z | z
  · exact h1 ⟨by rw [← z.1, e1], by rw [← z.2, e2]⟩
  · omega
theorem ins_cons (l : PL) (r : List PL) (m : Nat) (x : Int) (y : Nat) : ins (l :: r) m x y = (if l.parent = x ∧ l.side = y then [m] else []) ++ ins r (m + 1) x y := rfl
theorem ins_top : ∀ (c : Code) (m : Nat) (p : Int) (s : Nat), Rows m c → p < (m : Int) → ins (flat p s c) m p s = tops c
  | .done, _, _, _, _, _ => rfl
  | .set k v e r, m, p, s, h, hp => by
    obtain ⟨rfl, hr⟩ := rows_set h
    show ins (_ :: flat p s r) k p s = k :: tops r
    rw [ins_cons, if_pos ⟨rfl, rfl⟩, ins_top r _ p s hr (by omega)]
    rfl
  | .read k v r, m, p, s, h, hp => by
    obtain ⟨rfl, hr⟩ := rows_read h
    show ins (_ :: flat p s r) k p s = k :: tops r
    rw [ins_cons, if_pos ⟨rfl, rfl⟩, ins_top r _ p s hr (by omega)]
    rfl
  | .write k a r, m, p, s, h, hp => by
    obtain ⟨rfl, hr⟩ := rows_write h
    show ins (_ :: flat p s r) k p s = k :: tops r
    rw [ins_cons, if_pos ⟨rfl, rfl⟩, ins_top r _ p s hr (by omega)]
    rfl
  | .halt_ k r, m, p, s, h, hp => by
    obtain ⟨rfl, hr⟩ := rows_halt h
    show ins (_ :: flat p s r) k p s = k :: tops r
    rw [ins_cons, if_pos ⟨rfl, rfl⟩, ins_top r _ p s hr (by omega)]
    rfl
  | .ite k c a b r, m, p, s, h, hp => by
    obtain ⟨rfl, ha, hb, hr⟩ := rows_ite h
    show ins (_ :: (flat k 0 a ++ (flat k 1 b ++ flat p s r))) k p s = k :: tops r
    rw [ins_cons, if_pos ⟨rfl, rfl⟩, ins_append, ins_append, ins_far ha (by omega) (by omega), ins_far hb (by omega) (by omega), flat_length, flat_length, ins_top r _ p s hr (by omega)]
    rfl
  | .loop k c b r, m, p, s, h, hp => by
    obtain ⟨rfl, hb, hr⟩ := rows_loop h
    show ins (_ :: (flat k 0 b ++ flat p s r)) k p s = k :: tops r
    rw [ins_cons, if_pos ⟨rfl, rfl⟩, ins_append, ins_far hb (by omega) (by omega), flat_length, ins_top r _ p s hr (by omega)]
    rfl
/-- where a code stands -/
structure At (P : List PL) (p : Int) (s n : Nat) (c : Code) (pre post : List PL) : Prop where
  eq : P = pre ++ (flat p s c ++ post)
  len : pre.length = n
  rows : Rows n c
  par : p < (n : Int)
  bef : ∀ l ∈ pre, l.parent < (n : Int)
  aft : ∀ l ∈ post, l.parent < (n : Int) ∨ (n : Int) + (linesOf c).length ≤ l.parent
theorem At.next {P : List PL} {p : Int} {s n : Nat} {c r : Code} {h : Head} {pre post : List PL} (x : At P p s n c pre post) (hf : flat p s c = ⟨h, p, s⟩ :: flat p s r) (hr : Rows (n + 1) r) (hl : (linesOf c).length = (linesOf r).length + 1) : At P p s (n + 1) r (pre ++ [⟨h, p, s⟩]) post := by
  refine ⟨by rw [x.eq, hf]; simp, by simp [x.len], hr, by have := x.par; omega, fun l hl => ?_, fun l hl' => ?_⟩
  · have hp := x.par
    rcases List.mem_append.mp hl with z | z
    · have := x.bef l z; omega
    · rw [List.mem_singleton.mp z]; show p < _; omega
  · rcases x.aft l hl' with z | z
    · exact .inl (by omega)
    · exact .inr (by omega)
theorem At.get {P : List PL} {p : Int} {s n : Nat} {c : Code} {l : PL} {r pre post : List PL} (x : At P p s n c pre post) (hf : flat p s c = l :: r) : P[n]? = some l := by
  rw [x.eq, List.getElem?_append_right (by rw [x.len]; exact Nat.le_refl n), x.len, Nat.sub_self, hf]
  rfl
theorem At.ite {P : List PL} {p : Int} {s n : Nat} {m : Nat} {q : Cond} {a b r : Code} {pre post : List PL} (x : At P p s n (.ite m q a b r) pre post) : m = n ∧
    At P (n : Int) 0 (n + 1) a (pre ++ [⟨.ite q, p, s⟩]) (flat n 1 b ++ (flat p s r ++ post)) ∧
    At P (n : Int) 1 (n + 1 + (linesOf a).length) b (pre ++ ⟨.ite q, p, s⟩ :: flat n 0 a) (flat p s r ++ post) ∧
    At P p s (n + 1 + (linesOf a).length + (linesOf b).length) r (pre ++ ⟨.ite q, p, s⟩ :: (flat n 0 a ++ flat n 1 b)) post := by
  obtain ⟨eq, len, rows, par, bef, aft⟩ := x
  obtain ⟨rfl, ha, hb, hr⟩ := rows_ite rows
  have el : (linesOf (.ite m q a b r)).length = (linesOf a).length + (linesOf b).length + (linesOf r).length + 1 := by simp only [linesOf, List.length_cons, List.length_append]; omega
  rw [el] at aft
  have pa := flat_mem a _ (m : Int) 0 ha
  have pb := flat_mem b _ (m : Int) 1 hb
  have pr := flat_mem r _ p s hr
  have e0 : flat p s (.ite m q a b r) = ⟨.ite q, p, s⟩ :: (flat m 0 a ++ (flat m 1 b ++ flat p s r)) := rfl
  refine ⟨rfl, ⟨by rw [eq, e0]; simp, by simp [len], ha, by omega, fun l hl => ?_, fun l hl => ?_⟩, ⟨by rw [eq, e0]; simp, by simp [len, flat_length]; omega, hb, by omega, fun l hl => ?_, fun l hl => ?_⟩, ⟨by rw [eq, e0]; simp, by simp [len, flat_length]; omega, hr, by omega, fun l hl => ?_, fun l hl => ?_⟩⟩
  · rcases List.mem_append.mp hl with z | z
    · have := bef l z; omega
    · rw [List.mem_singleton.mp z]; show p < _; omega
  · rcases List.mem_append.mp hl with z | z
    · have := pb l z; omega
    · rcases List.mem_append.mp z with z | z
      · have := pr l z; omega
      · have := aft l z; omega
  · rcases List.mem_append.mp hl with z | z
    · have := bef l z; omega
    · rcases List.mem_cons.mp z with rfl | z
      · show p < _; omega
      · have := pa l z; omega
  · rcases List.mem_append.mp hl with z | z
    · have := pr l z; omega
    · have := aft l z; omega
  · rcases List.mem_append.mp hl with z | z
    · have := bef l z; omega
    · rcases List.mem_cons.mp z with rfl | z
      · show p < _; omega
      · rcases List.mem_append.mp z with z | z
        · have := pa l z; omega
        · have := pb l z; omega
  · have := aft l hl; omega
theorem At.loop {P : List PL} {p : Int} {s n : Nat} {m : Nat} {q : Cond} {b r : Code} {pre post : List PL} (x : At P p s n (.loop m q b r) pre post) : m = n ∧
    At P (n : Int) 0 (n + 1) b (pre ++ [⟨.loop q, p, s⟩]) (flat p s r ++ post) ∧
    At P p s (n + 1 + (linesOf b).length) r (pre ++ ⟨.loop q, p, s⟩ :: flat n 0 b) post := by
  obtain ⟨eq, len, rows, par, bef, aft⟩ := x
  obtain ⟨rfl, hb, hr⟩ := rows_loop rows
  have el : (linesOf (.loop m q b r)).length = (linesOf b).length + (linesOf r).length + 1 := by simp only [linesOf, List.length_cons, List.length_append]
  rw [el] at aft
  have pb := flat_mem b _ (m : Int) 0 hb
  have pr := flat_mem r _ p s hr
  have e0 : flat p s (.loop m q b r) = ⟨.loop q, p, s⟩ :: (flat m 0 b ++ flat p s r) := rfl
  refine ⟨rfl, ⟨by rw [eq, e0]; simp, by simp [len], hb, by omega, fun l hl => ?_, fun l hl => ?_⟩, ⟨by rw [eq, e0]; simp, by simp [len, flat_length]; omega, hr, by omega, fun l hl => ?_, fun l hl => ?_⟩⟩
  · rcases List.mem_append.mp hl with z | z
    · have := bef l z; omega
    · rw [List.mem_singleton.mp z]; show p < _; omega
  · rcases List.mem_append.mp hl with z | z
    · have := pr l z; omega
    · have := aft l z; omega
  · rcases List.mem_append.mp hl with z | z
    · have := bef l z; omega
    · rcases List.mem_cons.mp z with rfl | z
      · show p < _; omega
      · have := pb l z; omega
  · have := aft l hl; omega
/-- a block's lines that stand straight in it -/
theorem At.inside {P : List PL} {p : Int} {s n : Nat} {c : Code} {pre post : List PL} (x : At P p s n c pre post) (h1 : ∀ l ∈ pre, ¬ (l.parent = p ∧ l.side = s)) (h2 : ∀ l ∈ post, ¬ (l.parent = p ∧ l.side = s)) : insideL P p s = tops c := by
  rw [inside_ins, x.eq, ins_append, ins_append, ins_none h1, ins_none h2, Nat.zero_add, x.len, ins_top c n p s x.rows x.par]
  simp
theorem At.has : ∀ {c : Code} {P : List PL} {p : Int} {s n : Nat} {pre post : List PL}, At P p s n c pre post → Has P p s c
  | .done, _, _, _, _, _, _, _ => trivial
  | .set k v e r, P, p, s, n, pre, post, x => by
    obtain ⟨rfl, hr⟩ := rows_set x.rows
    exact ⟨x.get rfl, (x.next rfl hr rfl).has⟩
  | .read k v r, P, p, s, n, pre, post, x => by
    obtain ⟨rfl, hr⟩ := rows_read x.rows
    exact ⟨x.get rfl, (x.next rfl hr rfl).has⟩
  | .write k v r, P, p, s, n, pre, post, x => by
    obtain ⟨rfl, hr⟩ := rows_write x.rows
    exact ⟨x.get rfl, (x.next rfl hr rfl).has⟩
  | .halt_ k r, P, p, s, n, pre, post, x => by
    obtain ⟨rfl, hr⟩ := rows_halt x.rows
    exact ⟨x.get rfl, (x.next rfl hr rfl).has⟩
  | .ite k q a b r, P, p, s, n, pre, post, x => by
    obtain ⟨rfl, xa, xb, xr⟩ := x.ite
    have ha := flat_mem a _ (k : Int) 0 xa.rows
    have hb := flat_mem b _ (k : Int) 1 xb.rows
    have hr := flat_mem r _ p s xr.rows
    have hp := x.par
    have el : (linesOf (.ite k q a b r)).length = (linesOf a).length + (linesOf b).length + (linesOf r).length + 1 := by simp only [linesOf, List.length_cons, List.length_append]; omega
    have aft := x.aft
    rw [el] at aft
    refine ⟨x.get rfl, xa.inside (fun l hl => ?_) (fun l hl => ?_), xb.inside (fun l hl => ?_) (fun l hl => ?_), xa.has, xb.has, xr.has⟩
    · rcases List.mem_append.mp hl with z | z
      · have := x.bef l z; omega
      · rw [List.mem_singleton.mp z]; show ¬ (p = _ ∧ _); omega
    · rcases List.mem_append.mp hl with z | z
      · have := hb l z; omega
      · rcases List.mem_append.mp z with z | z
        · have := hr l z; omega
        · have := aft l z; omega
    · rcases List.mem_append.mp hl with z | z
      · have := x.bef l z; omega
      · rcases List.mem_cons.mp z with rfl | z
        · show ¬ (p = _ ∧ _); omega
        · have := ha l z; omega
    · rcases List.mem_append.mp hl with z | z
      · have := hr l z; omega
      · have := aft l z; omega
  | .loop k q b r, P, p, s, n, pre, post, x => by
    obtain ⟨rfl, xb, xr⟩ := x.loop
    have hb := flat_mem b _ (k : Int) 0 xb.rows
    have hr := flat_mem r _ p s xr.rows
    have hp := x.par
    have el : (linesOf (.loop k q b r)).length = (linesOf b).length + (linesOf r).length + 1 := by simp only [linesOf, List.length_cons, List.length_append]
    have aft := x.aft
    rw [el] at aft
    refine ⟨x.get rfl, xb.inside (fun l hl => ?_) (fun l hl => ?_), xb.has, xr.has⟩
    · rcases List.mem_append.mp hl with z | z
      · have := x.bef l z; omega
      · rw [List.mem_singleton.mp z]; show ¬ (p = _ ∧ _); omega
    · rcases List.mem_append.mp hl with z | z
      · have := hr l z; omega
      · have := aft l z; omega
def flatOf (c : Code) : List PL := flat (-1) 0 c
theorem prog_facts {c : Code} (h : isProgram c = true) : areStatements c = true ∧ Rows 0 c ∧ (linesOf c).length ≤ 14 ∧ deepOf c ≤ 3 := by
  have h' : (areStatements c && (linesOf c == List.range (linesOf c).length && (decide ((linesOf c).length ≤ 14) && decide (deepOf c ≤ 3)))) = true := h
  simp only [Bool.and_eq_true, beq_iff_eq, decide_eq_true_eq] at h'
  refine ⟨h'.1, ?_, h'.2.2.1, h'.2.2.2⟩
  unfold Rows
  rw [← List.range_eq_range']
  exact h'.2.1
theorem at_top {c : Code} (h : isProgram c = true) : At (flatOf c) (-1) 0 0 c [] [] :=
  ⟨by simp [flatOf], rfl, (prog_facts h).2.1, by decide, (fun l hl => by cases hl), (fun l hl => by cases hl)⟩
theorem flatOf_length (c : Code) : (flatOf c).length = (linesOf c).length := flat_length c _ _
theorem good {c : Code} (h : isProgram c = true) : Good (flatOf c) c := by
  have f := prog_facts h
  have x := at_top h
  refine ⟨x.has, x.inside (fun l hl => by cases hl) (fun l hl => by cases hl), f.2.2.2, ?_, ?_⟩
  · rw [flatOf_length, List.range_eq_range']
    exact f.2.1
  · rw [flatOf_length]
    exact f.2.2.1
end Ld
end
section
set_option Elab.async false
set_option maxHeartbeats 1000000
namespace Ld
open Vaslca (Text Name Atom Expr Cond Op Rel Code Info ascii isName isAtom isExpr isCond atomText linesOf deepOf isDone areStatements only indent isProgram infosIn infosOf infoAt)
/-! ### the lines around each -/
/-- the lines around each line, in the order of the lines -/
def arIn (k : List Nat) : Code → List (List Nat)
  | .done => []
  | .set _ _ _ r => k :: arIn k r
  | .read _ _ r => k :: arIn k r
  | .write _ _ r => k :: arIn k r
  | .halt_ _ r => k :: arIn k r
  | .ite n _ a b r => k :: (arIn (k ++ [n]) a ++ (arIn (k ++ [n]) b ++ arIn k r))
  | .loop n _ b r => k :: (arIn (k ++ [n]) b ++ arIn k r)
theorem arIn_length : ∀ (c : Code) (k : List Nat), (arIn k c).length = (linesOf c).length
  | .done, _ => rfl
  | .set _ _ _ r, k => by simp [arIn, linesOf, arIn_length r]
  | .read _ _ r, k => by simp [arIn, linesOf, arIn_length r]
  | .write _ _ r, k => by simp [arIn, linesOf, arIn_length r]
  | .halt_ _ r, k => by simp [arIn, linesOf, arIn_length r]
  | .ite _ _ a b r, k => by simp [arIn, linesOf, arIn_length a, arIn_length b, arIn_length r]
  | .loop _ _ b r, k => by simp [arIn, linesOf, arIn_length b, arIn_length r]
theorem infos_lines : ∀ (c : Code) (k : List Nat), (infosIn k c).map (fun x => x.line) = linesOf c
  | .done, _ => rfl
  | .set _ _ _ r, k => by simp [infosIn, linesOf, infos_lines r]
  | .read _ _ r, k => by simp [infosIn, linesOf, infos_lines r]
  | .write _ _ r, k => by simp [infosIn, linesOf, infos_lines r]
  | .halt_ _ r, k => by simp [infosIn, linesOf, infos_lines r]
  | .ite _ _ a b r, k => by simp [infosIn, linesOf, infos_lines a, infos_lines b, infos_lines r]
  | .loop _ _ b r, k => by simp [infosIn, linesOf, infos_lines b, infos_lines r]
theorem infos_around : ∀ (c : Code) (k : List Nat), (infosIn k c).map (fun x => x.around) = arIn k c
  | .done, _ => rfl
  | .set _ _ _ r, k => by simp [infosIn, arIn, infos_around r]
  | .read _ _ r, k => by simp [infosIn, arIn, infos_around r]
  | .write _ _ r, k => by simp [infosIn, arIn, infos_around r]
  | .halt_ _ r, k => by simp [infosIn, arIn, infos_around r]
  | .ite _ _ a b r, k => by simp [infosIn, arIn, infos_around a, infos_around b, infos_around r]
  | .loop _ _ b r, k => by simp [infosIn, arIn, infos_around b, infos_around r]
def arOf (c : Code) (n : Nat) : List Nat := ((arIn [] c)[n]?).getD []
theorem find_at {α : Type} (f : α → Nat) : ∀ (l : List α) (m i : Nat), l.map f = List.range' m l.length → i < l.length → l.find? (fun x => f x == m + i) = l[i]?
  | [], _, _, _, h => by simp at h
  | x :: r, m, i, e, h => by
    rw [List.map_cons, List.length_cons, List.range'_succ] at e
    have e1 := List.cons.inj e
    rw [List.find?_cons]
    cases i with
    | zero => simp [e1.1]
    | succ i =>
      have : (f x == m + (i + 1)) = false := by rw [e1.1]; simp
      rw [this]
      dsimp only
      have := find_at f r (m + 1) i e1.2 (by simpa using h)
      rw [List.getElem?_cons_succ, ← this, show m + 1 + i = m + (i + 1) by omega]
theorem info_at {c : Code} (h : isProgram c = true) {n : Nat} (hn : n < (linesOf c).length) : ∃ x, infoAt c n = some x ∧ x.line = n ∧ x.around = arOf c n := by
  have f := (prog_facts h).2.1
  have hl : (infosOf c).length = (linesOf c).length := by rw [← infos_lines c []]; simp [infosOf]
  have e : (infosOf c).map (fun x => x.line) = List.range' 0 (infosOf c).length := by rw [hl]; exact (infos_lines c []).trans f
  have g := find_at (fun x : Info => x.line) (infosOf c) 0 n e (by omega)
  rw [Nat.zero_add] at g
  have g2 : infoAt c n = (infosOf c)[n]? := g
  obtain ⟨x, hx⟩ : ∃ x, (infosOf c)[n]? = some x := ⟨_, List.getElem?_eq_getElem (by omega)⟩
  refine ⟨x, by rw [g2, hx], ?_, ?_⟩
  · have := List.find?_some (g2.trans hx)
    simpa using this
  · unfold arOf
    rw [← infos_around c [], List.getElem?_map]
    show x.around = (((infosOf c)[n]?).map fun x => x.around).getD []
    rw [hx]
    rfl
theorem info_none {c : Code} {n : Nat} (hn : n ∉ linesOf c) : infoAt c n = none := by
  show (infosOf c).find? (fun x => x.line == n) = none
  rw [List.find?_eq_none]
  intro x hx e
  have : x.line ∈ (infosIn [] c).map (fun x => x.line) := List.mem_map.mpr ⟨x, hx, rfl⟩
  rw [infos_lines] at this
  have e' : x.line = n := by simpa using e
  exact hn (by rw [← e']; exact this)
/-- A block whose lines have k around them: what is around its lines, by parent -/
structure ArAt (P : List PL) (A : Nat → List Nat) (lo hi : Nat) : Prop where
  ok : ∀ i l, lo ≤ i → i < hi → P[i]? = some l → (l.parent = -1 ∧ A i = []) ∨ ∃ q : Nat, l.parent = (q : Int) ∧ q < i ∧ A i = A q ++ [q]
theorem ArAt.app {P : List PL} {A : Nat → List Nat} {a b c : Nat} (x : ArAt P A a b) (y : ArAt P A b c) : ArAt P A a c := ⟨fun i l h1 h2 e => by
  by_cases h : i < b
  · exact x.ok i l h1 h e
  · exact y.ok i l (by omega) h2 e⟩
theorem ArAt.one {P : List PL} {A : Nat → List Nat} {n : Nat} {l : PL} (e : P[n]? = some l) (h : (l.parent = -1 ∧ A n = []) ∨ ∃ q : Nat, l.parent = (q : Int) ∧ q < n ∧ A n = A q ++ [q]) : ArAt P A n (n + 1) := ⟨fun i l' h1 h2 e' => by
  have : i = n := by omega
  subst this
  rw [e] at e'
  cases Option.some.inj e'
  exact h⟩
/-- the same list of lines around stands at the block's lines -/
def Lays (A : Nat → List Nat) (n : Nat) (ks : List (List Nat)) : Prop := ∀ i k, ks[i]? = some k → A (n + i) = k
theorem Lays.cons {A : Nat → List Nat} {n : Nat} {k : List Nat} {ks : List (List Nat)} (h : Lays A n (k :: ks)) : A n = k ∧ Lays A (n + 1) ks := ⟨h 0 k rfl, fun i q e => by
  have := h (i + 1) q (by simpa using e)
  rw [show n + 1 + i = n + (i + 1) by omega]
  exact this⟩
theorem Lays.app {A : Nat → List Nat} {n : Nat} {a b : List (List Nat)} (h : Lays A n (a ++ b)) : Lays A n a ∧ Lays A (n + a.length) b := ⟨fun i k e => h i k (by rw [List.getElem?_append_left (List.getElem?_eq_some_iff.mp e).1]; exact e), fun i k e => by
  have := h (a.length + i) k (by rw [List.getElem?_append_right (by omega)]; simpa using e)
  rw [show n + a.length + i = n + (a.length + i) by omega]
  exact this⟩
/-- how a block's parent and the lines around its lines hang together -/
def Hang (A : Nat → List Nat) (p : Int) (k : List Nat) : Prop := (p = -1 ∧ k = []) ∨ ∃ q : Nat, p = (q : Int) ∧ k = A q ++ [q]
theorem hang_line {P : List PL} {A : Nat → List Nat} {p : Int} {k : List Nat} {s n : Nat} {h : Head} (hg : Hang A p k) (hp : p < (n : Int)) (ha : A n = k) (e : P[n]? = some ⟨h, p, s⟩) : ArAt P A n (n + 1) := by
  refine ArAt.one e ?_
  rcases hg with ⟨h1, h2⟩ | ⟨q, h1, h2⟩
  · exact .inl ⟨h1, by rw [ha, h2]⟩
  · exact .inr ⟨q, h1, by omega, by rw [ha, h2]⟩
theorem hang_in (A : Nat → List Nat) (n : Nat) {k : List Nat} (ha : A n = k) : Hang A (n : Int) (k ++ [n]) := .inr ⟨n, rfl, by rw [ha]⟩
theorem ar_nil (P : List PL) (A : Nat → List Nat) (n : Nat) : ArAt P A n n := ⟨fun i l h1 h2 _ => by omega⟩
theorem At.arounds : ∀ {c : Code} {P : List PL} {p : Int} {s n : Nat} {pre post : List PL} {A : Nat → List Nat} {k : List Nat}, At P p s n c pre post → Lays A n (arIn k c) → Hang A p k → ArAt P A n (n + (linesOf c).length)
  | .done, _, _, _, _, _, _, _, _, _, _, _ => ar_nil _ _ _
  | .set m v e r, P, p, s, n, pre, post, A, k, x, L, hg => by
    obtain ⟨rfl, hr⟩ := rows_set x.rows
    obtain ⟨ha, L2⟩ := Lays.cons (k := k) (ks := arIn k r) L
    have y := (x.next (r := r) rfl hr rfl).arounds L2 hg
    have := (hang_line hg x.par ha (x.get rfl)).app y
    rw [show m + 1 + (linesOf r).length = m + (linesOf (.set m v e r)).length by simp [linesOf]; omega] at this
    exact this
  | .read m v r, P, p, s, n, pre, post, A, k, x, L, hg => by
    obtain ⟨rfl, hr⟩ := rows_read x.rows
    obtain ⟨ha, L2⟩ := Lays.cons (k := k) (ks := arIn k r) L
    have y := (x.next (r := r) rfl hr rfl).arounds L2 hg
    have := (hang_line hg x.par ha (x.get rfl)).app y
    rw [show m + 1 + (linesOf r).length = m + (linesOf (.read m v r)).length by simp [linesOf]; omega] at this
    exact this
  | .write m v r, P, p, s, n, pre, post, A, k, x, L, hg => by
    obtain ⟨rfl, hr⟩ := rows_write x.rows
    obtain ⟨ha, L2⟩ := Lays.cons (k := k) (ks := arIn k r) L
    have y := (x.next (r := r) rfl hr rfl).arounds L2 hg
    have := (hang_line hg x.par ha (x.get rfl)).app y
    rw [show m + 1 + (linesOf r).length = m + (linesOf (.write m v r)).length by simp [linesOf]; omega] at this
    exact this
  | .halt_ m r, P, p, s, n, pre, post, A, k, x, L, hg => by
    obtain ⟨rfl, hr⟩ := rows_halt x.rows
    obtain ⟨ha, L2⟩ := Lays.cons (k := k) (ks := arIn k r) L
    have y := (x.next (r := r) rfl hr rfl).arounds L2 hg
    have := (hang_line hg x.par ha (x.get rfl)).app y
    rw [show m + 1 + (linesOf r).length = m + (linesOf (.halt_ m r)).length by simp [linesOf]; omega] at this
    exact this
  | .ite m q a b r, P, p, s, n, pre, post, A, k, x, L, hg => by
    obtain ⟨rfl, xa, xb, xr⟩ := x.ite
    obtain ⟨ha, L2⟩ := Lays.cons (k := k) (ks := arIn (k ++ [m]) a ++ (arIn (k ++ [m]) b ++ arIn k r)) L
    obtain ⟨La, L3⟩ := L2.app
    obtain ⟨Lb, Lr⟩ := L3.app
    rw [arIn_length] at Lb Lr
    rw [arIn_length] at Lr
    have y := (((hang_line hg x.par ha (x.get rfl)).app (xa.arounds La (hang_in A m ha))).app (xb.arounds Lb (hang_in A m ha))).app (xr.arounds Lr hg)
    rw [show m + 1 + (linesOf a).length + (linesOf b).length + (linesOf r).length = m + (linesOf (.ite m q a b r)).length by simp [linesOf]; omega] at y
    exact y
  | .loop m q b r, P, p, s, n, pre, post, A, k, x, L, hg => by
    obtain ⟨rfl, xb, xr⟩ := x.loop
    obtain ⟨ha, L2⟩ := Lays.cons (k := k) (ks := arIn (k ++ [m]) b ++ arIn k r) L
    obtain ⟨Lb, Lr⟩ := L2.app
    rw [arIn_length] at Lr
    have y := ((hang_line hg x.par ha (x.get rfl)).app (xb.arounds Lb (hang_in A m ha))).app (xr.arounds Lr hg)
    rw [show m + 1 + (linesOf b).length + (linesOf r).length = m + (linesOf (.loop m q b r)).length by simp [linesOf]; omega] at y
    exact y
theorem arounds {c : Code} (h : isProgram c = true) : Arounds (flatOf c) (arOf c) := fun i l e => by
  have x := (at_top h).arounds (A := arOf c) (k := []) (fun i k hk => by rw [Nat.zero_add]; unfold arOf; rw [hk]; rfl) (.inl ⟨rfl, rfl⟩)
  refine x.ok i l (Nat.zero_le _) ?_ e
  have := (List.getElem?_eq_some_iff.mp e).1
  rw [flatOf_length] at this
  omega
/-! ### lines with all around them -/
def wholeIn (c : Code) (ls : List Nat) (n : Nat) : Bool := (arOf c n).all ls.contains
/-- of a block whose lines have k around them, those that are left -/
theorem only_lines (l : List Nat) : ∀ (c : Code) (k : List Nat), k.all l.contains = true → linesOf (only l c) = ((infosIn k c).filter fun x => l.contains x.line && x.around.all l.contains).map fun x => x.line := by
  have none : ∀ (c : Code) (k : List Nat), k.all l.contains = false → ((infosIn k c).filter fun x => l.contains x.line && x.around.all l.contains) = [] := by
    intro c
    induction c with
    | done => intro k _; rfl
    | set n v e r ih => intro k hk; simp only [infosIn, List.filter_cons, hk, Bool.and_false]; exact ih k hk
    | read n v r ih => intro k hk; simp only [infosIn, List.filter_cons, hk, Bool.and_false]; exact ih k hk
    | write n v r ih => intro k hk; simp only [infosIn, List.filter_cons, hk, Bool.and_false]; exact ih k hk
    | halt_ n r ih => intro k hk; simp only [infosIn, List.filter_cons, hk, Bool.and_false]; exact ih k hk
    | ite n q a b r ia ib ir =>
      intro k hk
      have hk2 : (k ++ [n]).all l.contains = false := by rw [List.all_append, hk, Bool.false_and]
      simp only [infosIn, List.filter_cons, hk, Bool.and_false, List.filter_append, ia _ hk2, ib _ hk2, ir k hk]
      rfl
    | loop n q b r ib ir =>
      intro k hk
      have hk2 : (k ++ [n]).all l.contains = false := by rw [List.all_append, hk, Bool.false_and]
      simp only [infosIn, List.filter_cons, hk, Bool.and_false, List.filter_append, ib _ hk2, ir k hk]
      rfl
  intro c
  induction c with
  | done => intro k _; rfl
  | set n v e r ih =>
    intro k hk
    show linesOf (if l.contains n = true then .set n v e (only l r) else only l r) = _
    simp only [infosIn, List.filter_cons, hk, Bool.and_true]
    cases h : l.contains n <;> simp [linesOf, ih k hk]
  | read n v r ih =>
    intro k hk
    show linesOf (if l.contains n = true then .read n v (only l r) else only l r) = _
    simp only [infosIn, List.filter_cons, hk, Bool.and_true]
    cases h : l.contains n <;> simp [linesOf, ih k hk]
  | write n v r ih =>
    intro k hk
    show linesOf (if l.contains n = true then .write n v (only l r) else only l r) = _
    simp only [infosIn, List.filter_cons, hk, Bool.and_true]
    cases h : l.contains n <;> simp [linesOf, ih k hk]
  | halt_ n r ih =>
    intro k hk
    show linesOf (if l.contains n = true then .halt_ n (only l r) else only l r) = _
    simp only [infosIn, List.filter_cons, hk, Bool.and_true]
    cases h : l.contains n <;> simp [linesOf, ih k hk]
  | ite n q a b r ia ib ir =>
    intro k hk
    show linesOf (if l.contains n = true then .ite n q (only l a) (only l b) (only l r) else only l r) = _
    simp only [infosIn, List.filter_cons, hk, Bool.and_true, List.filter_append]
    cases h : l.contains n with
    | true =>
      have hk2 : (k ++ [n]).all l.contains = true := by rw [List.all_append, hk]; simpa using h
      simp [linesOf, ia _ hk2, ib _ hk2, ir k hk]
    | false =>
      have hk2 : (k ++ [n]).all l.contains = false := by rw [List.all_append, hk]; simpa using h
      rw [none a _ hk2, none b _ hk2]
      simpa using ir k hk
  | loop n q b r ib ir =>
    intro k hk
    show linesOf (if l.contains n = true then .loop n q (only l b) (only l r) else only l r) = _
    simp only [infosIn, List.filter_cons, hk, Bool.and_true, List.filter_append]
    cases h : l.contains n with
    | true =>
      have hk2 : (k ++ [n]).all l.contains = true := by rw [List.all_append, hk]; simpa using h
      simp [linesOf, ib _ hk2, ir k hk]
    | false =>
      have hk2 : (k ++ [n]).all l.contains = false := by rw [List.all_append, hk]; simpa using h
      rw [none b _ hk2]
      simpa using ir k hk
/-- the same lines left by both -/
theorem only_same (l l' : List Nat) : ∀ (c : Code) (k : List Nat), k.all l.contains = true → (∀ x ∈ infosIn k c, l'.contains x.line = (l.contains x.line && x.around.all l.contains)) → only l' c = only l c := by
  intro c
  induction c with
  | done => intro k _ _; rfl
  | set n v e r ih =>
    intro k hk h
    have h0 := h _ (List.mem_cons_self ..)
    have hr := ih k hk fun x hx => h x (List.mem_cons_of_mem _ hx)
    show (if l'.contains n = true then Code.set n v e (only l' r) else only l' r) = (if l.contains n = true then Code.set n v e (only l r) else only l r)
    rw [hr]
    have e0 : l'.contains n = l.contains n := by simpa [hk] using h0
    rw [e0]
  | read n v r ih =>
    intro k hk h
    have h0 := h _ (List.mem_cons_self ..)
    have hr := ih k hk fun x hx => h x (List.mem_cons_of_mem _ hx)
    show (if l'.contains n = true then Code.read n v (only l' r) else only l' r) = (if l.contains n = true then Code.read n v (only l r) else only l r)
    rw [hr]
    have e0 : l'.contains n = l.contains n := by simpa [hk] using h0
    rw [e0]
  | write n v r ih =>
    intro k hk h
    have h0 := h _ (List.mem_cons_self ..)
    have hr := ih k hk fun x hx => h x (List.mem_cons_of_mem _ hx)
    show (if l'.contains n = true then Code.write n v (only l' r) else only l' r) = (if l.contains n = true then Code.write n v (only l r) else only l r)
    rw [hr]
    have e0 : l'.contains n = l.contains n := by simpa [hk] using h0
    rw [e0]
  | halt_ n r ih =>
    intro k hk h
    have h0 := h _ (List.mem_cons_self ..)
    have hr := ih k hk fun x hx => h x (List.mem_cons_of_mem _ hx)
    show (if l'.contains n = true then Code.halt_ n (only l' r) else only l' r) = (if l.contains n = true then Code.halt_ n (only l r) else only l r)
    rw [hr]
    have e0 : l'.contains n = l.contains n := by simpa [hk] using h0
    rw [e0]
  | ite n q a b r ia ib ir =>
    intro k hk h
    have h0 := h _ (List.mem_cons_self ..)
    have hr := ir k hk fun x hx => h x (List.mem_cons_of_mem _ (List.mem_append_right _ (List.mem_append_right _ hx)))
    have e0 : l'.contains n = l.contains n := by simpa [hk] using h0
    show (if l'.contains n = true then Code.ite n q (only l' a) (only l' b) (only l' r) else only l' r) = (if l.contains n = true then Code.ite n q (only l a) (only l b) (only l r) else only l r)
    rw [hr, e0]
    cases z : l.contains n with
    | false => rfl
    | true =>
      have hk2 : (k ++ [n]).all l.contains = true := by rw [List.all_append, hk]; simpa using z
      rw [ia _ hk2 fun x hx => h x (List.mem_cons_of_mem _ (List.mem_append_left _ hx)), ib _ hk2 fun x hx => h x (List.mem_cons_of_mem _ (List.mem_append_right _ (List.mem_append_left _ hx)))]
  | loop n q b r ib ir =>
    intro k hk h
    have h0 := h _ (List.mem_cons_self ..)
    have hr := ir k hk fun x hx => h x (List.mem_cons_of_mem _ (List.mem_append_right _ hx))
    have e0 : l'.contains n = l.contains n := by simpa [hk] using h0
    show (if l'.contains n = true then Code.loop n q (only l' b) (only l' r) else only l' r) = (if l.contains n = true then Code.loop n q (only l b) (only l r) else only l r)
    rw [hr, e0]
    cases z : l.contains n with
    | false => rfl
    | true =>
      have hk2 : (k ++ [n]).all l.contains = true := by rw [List.all_append, hk]; simpa using z
      rw [ib _ hk2 fun x hx => h x (List.mem_cons_of_mem _ (List.mem_append_left _ hx))]
/-- an info of a program -/
theorem info_mem {c : Code} (h : isProgram c = true) {x : Info} (hx : x ∈ infosIn [] c) : x.line < (linesOf c).length ∧ x.around = arOf c x.line := by
  obtain ⟨i, hi⟩ := List.getElem?_of_mem hx
  have f := (prog_facts h).2.1
  have e1 := congrArg (fun l => l[i]?) (infos_lines c [])
  have e2 := congrArg (fun l => l[i]?) (infos_around c [])
  rw [List.getElem?_map, hi] at e1 e2
  rw [show linesOf c = List.range' 0 (linesOf c).length from f, List.getElem?_range'] at e1
  · have e3 : x.line = i := by
      have := Option.some.inj (show some x.line = some (0 + 1 * i) from e1)
      omega
    have hl : i < (linesOf c).length := by
      have := (List.getElem?_eq_some_iff.mp hi).1
      have e : (infosIn [] c).length = (linesOf c).length := by rw [← infos_lines c []]; simp
      omega
    refine ⟨by omega, ?_⟩
    unfold arOf
    rw [e3, ← e2]
    rfl
  · have := (List.getElem?_eq_some_iff.mp hi).1
    have e : (infosIn [] c).length = (linesOf c).length := by rw [← infos_lines c []]; simp
    omega
end Ld
end
section
set_option Elab.async false
set_option maxHeartbeats 1000000
namespace Ld
open Vaslca (Text Name Atom Expr Cond Op Rel Code Info ascii isName isAtom isExpr isCond atomText linesOf deepOf isDone areStatements only indent isProgram infosIn infosOf infoAt)
abbrev Up (l : List Nat) : Prop := l.Pairwise (· < ·)
theorem up_ext : ∀ {a b : List Nat}, Up a → Up b → (∀ x, x ∈ a ↔ x ∈ b) → a = b
  | [], [], _, _, _ => rfl
  | [], y :: b, _, _, h => by have := (h y).mpr (by simp); cases this
  | x :: a, [], _, _, h => by have := (h x).mp (by simp); cases this
  | x :: a, y :: b, ha, hb, h => by
    have ha' := List.pairwise_cons.mp ha
    have hb' := List.pairwise_cons.mp hb
    have e : x = y := by
      have h1 := (h x).mp (by simp)
      have h2 := (h y).mpr (by simp)
      rcases List.mem_cons.mp h1 with z | z
      · exact z
      · rcases List.mem_cons.mp h2 with z2 | z2
        · exact z2.symm
        · have := ha'.1 y z2; have := hb'.1 x z; omega
    subst e
    rw [up_ext ha'.2 hb'.2 fun z => ⟨fun hz => ?_, fun hz => ?_⟩]
    · rcases List.mem_cons.mp ((h z).mp (List.mem_cons_of_mem _ hz)) with e | e
      · have := ha'.1 z hz; omega
      · exact e
    · rcases List.mem_cons.mp ((h z).mpr (List.mem_cons_of_mem _ hz)) with e | e
      · have := hb'.1 z hz; omega
      · exact e
theorem up_range (n : Nat) : Up (List.range n) := List.pairwise_lt_range
theorem up_filter {l : List Nat} (h : Up l) (f : Nat → Bool) : Up (l.filter f) := List.Pairwise.filter f h
theorem filter_range {ls : List Nat} {N : Nat} (hs : Up ls) (hb : ∀ n ∈ ls, n < N) (f : Nat → Bool) : ls.filter f = (List.range N).filter fun n => ls.contains n && f n := by
  refine up_ext (up_filter hs f) (up_filter (up_range N) _) fun x => ?_
  rw [List.mem_filter, List.mem_filter, List.mem_range, Bool.and_eq_true, List.contains_iff_mem]
  exact ⟨fun h => ⟨hb x h.1, h.1, h.2⟩, fun h => h.2⟩
theorem lines_range {c : Code} (h : isProgram c = true) : linesOf c = List.range (linesOf c).length := by
  rw [List.range_eq_range']
  exact (prog_facts h).2.1
theorem alone_filter {c : Code} (h : isProgram c = true) {ls : List Nat} (hs : Up ls) (hb : ∀ n ∈ ls, n < (linesOf c).length) : aloneL (flatOf c) ls = ls.filter (wholeIn c ls) := by
  have g : ∀ (suf pre : List Nat), ls = pre ++ suf → suf.foldl (fun left n => if keepL (flatOf c) left n = true then left ++ [n] else left) (pre.filter (wholeIn c ls)) = ls.filter (wholeIn c ls) := by
    intro suf
    induction suf with
    | nil => intro pre e; rw [e]; simp
    | cons n suf ih =>
      intro pre e
      have i2 := ih (pre ++ [n]) (by rw [e]; simp)
      have hn : n < (linesOf c).length := hb n (by rw [e]; simp)
      obtain ⟨l, hl⟩ : ∃ l, (flatOf c)[n]? = some l := ⟨_, List.getElem?_eq_getElem (by rw [flatOf_length]; exact hn)⟩
      have key : keepL (flatOf c) (pre.filter (wholeIn c ls)) n = wholeIn c ls n := by
        unfold keepL
        rw [hl]
        dsimp only
        rcases arounds h n l hl with ⟨h1, h2⟩ | ⟨q, h1, h2, h3⟩
        · rw [decide_eq_true h1]
          unfold wholeIn
          rw [h2]
          rfl
        · have nn : l.parent ≠ -1 := by omega
          rw [decide_eq_false nn, Bool.false_or, h1]
          have w : wholeIn c ls n = (wholeIn c ls q && ls.contains q) := by
            unfold wholeIn
            rw [h3, List.all_append]
            simp
          rw [w, Bool.eq_iff_iff, List.any_eq_true, Bool.and_eq_true, List.contains_iff_mem]
          have hs' := hs
          rw [e] at hs'
          have hp := List.pairwise_append.mp hs'
          have hnn := (List.pairwise_cons.mp hp.2.1).1
          constructor
          · rintro ⟨m, hm, em⟩
            have em' : m = q := by have := of_decide_eq_true em; omega
            subst em'
            have := List.mem_filter.mp hm
            exact ⟨this.2, by rw [e]; exact List.mem_append_left _ this.1⟩
          · rintro ⟨w1, w2⟩
            refine ⟨q, List.mem_filter.mpr ⟨?_, w1⟩, by simp⟩
            rw [e] at w2
            rcases List.mem_append.mp w2 with z | z
            · exact z
            · rcases List.mem_cons.mp z with z | z
              · omega
              · have := hnn q z; omega
      rw [List.foldl_cons, key]
      rw [List.filter_append] at i2
      cases hw : wholeIn c ls n with
      | true =>
        rw [if_pos rfl]
        rw [List.filter_cons, hw, if_pos rfl] at i2
        exact i2
      | false =>
        rw [if_neg (by decide)]
        rw [List.filter_cons, hw, if_neg (by decide)] at i2
        simpa using i2
  exact g ls [] rfl
theorem shown_filter {c : Code} (h : isProgram c = true) (l : List Nat) : linesOf (only l c) = (List.range (linesOf c).length).filter fun n => l.contains n && wholeIn c l n := by
  rw [only_lines l c [] rfl]
  have e : ((infosIn [] c).filter fun x => l.contains x.line && x.around.all l.contains) = (infosIn [] c).filter ((fun n => l.contains n && wholeIn c l n) ∘ fun x => x.line) := by
    refine List.filter_congr fun x hx => ?_
    show _ = (l.contains x.line && wholeIn c l x.line)
    unfold wholeIn
    rw [(info_mem h hx).2]
  rw [e, ← List.filter_map, infos_lines, ← lines_range h]
theorem alone_shown {c : Code} (h : isProgram c = true) {ls : List Nat} (hs : Up ls) (hb : ∀ n ∈ ls, n < (linesOf c).length) : aloneL (flatOf c) ls = linesOf (only ls c) := by
  rw [alone_filter h hs hb, shown_filter h, ← filter_range hs hb]
theorem only_alone {c : Code} (h : isProgram c = true) {ls : List Nat} (hs : Up ls) (hb : ∀ n ∈ ls, n < (linesOf c).length) : only (aloneL (flatOf c) ls) c = only ls c := by
  refine only_same ls _ c [] rfl fun x hx => ?_
  rw [alone_filter h hs hb, Bool.eq_iff_iff, List.contains_iff_mem, List.mem_filter, Bool.and_eq_true, List.contains_iff_mem, (info_mem h hx).2]
  rfl
/-- lines that stand with all around them -/
def Whole (c : Code) (ls : List Nat) : Prop := ∀ n ∈ ls, ∀ q ∈ arOf c n, q ∈ ls
theorem whole_iff {c : Code} {ls : List Nat} : Whole c ls ↔ ∀ n ∈ ls, wholeIn c ls n = true := by
  unfold Whole wholeIn
  constructor
  · intro h n hn
    rw [List.all_eq_true]
    intro q hq
    rw [List.contains_iff_mem]
    exact h n hn q hq
  · intro h n hn q hq
    have := List.all_eq_true.mp (h n hn) q hq
    rwa [List.contains_iff_mem] at this
theorem ar_lt {c : Code} (h : isProgram c = true) : ∀ n, n < (linesOf c).length → ∀ q ∈ arOf c n, q < n ∧ ∀ z ∈ arOf c q, z ∈ arOf c n := by
  intro n
  induction n using Nat.strongRecOn with
  | ind n ih =>
    intro hn q hq
    obtain ⟨l, hl⟩ : ∃ l, (flatOf c)[n]? = some l := ⟨_, List.getElem?_eq_getElem (by rw [flatOf_length]; exact hn)⟩
    rcases arounds h n l hl with ⟨h1, h2⟩ | ⟨p, h1, h2, h3⟩
    · rw [h2] at hq; cases hq
    · rw [h3] at hq ⊢
      rcases List.mem_append.mp hq with z | z
      · have := ih p h2 (by omega) q z
        exact ⟨by omega, fun y hy => List.mem_append_left _ (this.2 y hy)⟩
      · rw [List.mem_singleton.mp z]
        exact ⟨h2, fun y hy => List.mem_append_left _ hy⟩
theorem whole_alone {c : Code} (h : isProgram c = true) {ls : List Nat} (hs : Up ls) (hb : ∀ n ∈ ls, n < (linesOf c).length) : Whole c (aloneL (flatOf c) ls) := by
  rw [alone_filter h hs hb]
  intro n hn q hq
  have hn' := List.mem_filter.mp hn
  have hw := hn'.2
  unfold wholeIn at hw
  have hq2 := List.all_eq_true.mp hw q hq
  rw [List.contains_iff_mem] at hq2
  refine List.mem_filter.mpr ⟨hq2, ?_⟩
  unfold wholeIn
  rw [List.all_eq_true]
  intro z hz
  exact List.all_eq_true.mp hw z ((ar_lt h n (hb n hn'.1) q hq).2 z hz)
theorem alone_up {c : Code} (h : isProgram c = true) {ls : List Nat} (hs : Up ls) (hb : ∀ n ∈ ls, n < (linesOf c).length) : Up (aloneL (flatOf c) ls) := by
  rw [alone_filter h hs hb]
  exact up_filter hs _
theorem alone_whole {c : Code} (h : isProgram c = true) {ls : List Nat} (hs : Up ls) (hb : ∀ n ∈ ls, n < (linesOf c).length) (hw : Whole c ls) : aloneL (flatOf c) ls = ls := by
  rw [alone_filter h hs hb, List.filter_eq_self]
  exact whole_iff.mp hw
end Ld
end
section
set_option Elab.async false
set_option maxHeartbeats 1000000
namespace Ld
open Vaslca (Text Code Info linesOf only isProgram infosIn infosOf infoAt runOf)
open Vaslcf (Wish Want wantsOf meets isEnough shown without sweep sweeps byOne choose isWhole choicesOf enoughOf leastFrom leastOf joined)
theorem enough_eq {c : Code} (h : isProgram c = true) (w : Wish) {ls : List Nat} (hs : Up ls) (hb : ∀ n ∈ ls, n < (linesOf c).length) : enoughB (flatOf c) c w ls = meets (only ls c) w (wantsOf c w) := by
  unfold enoughB
  rw [only_alone h hs hb]
/-! ### one by one -/
structure Fit (c : Code) (ls : List Nat) : Prop where
  up : Up ls
  lt : ∀ n ∈ ls, n < (linesOf c).length
  whole : Whole c ls
theorem Fit.less {c : Code} (h : isProgram c = true) {ls : List Nat} (F : Fit c ls) (n : Nat) : aloneL (flatOf c) (ls.filter fun m => m != n) = without c n ls ∧ Fit c (without c n ls) := by
  have hs : Up (ls.filter fun m => m != n) := up_filter F.up _
  have hb : ∀ m ∈ (ls.filter fun m => m != n), m < (linesOf c).length := fun m hm => F.lt m (List.mem_filter.mp hm).1
  have e : aloneL (flatOf c) (ls.filter fun m => m != n) = without c n ls := by
    rw [alone_filter h hs hb]
    unfold Vaslcf.without
    rw [List.filter_filter]
    refine List.filter_congr fun m hm => ?_
    obtain ⟨x, hx, _, ha⟩ := info_at h (F.lt m hm)
    rw [hx]
    show _ = (m != n && !(x.around.contains n))
    rw [ha, Bool.and_comm]
    congr 1
    unfold wholeIn
    rw [Bool.eq_iff_iff, List.all_eq_true, Bool.not_eq_true', ← Bool.not_eq_true, List.contains_iff_mem]
    constructor
    · intro z hn
      have := z n hn
      rw [List.contains_iff_mem, List.mem_filter] at this
      simp at this
    · intro z q hq
      rw [List.contains_iff_mem, List.mem_filter]
      refine ⟨F.whole m hm q hq, ?_⟩
      have : q ≠ n := fun e => z (by rw [← e]; exact hq)
      simpa using this
  refine ⟨e, ?_⟩
  rw [← e]
  exact ⟨alone_up h hs hb, fun m hm => hb m (alone_sub _ _ m hm), whole_alone h hs hb⟩
theorem step_eq {c : Code} (h : isProgram c = true) (w : Wish) {ls : List Nat} (F : Fit c ls) (n : Nat) : stepGo (flatOf c) c w ls n = (if (ls.contains n && meets (only (without c n ls) c) w (wantsOf c w)) = true then without c n ls else ls) ∧ Fit c (stepGo (flatOf c) c w ls n) := by
  obtain ⟨e, F2⟩ := F.less h n
  unfold stepGo
  rw [e, enough_eq h w F2.up F2.lt]
  cases ls.contains n with
  | false => exact ⟨rfl, F⟩
  | true =>
    rw [if_pos rfl, Bool.true_and]
    refine ⟨rfl, ?_⟩
    split
    · exact F2
    · exact F
theorem sweep_eq {c : Code} (h : isProgram c = true) (w : Wish) : ∀ (r ls : List Nat), Fit c ls → r.foldl (stepGo (flatOf c) c w) ls = sweep c w (wantsOf c w) r ls ∧ Fit c (r.foldl (stepGo (flatOf c) c w) ls)
  | [], ls, F => ⟨rfl, F⟩
  | n :: r, ls, F => by
    obtain ⟨e, F2⟩ := step_eq h w F n
    obtain ⟨e3, F3⟩ := sweep_eq h w r _ F2
    refine ⟨?_, F3⟩
    rw [List.foldl_cons, e3, e]
    rfl
theorem go_eq {c : Code} (h : isProgram c = true) (w : Wish) {ls : List Nat} (F : Fit c ls) : goL (flatOf c) c w ls = sweep c w (wantsOf c w) ls.reverse ls ∧ Fit c (goL (flatOf c) c w ls) := sweep_eq h w ls.reverse ls F
theorem without_sub (c : Code) (n : Nat) (ls : List Nat) : List.Sublist (without c n ls) ls := List.filter_sublist
theorem sweep_sub (c : Code) (w : Wish) (ws : List Want) : ∀ (r ls : List Nat), List.Sublist (sweep c w ws r ls) ls
  | [], ls => List.Sublist.refl ls
  | n :: r, ls => by
    show List.Sublist (sweep c w ws r (if _ then without c n ls else ls)) ls
    refine List.Sublist.trans (sweep_sub c w ws r _) ?_
    split
    · exact without_sub c n ls
    · exact List.Sublist.refl ls
theorem byL_eq {c : Code} (h : isProgram c = true) (w : Wish) : ∀ (f : Nat) (ls : List Nat), Fit c ls → byL (flatOf c) c w f ls = sweeps c w (wantsOf c w) f ls ∧ Fit c (byL (flatOf c) c w f ls)
  | 0, ls, F => ⟨rfl, F⟩
  | f + 1, ls, F => by
    obtain ⟨e, F2⟩ := go_eq h w F
    have sb := sweep_sub c w (wantsOf c w) ls.reverse ls
    rw [← e] at sb
    have e1 : byL (flatOf c) c w (f + 1) ls = if (goL (flatOf c) c w ls).length < ls.length then byL (flatOf c) c w f (goL (flatOf c) c w ls) else goL (flatOf c) c w ls := rfl
    have e2 : sweeps c w (wantsOf c w) (f + 1) ls = if goL (flatOf c) c w ls = ls then ls else sweeps c w (wantsOf c w) f (goL (flatOf c) c w ls) := by rw [e]; rfl
    rw [e1, e2]
    by_cases z : goL (flatOf c) c w ls = ls
    · rw [if_pos z, if_neg (by rw [z]; omega), z]
      exact ⟨rfl, F⟩
    · have lt : (goL (flatOf c) c w ls).length < ls.length := by
        rcases Nat.lt_or_ge (goL (flatOf c) c w ls).length ls.length with y | y
        · exact y
        · exact absurd (sb.eq_of_length_le y) z
      rw [if_neg z, if_pos lt]
      exact byL_eq h w f _ F2
theorem fit_all {c : Code} (h : isProgram c = true) : Fit c (List.range (linesOf c).length) :=
  ⟨up_range _, fun n hn => List.mem_range.mp hn, fun n hn q hq => List.mem_range.mpr (by have := (ar_lt h n (List.mem_range.mp hn) q hq).1; have := List.mem_range.mp hn; omega)⟩
theorem one_eq {c : Code} (h : isProgram c = true) (w : Wish) : oneL (flatOf c) c w = byOne c w ∧ Fit c (oneL (flatOf c) c w) := by
  have := byL_eq h w ((linesOf c).length + 1) (List.range (linesOf c).length) (fit_all h)
  unfold oneL
  rw [flatOf_length]
  refine ⟨?_, this.2⟩
  rw [this.1]
  unfold Vaslcf.byOne
  dsimp only
  conv => rhs; rw [lines_range h]
  rw [List.length_range]
/-! ### all choices -/
theorem flat_congr {α β : Type} {f g : α → List β} : ∀ {l : List α}, (∀ x ∈ l, f x = g x) → l.flatMap f = l.flatMap g
  | [], _ => rfl
  | a :: r, h => by rw [List.flatMap_cons, List.flatMap_cons, h a (by simp), flat_congr fun x hx => h x (List.mem_cons_of_mem _ hx)]
def ext (S l : List Nat) : List (List Nat) := (S.filter fun n => decide (firstOf l ≤ n)).map fun n => l ++ [n]
theorem choose_sub : ∀ (k : Nat) (S : List Nat), ∀ l ∈ choose k S, List.Sublist l S ∧ l.length = k
  | 0, S, l, h => by
    have h' : l ∈ [([] : List Nat)] := by cases S <;> exact h
    rw [List.mem_singleton.mp h']
    exact ⟨List.nil_sublist _, rfl⟩
  | k + 1, [], l, h => by cases h
  | k + 1, n :: r, l, h => by
    have h' : l ∈ (choose k r).map (fun l => n :: l) ++ choose (k + 1) r := h
    rcases List.mem_append.mp h' with z | z
    · obtain ⟨q, hq, rfl⟩ := List.mem_map.mp z
      obtain ⟨h1, h2⟩ := choose_sub k r q hq
      exact ⟨h1.cons_cons n, by simp [h2]⟩
    · obtain ⟨h1, h2⟩ := choose_sub (k + 1) r l z
      exact ⟨h1.cons n, h2⟩
theorem choose_len : ∀ (k : Nat) (S : List Nat), (choose k S).length ≤ 2 ^ S.length
  | 0, S => by
    have : choose 0 S = [[]] := by cases S <;> rfl
    rw [this]
    exact Nat.one_le_two_pow
  | k + 1, [] => Nat.zero_le _
  | k + 1, n :: r => by
    have h1 := choose_len k r
    have h2 := choose_len (k + 1) r
    show ((choose k r).map (fun l => n :: l) ++ choose (k + 1) r).length ≤ _
    rw [List.length_append, List.length_map, List.length_cons, Nat.pow_succ]
    omega
theorem firstOf_cons (n : Nat) {l : List Nat} (h : l ≠ []) : firstOf (n :: l) = firstOf l := by
  unfold firstOf
  cases l with
  | nil => exact absurd rfl h
  | cons a r => rw [List.getLast?_cons_cons]
theorem first_gt {l S : List Nat} {n : Nat} (hu : Up (n :: S)) (hl : List.Sublist l S) (h : l ≠ []) : n < firstOf l := by
  unfold firstOf
  rw [List.getLast?_eq_some_getLast h]
  have := hl.mem (List.getLast_mem h)
  have := (List.pairwise_cons.mp hu).1 _ this
  show n < l.getLast h + 1
  omega
theorem choose_ext : ∀ (S : List Nat) (k : Nat), Up S → choose (k + 1) S = (choose k S).flatMap (ext S)
  | [], 0, _ => rfl
  | [], k + 1, _ => rfl
  | n :: r, 0, hu => by
    have hr := (List.pairwise_cons.mp hu).2
    have ih := choose_ext r 0 hr
    have e0 : ∀ S : List Nat, choose 0 S = [[]] := fun S => by cases S <;> rfl
    have ex : ∀ S : List Nat, ext S [] = S.map fun n => [n] := fun S => by
      unfold ext
      rw [List.filter_eq_self.mpr (fun a _ => by simp [firstOf])]
      rfl
    show (choose 0 r).map (fun l => n :: l) ++ choose 1 r = _
    rw [ih, e0, e0]
    simp [ex]
  | n :: r, k + 1, hu => by
    have hr := (List.pairwise_cons.mp hu).2
    have hn := (List.pairwise_cons.mp hu).1
    have i1 := choose_ext r k hr
    have i2 := choose_ext r (k + 1) hr
    show (choose (k + 1) r).map (fun l => n :: l) ++ choose (k + 2) r = ((choose k r).map (fun l => n :: l) ++ choose (k + 1) r).flatMap (ext (n :: r))
    rw [List.flatMap_append]
    have p1 : ((choose k r).map (fun l => n :: l)).flatMap (ext (n :: r)) = ((choose k r).flatMap (ext r)).map fun l => n :: l := by
      rw [List.flatMap_map, List.map_flatMap]
      refine flat_congr fun l hl => ?_
      obtain ⟨hs, _⟩ := choose_sub k r l hl
      unfold ext
      rw [List.map_map, List.filter_cons]
      by_cases z : l = []
      · subst z
        have f1 : firstOf [n] = n + 1 := rfl
        have f2 : firstOf [] = 0 := rfl
        rw [f1, f2, if_neg (by simp), List.filter_eq_self.mpr (fun a ha => by have := hn a ha; simp; omega), List.filter_eq_self.mpr (fun a ha => by simp)]
        rfl
      · have := first_gt hu hs z
        rw [firstOf_cons n z, if_neg (by simp; omega)]
        rfl
    have p2 : (choose (k + 1) r).flatMap (ext (n :: r)) = (choose (k + 1) r).flatMap (ext r) := by
      refine flat_congr fun l hl => ?_
      obtain ⟨hs, hk⟩ := choose_sub (k + 1) r l hl
      have z : l ≠ [] := by intro e; rw [e] at hk; cases hk
      have := first_gt hu hs z
      unfold ext
      rw [List.filter_cons, if_neg (by simp; omega)]
    rw [p1, p2, ← i1, ← i2]
theorem filter_flat {α β : Type} (p : β → Bool) (f : α → List β) : ∀ l : List α, (l.flatMap f).filter p = l.flatMap fun x => (f x).filter p
  | [] => rfl
  | a :: r => by rw [List.flatMap_cons, List.filter_append, filter_flat p f r, List.flatMap_cons]
theorem flat_filter {α β : Type} (p : α → Bool) (f : α → List β) (h : ∀ x, p x = false → f x = []) : ∀ l : List α, l.flatMap f = (l.filter p).flatMap f
  | [] => rfl
  | a :: r => by
    rw [List.flatMap_cons, List.filter_cons, flat_filter p f h r]
    cases e : p a with
    | true => rw [if_pos rfl, List.flatMap_cons]
    | false => rw [if_neg (by decide), h a e]; rfl
theorem isWhole_eq {c : Code} (h : isProgram c = true) {l : List Nat} (hb : ∀ n ∈ l, n < (linesOf c).length) : isWhole c l = l.all (wholeIn c l) := by
  unfold Vaslcf.isWhole
  rw [Bool.eq_iff_iff, List.all_eq_true, List.all_eq_true]
  refine forall₂_congr fun n hn => ?_
  obtain ⟨x, hx, _, ha⟩ := info_at h (hb n hn)
  rw [hx]
  show (x.around.all l.contains) = true ↔ _
  rw [ha]
  rfl
theorem all_whole {c : Code} {l : List Nat} : l.all (wholeIn c l) = true ↔ Whole c l := by rw [List.all_eq_true]; exact whole_iff.symm
/-- one line more -/
theorem whole_ext {c : Code} (h : isProgram c = true) {l : List Nat} {n : Nat} (hu : Up l) (hb : ∀ m ∈ l, m < (linesOf c).length) (hn : n < (linesOf c).length) (hf : firstOf l ≤ n) : Whole c (l ++ [n]) ↔ Whole c l ∧ okParent (flatOf c) l n = true := by
  have lt : ∀ m ∈ l, m < n := fun m hm => by
    have hne : l ≠ [] := by rintro rfl; cases hm
    unfold firstOf at hf
    rw [List.getLast?_eq_some_getLast hne] at hf
    have hf' : l.getLast hne + 1 ≤ n := hf
    have : m ≤ l.getLast hne := by
      rw [← List.dropLast_concat_getLast hne] at hm hu
      rcases List.mem_append.mp hm with z | z
      · have := (List.pairwise_append.mp hu).2.2 m z (l.getLast hne) (by simp)
        omega
      · rw [List.mem_singleton.mp z]
        exact Nat.le_refl _
    omega
  obtain ⟨x, hx⟩ : ∃ x, (flatOf c)[n]? = some x := ⟨_, List.getElem?_eq_getElem (by rw [flatOf_length]; exact hn)⟩
  have key : okParent (flatOf c) l n = true ↔ (arOf c n = [] ∨ ∃ q, q < n ∧ arOf c n = arOf c q ++ [q] ∧ q ∈ l) := by
    unfold okParent keepL
    rw [hx]
    dsimp only
    rw [Bool.or_eq_true, decide_eq_true_eq, List.any_eq_true]
    rcases arounds h n x hx with ⟨h1, h2⟩ | ⟨q, h1, h2, h3⟩
    · exact ⟨fun _ => .inl h2, fun _ => .inl h1⟩
    · constructor
      · rintro (z | ⟨m, hm, e⟩)
        · omega
        · have e' : m = q := by have := of_decide_eq_true e; omega
          exact .inr ⟨q, h2, h3, by rw [← e']; exact hm⟩
      · rintro (z | ⟨q', _, e, hq⟩)
        · rw [h3] at z; simp at z
        · have : q' = q := by
            rw [h3] at e
            have := congrArg List.getLast? e
            simpa using this.symm
          exact .inr ⟨q', hq, by rw [h1, this]; simp⟩
  rw [key]
  constructor
  · intro w
    refine ⟨fun m hm q hq => ?_, ?_⟩
    · have h1 := w m (List.mem_append_left _ hm) q hq
      rcases List.mem_append.mp h1 with z | z
      · exact z
      · have h2 := (ar_lt h m (hb m hm) q hq).1
        have h3 := lt m hm
        have h4 := List.mem_singleton.mp z
        omega
    · rcases arounds h n x hx with ⟨h1, h2⟩ | ⟨q, h1, h2, h3⟩
      · exact .inl h2
      · refine .inr ⟨q, h2, h3, ?_⟩
        have h4 := w n (by simp) q (by rw [h3]; simp)
        rcases List.mem_append.mp h4 with z | z
        · exact z
        · have := List.mem_singleton.mp z
          omega
  · rintro ⟨w, z⟩ m hm q hq
    rcases List.mem_append.mp hm with y | y
    · exact List.mem_append_left _ (w m y q hq)
    · have e := List.mem_singleton.mp y
      subst e
      rcases z with z | ⟨p, _, e, hp⟩
      · rw [z] at hq; cases hq
      · rw [e] at hq
        rcases List.mem_append.mp hq with y | y
        · exact List.mem_append_left _ (w p hp q y)
        · rw [List.mem_singleton.mp y]
          exact List.mem_append_left _ hp
theorem range_first (N : Nat) (l : List Nat) : ((List.range N).filter fun n => decide (firstOf l ≤ n)) = List.range' (firstOf l) (N - firstOf l) := by
  refine up_ext (up_filter (up_range N) _) List.pairwise_lt_range' fun x => ?_
  rw [List.mem_filter, List.mem_range, decide_eq_true_eq, List.mem_range'_1]
  omega
theorem chL_eq {c : Code} (h : isProgram c = true) : ∀ k : Nat, chL (flatOf c) k = choicesOf c k
  | 0 => by
    show [[]] = (choose 0 (linesOf c)).filter (isWhole c)
    have : choose 0 (linesOf c) = [[]] := by cases linesOf c <;> rfl
    rw [this]
    rfl
  | k + 1 => by
    have ih := chL_eq h k
    have hu : Up (linesOf c) := by rw [lines_range h]; exact up_range _
    have hN : ∀ l ∈ choose k (linesOf c), Up l ∧ ∀ n ∈ l, n < (linesOf c).length := fun l hl => by
      have hs := (choose_sub k _ l hl).1
      refine ⟨List.Pairwise.sublist hs hu, fun n hn => ?_⟩
      have := hs.mem hn
      rw [lines_range h] at this
      exact List.mem_range.mp this
    show (chL (flatOf c) k).flatMap (longOne (flatOf c)) = (choose (k + 1) (linesOf c)).filter (isWhole c)
    rw [ih, choose_ext _ _ hu, filter_flat]
    unfold Vaslcf.choicesOf
    have e2 : (choose k (linesOf c)).flatMap (fun x => (ext (linesOf c) x).filter (isWhole c)) = ((choose k (linesOf c)).filter (isWhole c)).flatMap fun x => (ext (linesOf c) x).filter (isWhole c) := by
      have gen : ∀ L : List (List Nat), (∀ l ∈ L, l ∈ choose k (linesOf c)) → L.flatMap (fun x => (ext (linesOf c) x).filter (isWhole c)) = (L.filter (isWhole c)).flatMap fun x => (ext (linesOf c) x).filter (isWhole c) := by
        intro L
        induction L with
        | nil => intro _; rfl
        | cons a r ihL =>
          intro hL
          have i2 := ihL fun l hl => hL l (List.mem_cons_of_mem _ hl)
          rw [List.flatMap_cons, List.filter_cons, i2]
          cases e : isWhole c a with
          | true => rw [if_pos rfl, List.flatMap_cons]
          | false =>
            rw [if_neg (by decide)]
            have ha := hN a (hL a (by simp))
            have : (ext (linesOf c) a).filter (isWhole c) = [] := by
              rw [List.filter_eq_nil_iff]
              intro x hx
              unfold ext at hx
              obtain ⟨n, hn, rfl⟩ := List.mem_map.mp hx
              have hn2 := List.mem_filter.mp hn
              have hnl : n < (linesOf c).length := by have := hn2.1; rw [lines_range h] at this; exact List.mem_range.mp this
              rw [isWhole_eq h (fun m hm => by
                rcases List.mem_append.mp hm with z | z
                · exact ha.2 m z
                · rw [List.mem_singleton.mp z]; exact hnl), all_whole, whole_ext h ha.1 ha.2 hnl (of_decide_eq_true hn2.2)]
              rintro ⟨z, _⟩
              rw [isWhole_eq h ha.2] at e
              rw [all_whole.mpr z] at e
              cases e
            rw [this]
            rfl
      exact gen _ fun l hl => hl
    rw [e2]
    refine flat_congr fun l hl => ?_
    have hl2 := List.mem_filter.mp hl
    obtain ⟨u, b⟩ := hN l hl2.1
    have hw : Whole c l := by have := hl2.2; rw [isWhole_eq h b] at this; exact all_whole.mp this
    unfold longOne ext
    rw [flatOf_length, List.filter_map]
    have e3 : (linesOf c).filter (fun n => decide (firstOf l ≤ n)) = List.range' (firstOf l) ((linesOf c).length - firstOf l) := by
      conv => lhs; rw [lines_range h]
      exact range_first _ _
    rw [e3]
    refine congrArg (List.map fun n => l ++ [n]) (List.filter_congr fun n hn => ?_)
    have hn2 := List.mem_range'_1.mp hn
    have hnl : n < (linesOf c).length := by omega
    show okParent (flatOf c) l n = isWhole c (l ++ [n])
    rw [isWhole_eq h (fun m hm => by
      rcases List.mem_append.mp hm with z | z
      · exact b m z
      · rw [List.mem_singleton.mp z]; exact hnl), Bool.eq_iff_iff, all_whole, whole_ext h u b hnl hn2.1]
    exact ⟨fun z => ⟨hw, z⟩, fun z => z.2⟩
theorem choices_fit {c : Code} (h : isProgram c = true) {k : Nat} {l : List Nat} (hl : l ∈ choicesOf c k) : Fit c l := by
  have hl2 := List.mem_filter.mp hl
  have hu : Up (linesOf c) := by rw [lines_range h]; exact up_range _
  have hs := (choose_sub k _ l hl2.1).1
  have b : ∀ n ∈ l, n < (linesOf c).length := fun n hn => by
    have := hs.mem hn
    rw [lines_range h] at this
    exact List.mem_range.mp this
  refine ⟨List.Pairwise.sublist hs hu, b, ?_⟩
  have := hl2.2
  rw [isWhole_eq h b] at this
  exact all_whole.mp this
theorem found_eq {c : Code} (h : isProgram c = true) (w : Wish) (k : Nat) : foundL (flatOf c) c w k = enoughOf c w (wantsOf c w) k := by
  unfold foundL Vaslcf.enoughOf
  rw [chL_eq h]
  refine List.filter_congr fun l hl => ?_
  have F := choices_fit h hl
  exact enough_eq h w F.up F.lt
theorem leastGo_eq {c : Code} (h : isProgram c = true) (w : Wish) : ∀ f k : Nat, leastGo (flatOf c) c w f k = leastFrom c w (wantsOf c w) f k
  | 0, k => found_eq h w k
  | f + 1, k => by
    show (if (foundL (flatOf c) c w k).isEmpty = true then leastGo (flatOf c) c w f (k + 1) else foundL (flatOf c) c w k) = (if (enoughOf c w (wantsOf c w) k).isEmpty = true then leastFrom c w (wantsOf c w) f (k + 1) else enoughOf c w (wantsOf c w) k)
    rw [found_eq h, leastGo_eq h w f (k + 1)]
theorem least_eq {c : Code} (h : isProgram c = true) (w : Wish) : leastL (flatOf c) c w = leastOf c w := by
  unfold leastL Vaslcf.leastOf
  rw [flatOf_length]
  exact leastGo_eq h w _ _
theorem joined_eq {c : Code} (h : isProgram c = true) (w : Wish) : joinedL (flatOf c) c w = joined c w := by
  unfold joinedL Vaslcf.joined
  dsimp only
  rw [flatOf_length]
  conv => rhs; rw [lines_range h]
  refine List.filter_congr fun n _ => ?_
  rw [List.any_map]
  refine congrArg (fun f => w.places.any f) (funext fun p => ?_)
  show _ = ((leastOf c { w with places := [p] }).headD []).contains n
  rw [least_eq h]
theorem choose_full : ∀ S : List Nat, choose S.length S = [S]
  | [] => rfl
  | n :: r => by
    have big : ∀ (r : List Nat) (k : Nat), r.length < k → choose k r = [] := by
      intro r
      induction r with
      | nil => intro k hk; cases k with
        | zero => exact absurd hk (by decide)
        | succ k => rfl
      | cons a r ih =>
        intro k hk
        cases k with
        | zero => exact absurd hk (Nat.not_lt_zero _)
        | succ k =>
          have hk' : r.length < k := Nat.lt_of_succ_lt_succ hk
          show (choose k r).map (fun l => a :: l) ++ choose (k + 1) r = []
          rw [ih k hk', ih (k + 1) (by omega)]
          rfl
    show (choose r.length r).map (fun l => n :: l) ++ choose (r.length + 1) r = [n :: r]
    rw [choose_full r, big r (r.length + 1) (by omega)]
    rfl
theorem meets_all (c : Code) (w : Wish) : meets c w (wantsOf c w) = true := by
  unfold Vaslcf.meets Vaslcf.wantsOf
  rw [List.all_map, List.all_eq_true]
  intro i hi
  have := (List.mem_filter.mp hi).2
  show (Vaslca.ends (runOf c i) && Vaslcf.rowsOf c w i == Vaslcf.rowsOf c w i) = true
  rw [this]
  simp
theorem least_ne {c : Code} (h : isProgram c = true) (w : Wish) : leastL (flatOf c) c w ≠ [] := by
  have all : foundL (flatOf c) c w (linesOf c).length ≠ [] := by
    rw [found_eq h]
    have hm : linesOf c ∈ enoughOf c w (wantsOf c w) (linesOf c).length := by
      refine List.mem_filter.mpr ⟨List.mem_filter.mpr ⟨by rw [choose_full]; simp, ?_⟩, ?_⟩
      · have F := fit_all h
        rw [← lines_range h] at F
        rw [isWhole_eq h F.lt]
        exact all_whole.mpr F.whole
      · rw [only_all (linesOf c) c (fun n hn => by rw [List.contains_iff_mem]; exact hn)]
        exact meets_all c w
    intro e
    rw [e] at hm
    cases hm
  have g : ∀ f k : Nat, f + k = (linesOf c).length → leastGo (flatOf c) c w f k ≠ [] := by
    intro f
    induction f with
    | zero => intro k e; rw [Nat.zero_add] at e; subst e; exact all
    | succ f ih =>
      intro k e
      have e1 : leastGo (flatOf c) c w (f + 1) k = if (foundL (flatOf c) c w k).isEmpty = true then leastGo (flatOf c) c w f (k + 1) else foundL (flatOf c) c w k := rfl
      rw [e1]
      split
      · exact ih (k + 1) (by omega)
      · rename_i z
        intro y
        rw [y] at z
        exact z rfl
  unfold leastL
  rw [flatOf_length]
  exact g _ 0 (by omega)
theorem ch_ok {c : Code} (h : isProgram c = true) (h10 : (linesOf c).length ≤ 10) (k : Nat) : ChOk (flatOf c) (chL (flatOf c) k) := by
  rw [chL_eq h]
  refine ⟨?_, fun l hl n hn => ?_, fun l hl => ?_⟩
  · have h1 : (choicesOf c k).length ≤ (choose k (linesOf c)).length := List.length_filter_le _ _
    have h2 := choose_len k (linesOf c)
    have h3 : 2 ^ (linesOf c).length ≤ 2 ^ 10 := Nat.pow_le_pow_right (by decide) h10
    have h4 : (2 : Nat) ^ 10 = 1024 := by decide
    omega
  · rw [flatOf_length]
    exact (choices_fit h hl).lt n hn
  · have := (choose_sub k _ l (List.mem_filter.mp hl).1).1.length_le
    omega
end Ld
end
section
set_option Elab.async false
set_option maxHeartbeats 1000000
namespace Ld
open Vaslca (Text Code Cond Expr Atom Info linesOf only isProgram areStatements isExpr isAtom isCond isName atomText exprWords condWords opText relText spaced gluedBy decimal infosIn infosOf infoAt runOf textAt programText indent line isDone linesIn linesOf)
/-! ### every head is well -/
theorem name_len {v : Text} (h : isName v = true) : v.length ≤ 4 := (name_facts h).2.1
theorem atom_len {a : Atom} (h : isAtom a = true) : (atomText a).length ≤ 4 := by
  cases a with
  | var v => exact name_len h
  | num n =>
    have hn : n ≤ 99 := of_decide_eq_true h
    have : ∀ n : Fin 100, (decimal n.1).length ≤ 4 := by decide +kernel
    exact this ⟨n, by omega⟩
theorem expr_ok {e : Expr} (h : isExpr e = true) : isAtom e.one = true ∧ isAtom e.two = true := by
  have h' : (isAtom e.one && (isAtom e.two && (e.op != .alone || e.two == .num 0))) = true := h
  rw [Bool.and_eq_true, Bool.and_eq_true] at h'
  exact ⟨h'.1, h'.2.1⟩
theorem op_len (o : Vaslca.Op) : (opText o).length ≤ 1 := by cases o <;> decide
theorem rel_len (o : Vaslca.Rel) : (relText o).length ≤ 2 := by cases o <;> decide
theorem head_len {h : Head} (ok : h.ok = true) : h.text.length ≤ 100 := by
  cases h with
  | set v e =>
    have ok' : (isName v && isExpr e) = true := ok
    rw [Bool.and_eq_true] at ok'
    have h1 := name_len ok'.1
    obtain ⟨e1, e2⟩ := expr_ok ok'.2
    have h2 := atom_len e1
    have h3 := atom_len e2
    have h4 := op_len e.op
    have q : (Vaslca.ascii "=").length = 1 := by decide
    show (spaced ([v, Vaslca.ascii "="] ++ exprWords e)).length ≤ 100
    unfold exprWords
    split
    · show (v ++ ([32] ++ (Vaslca.ascii "=" ++ ([32] ++ atomText e.one)))).length ≤ 100
      simp only [List.length_append, List.length_singleton]
      omega
    · show (v ++ ([32] ++ (Vaslca.ascii "=" ++ ([32] ++ (atomText e.one ++ ([32] ++ (opText e.op ++ ([32] ++ atomText e.two)))))))).length ≤ 100
      simp only [List.length_append, List.length_singleton]
      omega
  | read v =>
    have h1 := name_len (show isName v = true from ok)
    have q : (Vaslca.ascii "read").length = 4 := by decide
    show (Vaslca.ascii "read" ++ ([32] ++ v)).length ≤ 100
    simp only [List.length_append, List.length_singleton]
    omega
  | write a =>
    have h1 := atom_len (show isAtom a = true from ok)
    have q : (Vaslca.ascii "write").length = 5 := by decide
    show (Vaslca.ascii "write" ++ ([32] ++ atomText a)).length ≤ 100
    simp only [List.length_append, List.length_singleton]
    omega
  | halt => decide
  | ite c =>
    have ok' : (isAtom c.one && isAtom c.two) = true := ok
    rw [Bool.and_eq_true] at ok'
    have h1 := atom_len ok'.1
    have h2 := atom_len ok'.2
    have h4 := rel_len c.rel
    have q : (Vaslca.ascii "if").length = 2 := by decide
    show (Vaslca.ascii "if" ++ ([32] ++ (atomText c.one ++ ([32] ++ (relText c.rel ++ ([32] ++ (atomText c.two ++ [58]))))))).length ≤ 100
    simp only [List.length_append, List.length_singleton]
    omega
  | loop c =>
    have ok' : (isAtom c.one && isAtom c.two) = true := ok
    rw [Bool.and_eq_true] at ok'
    have h1 := atom_len ok'.1
    have h2 := atom_len ok'.2
    have h4 := rel_len c.rel
    have q : (Vaslca.ascii "while").length = 5 := by decide
    show (Vaslca.ascii "while" ++ ([32] ++ (atomText c.one ++ ([32] ++ (relText c.rel ++ ([32] ++ (atomText c.two ++ [58]))))))).length ≤ 100
    simp only [List.length_append, List.length_singleton]
    omega
theorem flat_ok : ∀ (c : Code) (p : Int) (s : Nat), areStatements c = true → ∀ l ∈ flat p s c, l.head.ok = true
  | .done, _, _, _, l, hl => by cases hl
  | .set n v e r, p, s, h, l, hl => by
    have h' : (isName v && (isExpr e && areStatements r)) = true := h
    rw [Bool.and_eq_true, Bool.and_eq_true] at h'
    rcases List.mem_cons.mp hl with rfl | hl
    · show (isName v && isExpr e) = true
      rw [h'.1, h'.2.1]; rfl
    · exact flat_ok r p s h'.2.2 l hl
  | .read n v r, p, s, h, l, hl => by
    have h' : (isName v && areStatements r) = true := h
    rw [Bool.and_eq_true] at h'
    rcases List.mem_cons.mp hl with rfl | hl
    · exact h'.1
    · exact flat_ok r p s h'.2 l hl
  | .write n a r, p, s, h, l, hl => by
    have h' : (isAtom a && areStatements r) = true := h
    rw [Bool.and_eq_true] at h'
    rcases List.mem_cons.mp hl with rfl | hl
    · exact h'.1
    · exact flat_ok r p s h'.2 l hl
  | .halt_ n r, p, s, h, l, hl => by
    rcases List.mem_cons.mp hl with rfl | hl
    · rfl
    · exact flat_ok r p s h l hl
  | .ite n q a b r, p, s, h, l, hl => by
    have h' : (isCond q && (!isDone a && (areStatements a && (areStatements b && areStatements r)))) = true := h
    simp only [Bool.and_eq_true] at h'
    rcases List.mem_cons.mp hl with rfl | hl
    · exact h'.1
    · rcases List.mem_append.mp hl with hl | hl
      · exact flat_ok a _ _ h'.2.2.1 l hl
      · rcases List.mem_append.mp hl with hl | hl
        · exact flat_ok b _ _ h'.2.2.2.1 l hl
        · exact flat_ok r p s h'.2.2.2.2 l hl
  | .loop n q b r, p, s, h, l, hl => by
    have h' : (isCond q && (!isDone b && (areStatements b && areStatements r))) = true := h
    simp only [Bool.and_eq_true] at h'
    rcases List.mem_cons.mp hl with rfl | hl
    · exact h'.1
    · rcases List.mem_append.mp hl with hl | hl
      · exact flat_ok b _ _ h'.2.2.1 l hl
      · exact flat_ok r p s h'.2.2.2 l hl
theorem heads_ok {c : Code} (h : isProgram c = true) : ∀ l ∈ flatOf c, l.head.ok = true := flat_ok c _ _ (prog_facts h).1
theorem flat_side : ∀ (c : Code) (p : Int) (s : Nat), ∀ l ∈ flat p s c, l.side = 1 → (l.parent = p ∧ s = 1) ∨ 0 ≤ l.parent
  | .done, _, _, l, hl, _ => by cases hl
  | .set n v e r, p, s, l, hl, h => by
    rcases List.mem_cons.mp hl with rfl | hl
    · exact .inl ⟨rfl, h⟩
    · exact flat_side r p s l hl h
  | .read n v r, p, s, l, hl, h => by
    rcases List.mem_cons.mp hl with rfl | hl
    · exact .inl ⟨rfl, h⟩
    · exact flat_side r p s l hl h
  | .write n v r, p, s, l, hl, h => by
    rcases List.mem_cons.mp hl with rfl | hl
    · exact .inl ⟨rfl, h⟩
    · exact flat_side r p s l hl h
  | .halt_ n r, p, s, l, hl, h => by
    rcases List.mem_cons.mp hl with rfl | hl
    · exact .inl ⟨rfl, h⟩
    · exact flat_side r p s l hl h
  | .ite n q a b r, p, s, l, hl, h => by
    rcases List.mem_cons.mp hl with rfl | hl
    · exact .inl ⟨rfl, h⟩
    · rcases List.mem_append.mp hl with hl | hl
      · rcases flat_side a _ _ l hl h with z | z
        · exact .inr (by omega)
        · exact .inr z
      · rcases List.mem_append.mp hl with hl | hl
        · rcases flat_side b _ _ l hl h with z | z
          · exact .inr (by omega)
          · exact .inr z
        · exact flat_side r p s l hl h
  | .loop n q b r, p, s, l, hl, h => by
    rcases List.mem_cons.mp hl with rfl | hl
    · exact .inl ⟨rfl, h⟩
    · rcases List.mem_append.mp hl with hl | hl
      · rcases flat_side b _ _ l hl h with z | z
        · exact .inr (by omega)
        · exact .inr z
      · exact flat_side r p s l hl h
theorem ar_len {c : Code} (h : isProgram c = true) : ∀ n, n < (linesOf c).length → (arOf c n).length ≤ n := by
  intro n
  induction n using Nat.strongRecOn with
  | ind n ih =>
    intro hn
    obtain ⟨l, hl⟩ : ∃ l, (flatOf c)[n]? = some l := ⟨_, List.getElem?_eq_getElem (by rw [flatOf_length]; exact hn)⟩
    rcases arounds h n l hl with ⟨h1, h2⟩ | ⟨p, h1, h2, h3⟩
    · rw [h2]; exact Nat.zero_le _
    · have := ih p h2 (by omega)
      rw [h3, List.length_append, List.length_singleton]
      omega
theorem ar_ok {c : Code} (h : isProgram c = true) : ArOk (flatOf c) (arOf c) := by
  have h14 := (prog_facts h).2.2.1
  refine ⟨arounds h, fun n hn => ?_, fun n l hl hs => ?_⟩
  · rw [flatOf_length] at hn
    have := ar_len h n hn
    omega
  · rcases arounds h n l hl with ⟨h1, h2⟩ | ⟨p, h1, h2, h3⟩
    · rcases flat_side c _ _ l (List.mem_of_getElem? hl) hs with z | z
      · exact absurd z.2 (by decide)
      · omega
    · rw [h3, List.length_append, List.length_singleton]
      omega
/-! ### the text -/
def Stand (P : List PL) (A : Nat → List Nat) : Int → Nat → Nat → Code → Prop
  | _, _, _, .done => True
  | p, s, d, .set n v e r => (P[n]? = some ⟨.set v e, p, s⟩ ∧ (A n).length = d) ∧ Stand P A p s d r
  | p, s, d, .read n v r => (P[n]? = some ⟨.read v, p, s⟩ ∧ (A n).length = d) ∧ Stand P A p s d r
  | p, s, d, .write n a r => (P[n]? = some ⟨.write a, p, s⟩ ∧ (A n).length = d) ∧ Stand P A p s d r
  | p, s, d, .halt_ n r => (P[n]? = some ⟨.halt, p, s⟩ ∧ (A n).length = d) ∧ Stand P A p s d r
  | p, s, d, .ite n q a b r => (P[n]? = some ⟨.ite q, p, s⟩ ∧ (A n).length = d) ∧ Stand P A n 0 (d + 1) a ∧ Stand P A n 1 (d + 1) b ∧ Stand P A p s d r
  | p, s, d, .loop n q b r => (P[n]? = some ⟨.loop q, p, s⟩ ∧ (A n).length = d) ∧ Stand P A n 0 (d + 1) b ∧ Stand P A p s d r
theorem At.stand (l : List Nat) : ∀ {c : Code} {P : List PL} {p : Int} {s n d : Nat} {pre post : List PL} {A : Nat → List Nat} {k : List Nat}, At P p s n c pre post → Lays A n (arIn k c) → k.length = d → Stand P A p s d (only l c)
  | .done, _, _, _, _, _, _, _, _, _, _, _, _ => trivial
  | .set m v e r, P, p, s, n, d, pre, post, A, k, x, L, hd => by
    obtain ⟨rfl, hr⟩ := rows_set x.rows
    obtain ⟨ha, L2⟩ := Lays.cons (k := k) (ks := arIn k r) L
    have y := (x.next (r := r) rfl hr rfl).stand l L2 hd
    show Stand P A p s d (if l.contains m = true then .set m v e (only l r) else only l r)
    split
    · exact ⟨⟨x.get rfl, by rw [ha]; exact hd⟩, y⟩
    · exact y
  | .read m v r, P, p, s, n, d, pre, post, A, k, x, L, hd => by
    obtain ⟨rfl, hr⟩ := rows_read x.rows
    obtain ⟨ha, L2⟩ := Lays.cons (k := k) (ks := arIn k r) L
    have y := (x.next (r := r) rfl hr rfl).stand l L2 hd
    show Stand P A p s d (if l.contains m = true then .read m v (only l r) else only l r)
    split
    · exact ⟨⟨x.get rfl, by rw [ha]; exact hd⟩, y⟩
    · exact y
  | .write m v r, P, p, s, n, d, pre, post, A, k, x, L, hd => by
    obtain ⟨rfl, hr⟩ := rows_write x.rows
    obtain ⟨ha, L2⟩ := Lays.cons (k := k) (ks := arIn k r) L
    have y := (x.next (r := r) rfl hr rfl).stand l L2 hd
    show Stand P A p s d (if l.contains m = true then .write m v (only l r) else only l r)
    split
    · exact ⟨⟨x.get rfl, by rw [ha]; exact hd⟩, y⟩
    · exact y
  | .halt_ m r, P, p, s, n, d, pre, post, A, k, x, L, hd => by
    obtain ⟨rfl, hr⟩ := rows_halt x.rows
    obtain ⟨ha, L2⟩ := Lays.cons (k := k) (ks := arIn k r) L
    have y := (x.next (r := r) rfl hr rfl).stand l L2 hd
    show Stand P A p s d (if l.contains m = true then .halt_ m (only l r) else only l r)
    split
    · exact ⟨⟨x.get rfl, by rw [ha]; exact hd⟩, y⟩
    · exact y
  | .ite m q a b r, P, p, s, n, d, pre, post, A, k, x, L, hd => by
    obtain ⟨rfl, xa, xb, xr⟩ := x.ite
    obtain ⟨ha, L2⟩ := Lays.cons (k := k) (ks := arIn (k ++ [m]) a ++ (arIn (k ++ [m]) b ++ arIn k r)) L
    obtain ⟨La, L3⟩ := L2.app
    obtain ⟨Lb, Lr⟩ := L3.app
    rw [arIn_length] at Lb Lr
    rw [arIn_length] at Lr
    have hd2 : (k ++ [m]).length = d + 1 := by rw [List.length_append, hd]; rfl
    have y := xr.stand l Lr hd
    show Stand P A p s d (if l.contains m = true then .ite m q (only l a) (only l b) (only l r) else only l r)
    split
    · exact ⟨⟨x.get rfl, by rw [ha]; exact hd⟩, xa.stand l La hd2, xb.stand l Lb hd2, y⟩
    · exact y
  | .loop m q b r, P, p, s, n, d, pre, post, A, k, x, L, hd => by
    obtain ⟨rfl, xb, xr⟩ := x.loop
    obtain ⟨ha, L2⟩ := Lays.cons (k := k) (ks := arIn (k ++ [m]) b ++ arIn k r) L
    obtain ⟨Lb, Lr⟩ := L2.app
    rw [arIn_length] at Lr
    have hd2 : (k ++ [m]).length = d + 1 := by rw [List.length_append, hd]; rfl
    have y := xr.stand l Lr hd
    show Stand P A p s d (if l.contains m = true then .loop m q (only l b) (only l r) else only l r)
    split
    · exact ⟨⟨x.get rfl, by rw [ha]; exact hd⟩, xb.stand l Lb hd2, y⟩
    · exact y
theorem row_line (d : Nat) (t : Text) : rowText d t = line (indent d ++ t) := by
  unfold rowText Vaslca.line
  rw [List.append_assoc]
theorem step_plain {P : List PL} {A : Nat → List Nat} {n d s : Nat} {h : Head} {p : Int} (e : P[n]? = some ⟨h, p, s⟩) (hd : (A n).length = d) (t : Text) {g : List Int} (hg : s = 0 ∨ p ∈ g) : stepText P A (t, g) n = (t ++ line (indent d ++ h.text), g) := by
  unfold stepText
  rw [e]
  dsimp only
  rw [if_neg (by rintro ⟨z1, z2⟩; rcases hg with z | z; (· omega); (· exact z2 z)), hd, row_line]
theorem step_first {P : List PL} {A : Nat → List Nat} {n d : Nat} {h : Head} {p : Int} (e : P[n]? = some ⟨h, p, 1⟩) (hd : (A n).length = d + 1) (t : Text) {g : List Int} (hg : p ∉ g) : stepText P A (t, g) n = stepText P A (t ++ line (indent d ++ elseText), g ++ [p]) n := by
  have r := step_plain (P := P) (A := A) e hd (t ++ line (indent d ++ elseText)) (g := g ++ [p]) (.inr (List.mem_append_right _ (List.mem_singleton.mpr rfl)))
  rw [r]
  unfold stepText
  rw [e]
  dsimp only
  rw [if_pos ⟨rfl, hg⟩, hd, Nat.add_sub_cancel, row_line, row_line]
/-- a block of an else, not begun -/
theorem text_else {P : List PL} {A : Nat → List Nat} {p : Int} {d : Nat} {c : Code} (x : Stand P A p 1 (d + 1) c) (hc : isDone c = false) (t : Text) {g : List Int} (hg : p ∉ g) :
    (linesOf c).foldl (stepText P A) (t, g) = (linesOf c).foldl (stepText P A) (t ++ line (indent d ++ elseText), g ++ [p]) := by
  cases c with
  | done => cases hc
  | set n v e r => simp only [linesOf, List.foldl_cons]; rw [step_first x.1.1 x.1.2 t hg]
  | read n v r => simp only [linesOf, List.foldl_cons]; rw [step_first x.1.1 x.1.2 t hg]
  | write n v r => simp only [linesOf, List.foldl_cons]; rw [step_first x.1.1 x.1.2 t hg]
  | halt_ n r => simp only [linesOf, List.foldl_cons]; rw [step_first x.1.1 x.1.2 t hg]
  | ite n q a b r => simp only [linesOf, List.foldl_cons]; rw [step_first x.1.1 x.1.2 t hg]
  | loop n q b r => simp only [linesOf, List.foldl_cons]; rw [step_first x.1.1 x.1.2 t hg]
theorem text_ok {P : List PL} {A : Nat → List Nat} : ∀ (c : Code) (p : Int) (s d : Nat) (t : Text) (g : List Int), Stand P A p s d c → Up (linesOf c) → (∀ m ∈ linesOf c, ∀ x ∈ g, x < (m : Int)) → (s = 0 ∨ p ∈ g) →
    ∃ E : List Int, (linesOf c).foldl (stepText P A) (t, g) = (t ++ textAt d c, g ++ E) ∧ ∀ x ∈ E, ∃ m ∈ linesOf c, x = (m : Int) := by
  have simple : ∀ (n : Nat) (h : Head) (r cc : Code) (p : Int) (s d : Nat) (t : Text) (g : List Int), linesOf cc = n :: linesOf r → textAt d cc = line (indent d ++ h.text) ++ textAt d r → (P[n]? = some ⟨h, p, s⟩ ∧ (A n).length = d) → Up (linesOf cc) → (∀ m ∈ linesOf cc, ∀ x ∈ g, x < (m : Int)) → (s = 0 ∨ p ∈ g) →
      (∀ t' : Text, Up (linesOf r) → (∀ m ∈ linesOf r, ∀ x ∈ g, x < (m : Int)) → ∃ E : List Int, (linesOf r).foldl (stepText P A) (t', g) = (t' ++ textAt d r, g ++ E) ∧ ∀ x ∈ E, ∃ m ∈ linesOf r, x = (m : Int)) →
      ∃ E : List Int, (linesOf cc).foldl (stepText P A) (t, g) = (t ++ textAt d cc, g ++ E) ∧ ∀ x ∈ E, ∃ m ∈ linesOf cc, x = (m : Int) := by
    intro n h r cc p s d t g el et x hu hb hg k
    rw [el] at hu hb ⊢
    obtain ⟨E, e1, e2⟩ := k (t ++ line (indent d ++ h.text)) (List.pairwise_cons.mp hu).2 fun m hm => hb m (List.mem_cons_of_mem _ hm)
    refine ⟨E, ?_, fun y hy => ?_⟩
    · rw [List.foldl_cons, step_plain x.1 x.2 t hg, e1, et, List.append_assoc]
    · obtain ⟨m, hm, e⟩ := e2 y hy
      exact ⟨m, List.mem_cons_of_mem _ hm, e⟩
  intro c
  induction c with
  | done => intro p s d t g _ _ _ _; exact ⟨[], by simp [linesOf, textAt], fun x hx => by cases hx⟩
  | set n v e r ih => intro p s d t g x hu hb hg; exact simple n (.set v e) r _ p s d t g rfl rfl x.1 hu hb hg fun t' u b => ih p s d t' g x.2 u b hg
  | read n v r ih => intro p s d t g x hu hb hg; exact simple n (.read v) r _ p s d t g rfl rfl x.1 hu hb hg fun t' u b => ih p s d t' g x.2 u b hg
  | write n v r ih => intro p s d t g x hu hb hg; exact simple n (.write v) r _ p s d t g rfl rfl x.1 hu hb hg fun t' u b => ih p s d t' g x.2 u b hg
  | halt_ n r ih => intro p s d t g x hu hb hg; exact simple n .halt r _ p s d t g rfl rfl x.1 hu hb hg fun t' u b => ih p s d t' g x.2 u b hg
  | ite n q a b r ia ib ir =>
    intro p s d t g x hu hb hg
    obtain ⟨x0, xa, xb, xr⟩ := x
    have el : linesOf (.ite n q a b r) = n :: (linesOf a ++ (linesOf b ++ linesOf r)) := rfl
    rw [el] at hu hb ⊢
    have u1 := List.pairwise_cons.mp hu
    have u2 := List.pairwise_append.mp u1.2
    have u3 := List.pairwise_append.mp u2.2.1
    have gn : ∀ y ∈ g, y < (n : Int) := hb n (by simp)
    have na : ∀ m ∈ linesOf a, n < m := fun m hm => u1.1 m (List.mem_append_left _ hm)
    have nb : ∀ m ∈ linesOf b, n < m := fun m hm => u1.1 m (List.mem_append_right _ (List.mem_append_left _ hm))
    have nr : ∀ m ∈ linesOf r, n < m := fun m hm => u1.1 m (List.mem_append_right _ (List.mem_append_right _ hm))
    obtain ⟨Ea, e1, e2⟩ := ia n 0 (d + 1) (t ++ line (indent d ++ (Head.ite q).text)) g xa u2.1 (fun m hm y hy => by have := gn y hy; have := na m hm; omega) (.inl rfl)
    rw [List.foldl_cons, step_plain x0.1 x0.2 t hg, List.foldl_append, e1, List.foldl_append]
    have eB : ∃ Eb : List Int, (linesOf b).foldl (stepText P A) (t ++ line (indent d ++ (Head.ite q).text) ++ textAt (d + 1) a, g ++ Ea) = (t ++ line (indent d ++ (Head.ite q).text) ++ textAt (d + 1) a ++ (if isDone b = true then [] else line (indent d ++ elseText) ++ textAt (d + 1) b), g ++ Ea ++ Eb) ∧ ∀ y ∈ Eb, y = (n : Int) ∨ ∃ m ∈ linesOf b, y = (m : Int) := by
      cases hd : isDone b with
      | true =>
        have : b = .done := by cases b <;> first | rfl | cases hd
        subst this
        exact ⟨[], by simp [linesOf], fun y hy => by cases hy⟩
      | false =>
        have nin : (n : Int) ∉ g ++ Ea := by
          intro hm
          rcases List.mem_append.mp hm with z | z
          · have := gn _ z; omega
          · obtain ⟨m, hm, e⟩ := e2 _ z
            have := na m hm; omega
        obtain ⟨Eb, f1, f2⟩ := ib n 1 (d + 1) (t ++ line (indent d ++ (Head.ite q).text) ++ textAt (d + 1) a ++ line (indent d ++ elseText)) (g ++ Ea ++ [(n : Int)]) xb u3.1 (fun m hm y hy => by
          have hnm := nb m hm
          rcases List.mem_append.mp hy with z | z
          · rcases List.mem_append.mp z with z | z
            · have := gn y z; omega
            · obtain ⟨m', hm', e⟩ := e2 y z
              have := u2.2.2 m' hm' m (List.mem_append_left _ hm)
              omega
          · rw [List.mem_singleton.mp z]; omega) (.inr (by simp))
        refine ⟨[(n : Int)] ++ Eb, ?_, fun y hy => ?_⟩
        · rw [text_else xb hd _ nin, f1, if_neg (by decide)]
          simp only [List.append_assoc]
        · rcases List.mem_append.mp hy with z | z
          · exact .inl (List.mem_singleton.mp z)
          · exact .inr (f2 y z)
    obtain ⟨Eb, f1, f2⟩ := eB
    rw [f1]
    obtain ⟨Er, g1, g2⟩ := ir p s d (t ++ line (indent d ++ (Head.ite q).text) ++ textAt (d + 1) a ++ (if isDone b = true then [] else line (indent d ++ elseText) ++ textAt (d + 1) b)) (g ++ Ea ++ Eb) xr u3.2.1 (fun m hm y hy => by
      have hnm := nr m hm
      rcases List.mem_append.mp hy with z | z
      · rcases List.mem_append.mp z with z | z
        · have := gn y z; omega
        · obtain ⟨m', hm', e⟩ := e2 y z
          have := u2.2.2 m' hm' m (List.mem_append_right _ hm)
          omega
      · rcases f2 y z with z | ⟨m', hm', e⟩
        · omega
        · have := u3.2.2 m' hm' m hm
          omega) (by
        rcases hg with z | z
        · exact .inl z
        · exact .inr (List.mem_append_left _ (List.mem_append_left _ z)))
    rw [g1]
    refine ⟨Ea ++ (Eb ++ Er), ?_, fun y hy => ?_⟩
    · refine Prod.ext ?_ (by simp only [List.append_assoc])
      show _ = t ++ (line (indent d ++ (Head.ite q).text) ++ (textAt (d + 1) a ++ ((if isDone b = true then [] else line (indent d ++ elseText) ++ textAt (d + 1) b) ++ textAt d r)))
      simp only [List.append_assoc]
    · rcases List.mem_append.mp hy with z | z
      · obtain ⟨m, hm, e⟩ := e2 y z
        exact ⟨m, by simp [hm], e⟩
      · rcases List.mem_append.mp z with z | z
        · rcases f2 y z with z | ⟨m, hm, e⟩
          · exact ⟨n, by simp, z⟩
          · exact ⟨m, by simp [hm], e⟩
        · obtain ⟨m, hm, e⟩ := g2 y z
          exact ⟨m, by simp [hm], e⟩
  | loop n q b r ib ir =>
    intro p s d t g x hu hb hg
    obtain ⟨x0, xb, xr⟩ := x
    have el : linesOf (.loop n q b r) = n :: (linesOf b ++ linesOf r) := rfl
    rw [el] at hu hb ⊢
    have u1 := List.pairwise_cons.mp hu
    have u2 := List.pairwise_append.mp u1.2
    have gn : ∀ y ∈ g, y < (n : Int) := hb n (by simp)
    have nb : ∀ m ∈ linesOf b, n < m := fun m hm => u1.1 m (List.mem_append_left _ hm)
    have nr : ∀ m ∈ linesOf r, n < m := fun m hm => u1.1 m (List.mem_append_right _ hm)
    obtain ⟨Ea, e1, e2⟩ := ib n 0 (d + 1) (t ++ line (indent d ++ (Head.loop q).text)) g xb u2.1 (fun m hm y hy => by have := gn y hy; have := nb m hm; omega) (.inl rfl)
    rw [List.foldl_cons, step_plain x0.1 x0.2 t hg, List.foldl_append, e1]
    obtain ⟨Er, g1, g2⟩ := ir p s d (t ++ line (indent d ++ (Head.loop q).text) ++ textAt (d + 1) b) (g ++ Ea) xr u2.2.1 (fun m hm y hy => by
      have hnm := nr m hm
      rcases List.mem_append.mp hy with z | z
      · have := gn y z; omega
      · obtain ⟨m', hm', e⟩ := e2 y z
        have := u2.2.2 m' hm' m hm
        omega) (by
        rcases hg with z | z
        · exact .inl z
        · exact .inr (List.mem_append_left _ z))
    rw [g1]
    refine ⟨Ea ++ Er, ?_, fun y hy => ?_⟩
    · refine Prod.ext ?_ (by simp only [List.append_assoc])
      show _ = t ++ (line (indent d ++ (Head.loop q).text) ++ (textAt (d + 1) b ++ textAt d r))
      simp only [List.append_assoc]
    · rcases List.mem_append.mp hy with z | z
      · obtain ⟨m, hm, e⟩ := e2 y z
        exact ⟨m, by simp [hm], e⟩
      · obtain ⟨m, hm, e⟩ := g2 y z
        exact ⟨m, by simp [hm], e⟩
theorem text_only {c : Code} (h : isProgram c = true) (l : List Nat) : textL (flatOf c) (arOf c) (linesOf (only l c)) = programText (only l c) := by
  have st := (at_top h).stand l (A := arOf c) (k := []) (d := 0) (fun i k hk => by rw [Nat.zero_add]; unfold arOf; rw [hk]; rfl) rfl
  have hu : Up (linesOf (only l c)) := by rw [shown_filter h]; exact up_filter (up_range _) _
  obtain ⟨E, e, _⟩ := text_ok (only l c) (-1) 0 0 [] [] st hu (fun m _ x hx => by cases hx) (.inl rfl)
  unfold textL
  rw [e]
  rfl
theorem text_fit {c : Code} (h : isProgram c = true) {l : List Nat} (F : Fit c l) : textL (flatOf c) (arOf c) l = programText (only l c) := by
  rw [← text_only h, ← alone_shown h F.up F.lt, alone_whole h F.up F.lt F.whole]
end Ld
end
section
set_option Elab.async false
set_option maxHeartbeats 1000000
namespace Ld
open Vaslca (Text Code Cond Expr Atom Info linesOf only isProgram infosIn infosOf infoAt runOf textAt programText indent line isDone linesIn exec rounds doSet doRead doWrite doStop doTest step1 held lastOf begin_ keptOf ascii decimal toldText toldNats)
open Vaslcf (headText stepOf behind stepsFor sourcesOf explained saidText toldTexts Wish)
/-! ### a line's own text -/
theorem indent_ten (d : Nat) : (10 : UInt8) ∉ indent d := by
  unfold Vaslca.indent
  intro h
  have := List.eq_of_mem_replicate h
  exact absurd this (by decide)
theorem step_rows {c : Code} (h : isProgram c = true) {n : Nat} {l : PL} (hl : (flatOf c)[n]? = some l) (r0 : List Text) (g : List Int) : ∃ (rs : List Text) (g' : List Int), stepText (flatOf c) (arOf c) (unrows r0, g) n = (unrows (r0 ++ (rs ++ [indent (arOf c n).length ++ l.head.text])), g') ∧ ∀ r ∈ rs ++ [indent (arOf c n).length ++ l.head.text], (10 : UInt8) ∉ r := by
  have ok := heads_ok h l (List.mem_of_getElem? hl)
  have t1 : (10 : UInt8) ∉ indent (arOf c n).length ++ l.head.text := by
    intro z
    rcases List.mem_append.mp z with z | z
    · exact indent_ten _ z
    · exact text_ten ok z
  have t2 : (10 : UInt8) ∉ indent ((arOf c n).length - 1) ++ elseText := by
    intro z
    rcases List.mem_append.mp z with z | z
    · exact indent_ten _ z
    · exact absurd z (by decide)
  have u1 : ∀ (a : List Text) (r : Text), unrows (a ++ [r]) = unrows a ++ line r := fun a r => by rw [unrows_append]; unfold unrows; simp
  unfold stepText
  rw [hl]
  dsimp only
  split
  · refine ⟨[indent ((arOf c n).length - 1) ++ elseText], g ++ [l.parent], ?_, ?_⟩
    · rw [row_line, row_line, ← List.append_assoc, u1, u1]
    · intro r hr
      rcases List.mem_append.mp hr with z | z
      · rw [List.mem_singleton.mp z]; exact t2
      · rw [List.mem_singleton.mp z]; exact t1
  · refine ⟨[], g, ?_, ?_⟩
    · rw [row_line, List.nil_append, u1]
    · intro r hr
      rcases List.mem_append.mp hr with z | z
      · cases z
      · rw [List.mem_singleton.mp z]; exact t1
theorem fold_rows {c : Code} (h : isProgram c = true) : ∀ (ls : List Nat) (r0 : List Text) (g : List Int), (∀ n ∈ ls, n < (linesOf c).length) → (∀ r ∈ r0, (10 : UInt8) ∉ r) → ∃ (rs : List Text) (g' : List Int), ls.foldl (stepText (flatOf c) (arOf c)) (unrows r0, g) = (unrows rs, g') ∧ ∀ r ∈ rs, (10 : UInt8) ∉ r
  | [], r0, g, _, h0 => ⟨r0, g, rfl, h0⟩
  | n :: ls, r0, g, hb, h0 => by
    obtain ⟨l, hl⟩ : ∃ l, (flatOf c)[n]? = some l := ⟨_, List.getElem?_eq_getElem (by rw [flatOf_length]; exact hb n (by simp))⟩
    obtain ⟨rs, g', e, h1⟩ := step_rows h hl r0 g
    rw [List.foldl_cons, e]
    refine fold_rows h ls _ g' (fun m hm => hb m (List.mem_cons_of_mem _ hm)) fun r hr => ?_
    rcases List.mem_append.mp hr with z | z
    · exact h0 r z
    · exact h1 r z
theorem up_ar {c : Code} (h : isProgram c = true) : ∀ n, n < (linesOf c).length → Up (arOf c n) := by
  intro n
  induction n using Nat.strongRecOn with
  | ind n ih =>
    intro hn
    obtain ⟨l, hl⟩ : ∃ l, (flatOf c)[n]? = some l := ⟨_, List.getElem?_eq_getElem (by rw [flatOf_length]; exact hn)⟩
    rcases arounds h n l hl with ⟨h1, h2⟩ | ⟨p, h1, h2, h3⟩
    · rw [h2]; exact List.Pairwise.nil
    · rw [h3]
      refine List.pairwise_append.mpr ⟨ih p h2 (by omega), List.pairwise_singleton _ _, fun x hx y hy => ?_⟩
      rw [List.mem_singleton.mp hy]
      exact (ar_lt h p (by omega) x hx).1
theorem drop_indent' (d : Nat) {b : UInt8} {r : Text} (hb : b ≠ 32) : ((indent d ++ b :: r).dropWhile fun b => b == 32) = b :: r := by
  unfold Vaslca.indent
  induction (2 * d) with
  | zero => simp [hb]
  | succ n ih => simp [List.replicate_succ, ih]
theorem head_text {c : Code} (h : isProgram c = true) {n : Nat} {l : PL} (hl : (flatOf c)[n]? = some l) : headText c n = l.head.text := by
  have hn : n < (linesOf c).length := by rw [← flatOf_length]; exact (List.getElem?_eq_some_iff.mp hl).1
  obtain ⟨x, hx, _, ha⟩ := info_at h hn
  have lt := fun q hq => (ar_lt h n hn q hq).1
  have el : linesOf (only (n :: arOf c n) c) = arOf c n ++ [n] := by
    rw [shown_filter h]
    refine up_ext (up_filter (up_range _) _) (List.pairwise_append.mpr ⟨up_ar h n hn, List.pairwise_singleton _ _, fun x hx y hy => by rw [List.mem_singleton.mp hy]; exact lt x hx⟩) fun y => ?_
    rw [List.mem_filter, List.mem_range, Bool.and_eq_true, List.contains_iff_mem, List.mem_append, List.mem_singleton, List.mem_cons]
    constructor
    · rintro ⟨_, z, _⟩
      exact z.symm
    · intro z
      have whole : ∀ q ∈ arOf c y, q ∈ n :: arOf c n := fun q hq => by
        rcases z with z | z
        · exact List.mem_cons_of_mem _ ((ar_lt h n hn y z).2 q hq)
        · rw [z] at hq; exact List.mem_cons_of_mem _ hq
      refine ⟨?_, z.symm, ?_⟩
      · rcases z with z | z
        · have := lt y z; omega
        · omega
      · unfold wholeIn
        rw [List.all_eq_true]
        intro q hq
        rw [List.contains_iff_mem]
        exact whole q hq
  unfold Vaslcf.headText
  rw [hx]
  show (((linesIn (programText (only (n :: x.around) c))).getD []).getLastD []).dropWhile (fun b => b == 32) = _
  rw [ha, ← text_only h, el]
  unfold textL
  rw [List.foldl_append]
  obtain ⟨rs, g', e, h1⟩ := fold_rows h (arOf c n) [] [] (fun m hm => by have := lt m hm; omega) (fun r hr => by cases hr)
  have e' : (arOf c n).foldl (stepText (flatOf c) (arOf c)) ([], []) = (unrows rs, g') := e
  rw [e']
  obtain ⟨rs2, g2, e2, h2⟩ := step_rows h hl rs g'
  show (((linesIn (stepText (flatOf c) (arOf c) (unrows rs, g') n).1).getD []).getLastD []).dropWhile _ = _
  rw [e2]
  have all : ∀ r ∈ rs ++ (rs2 ++ [indent (arOf c n).length ++ l.head.text]), (10 : UInt8) ∉ r := fun r hr => by
    rcases List.mem_append.mp hr with z | z
    · exact h1 r z
    · exact h2 r z
  obtain ⟨q1, q2⟩ := rowsIn_unrows all
  dsimp only
  rw [linesIn_eq, if_pos q2, q1]
  have ok := heads_ok h l (List.mem_of_getElem? hl)
  obtain ⟨b, r, eb, hb⟩ := first_small ok
  have last : (rs ++ (rs2 ++ [indent (arOf c n).length ++ l.head.text])).getLastD [] = indent (arOf c n).length ++ l.head.text := by
    rw [← List.append_assoc, List.getLastD_concat]
  show ((rs ++ (rs2 ++ [indent (arOf c n).length ++ l.head.text])).getLastD []).dropWhile _ = _
  rw [last, eb, drop_indent' _ hb]
/-! ### the steps of a line -/
theorem zip_nums (n : Nat) : ∀ (l : List VStep) (m : Nat), ((l.zipIdx m).filter fun z => z.1.line == n).map (fun z => z.2) = ((List.range l.length).filter fun i => (l[i]?).any fun s => s.line == n).map fun i => i + m
  | [], _ => rfl
  | s :: r, m => by
    have ih := zip_nums n r (m + 1)
    rw [List.zipIdx_cons, List.filter_cons, List.length_cons, List.range_succ_eq_map, List.filter_cons, List.filter_map]
    have e : ((List.range r.length).filter ((fun i => ((s :: r)[i]?).any fun s => s.line == n) ∘ Nat.succ)) = (List.range r.length).filter fun i => (r[i]?).any fun s => s.line == n := List.filter_congr fun i _ => by
      show (((s :: r)[i + 1]?).any fun s => s.line == n) = _
      rw [List.getElem?_cons_succ]
    rw [e]
    have z : (((s :: r)[0]?).any fun s => s.line == n) = (s.line == n) := rfl
    rw [z]
    have tail : ((r.zipIdx (m + 1)).filter fun z => z.1.line == n).map (fun z => z.2) = (((List.range r.length).filter fun i => (r[i]?).any fun s => s.line == n).map Nat.succ).map fun i => i + m := by
      rw [ih, List.map_map]
      refine List.map_congr_left fun i _ => ?_
      show i + (m + 1) = Nat.succ i + m
      omega
    cases s.line == n with
    | true =>
      rw [if_pos rfl, if_pos rfl, List.map_cons, List.map_cons, tail, Nat.zero_add]
    | false =>
      rw [if_neg (by decide), if_neg (by decide), tail]
theorem step_of (x : VRun) (n k : Nat) : stepOf x n k = (numsAt x n)[k]? := by
  have := zip_nums n x.steps 0
  unfold Vaslcf.stepOf
  rw [← List.getElem?_map, this]
  unfold numsAt
  simp
/-! ### lines told -/
theorem rising_cons (a : Nat) (l : List Nat) : Vaslca.rising (a :: l) = ((match l.head? with | some b => decide (a < b) | none => true) && Vaslca.rising l) := by
  cases l with
  | nil => rfl
  | cons b r => rfl
theorem rising_iff (many : Nat) : ∀ (l : List Int) (last : Int), -1 ≤ last → (risingB last many l = true ↔ (∀ z ∈ l, 0 ≤ z ∧ z < many) ∧ Vaslca.rising (l.map Int.toNat) = true ∧ ∀ z, l.head? = some z → last < z)
  | [], last, _ => ⟨fun _ => ⟨(fun z hz => by cases hz), rfl, (fun z hz => by cases hz)⟩, fun _ => rfl⟩
  | n :: r, last, hl => by
    have e : risingB last many (n :: r) = ((decide (last < n) && decide (n < (many : Int))) && risingB n many r) := rfl
    rw [e, Bool.and_eq_true, Bool.and_eq_true, decide_eq_true_eq, decide_eq_true_eq, List.map_cons, rising_cons, Bool.and_eq_true]
    constructor
    · rintro ⟨⟨h1, h2⟩, h3⟩
      obtain ⟨k1, k2, k3⟩ := (rising_iff many r n (by omega)).mp h3
      refine ⟨fun z hz => ?_, ⟨?_, k2⟩, fun z hz => ?_⟩
      · rcases List.mem_cons.mp hz with rfl | hz
        · exact ⟨by omega, h2⟩
        · exact k1 z hz
      · cases r with
        | nil => rfl
        | cons b r =>
          have := k3 b rfl
          have hb := k1 b (by simp)
          show decide (n.toNat < b.toNat) = true
          exact decide_eq_true (by omega)
      · cases Option.some.inj hz; exact h1
    · rintro ⟨h1, ⟨h2, h3⟩, h4⟩
      have hn := h1 n (by simp)
      refine ⟨⟨h4 n rfl, hn.2⟩, (rising_iff many r n (by omega)).mpr ⟨fun z hz => h1 z (List.mem_cons_of_mem _ hz), h3, fun z hz => ?_⟩⟩
      cases r with
      | nil => cases hz
      | cons b r =>
        cases Option.some.inj hz
        have hb := h1 z (by simp)
        have h2' : decide (n.toNat < z.toNat) = true := h2
        have := of_decide_eq_true h2'
        omega
theorem kept_eq {c : Code} (h : isProgram c = true) (l : List Int) : keptOf c l = if risingB (-1) (linesOf c).length l = true then some (l.map Int.toNat) else none := by
  unfold Vaslca.keptOf
  have key : (l.all (fun z => decide (0 ≤ z)) = true ∧ (l.map Int.toNat).all (linesOf c).contains = true ∧ Vaslca.rising (l.map Int.toNat) = true) ↔ risingB (-1) (linesOf c).length l = true := by
    rw [rising_iff (linesOf c).length l (-1) (Int.le_refl _), List.all_eq_true, List.all_eq_true]
    constructor
    · rintro ⟨h1, h2, h3⟩
      have p : ∀ z ∈ l, 0 ≤ z := fun z hz => of_decide_eq_true (h1 z hz)
      refine ⟨fun z hz => ⟨p z hz, ?_⟩, h3, fun z hz => ?_⟩
      · have := h2 z.toNat (List.mem_map.mpr ⟨z, hz, rfl⟩)
        rw [List.contains_iff_mem, lines_range h, List.mem_range] at this
        have := p z hz
        omega
      · have := p z (List.mem_of_mem_head? hz)
        omega
    · rintro ⟨h1, h2, _⟩
      refine ⟨fun z hz => decide_eq_true (h1 z hz).1, fun n hn => ?_, h2⟩
      obtain ⟨z, hz, rfl⟩ := List.mem_map.mp hn
      rw [List.contains_iff_mem, lines_range h, List.mem_range]
      have := h1 z hz
      omega
  by_cases z : risingB (-1) (linesOf c).length l = true
  · rw [if_pos z, if_pos (key.mpr z)]
  · rw [if_neg z, if_neg fun y => z (key.mp y)]
theorem rising_up {l : List Int} {many : Nat} (h : risingB (-1) many l = true) : Up (l.map Int.toNat) := by
  have g : ∀ l : List Nat, Vaslca.rising l = true → Up l := by
    intro l
    induction l with
    | nil => intro _; exact List.Pairwise.nil
    | cons a r ih =>
      intro h
      rw [rising_cons, Bool.and_eq_true] at h
      have u := ih h.2
      refine List.pairwise_cons.mpr ⟨fun b hb => ?_, u⟩
      cases r with
      | nil => cases hb
      | cons x r =>
        have hx : a < x := of_decide_eq_true h.1
        rcases List.mem_cons.mp hb with rfl | hb
        · exact hx
        · have := (List.pairwise_cons.mp u).1 b hb
          omega
  exact g _ ((rising_iff many l (-1) (Int.le_refl _)).mp h).2.1
/-! ### the steps behind -/
theorem marks_stay {l : List VStep} (hs : ∀ (i : Nat) (s : VStep), l[i]? = some s → ∀ k ∈ srcs s, k < i) {k n : Nat} (hn : n ≤ k) : ∀ b : Nat, marksL l k (k - n + b) n = marksL l k (k - n) n
  | 0 => rfl
  | b + 1 => by
    show mStep l (marksL l k (k - n + b)) (k - (k - n + b)) n = _
    unfold mStep
    have ih := marks_stay hs hn b
    have : (((l[k - (k - n + b)]?).map srcs).getD []).contains n = false := by
      cases e : l[k - (k - n + b)]? with
      | none => rfl
      | some s =>
        show (srcs s).contains n = false
        cases z : (srcs s).contains n with
        | false => rfl
        | true =>
          rw [List.contains_iff_mem] at z
          have := hs _ s e n z
          omega
    rw [this, Bool.and_false, Bool.or_false, ih]
theorem behind_go {l : List VStep} (hs : ∀ (i : Nat) (s : VStep), l[i]? = some s → ∀ k ∈ srcs s, k < i) (k : Nat) : ∀ (n : Nat) (K : List Nat), n ≤ k → (∀ i, i ≤ n → K.contains i = marksL l k (k - n) i) → behind l n K = ((List.range (n + 1)).filter (marksL l k (k + 1))).reverse
  | 0, K, _, hK => by
    have e := marks_stay hs (Nat.zero_le k) 1
    rw [Nat.sub_zero] at e
    have h0 := hK 0 (Nat.le_refl _)
    rw [Nat.sub_zero] at h0
    show (if K.contains 0 = true then [0] else []) = _
    rw [h0, ← e]
    show _ = (List.filter (marksL l k (k + 1)) [0]).reverse
    rw [List.filter_cons]
    cases marksL l k (k + 1) 0 <;> rfl
  | n + 1, K, hn, hK => by
    have e0 := hK (n + 1) (Nat.le_refl _)
    have e1 := marks_stay hs hn (n + 2)
    rw [show k - (n + 1) + (n + 2) = k + 1 by omega] at e1
    have kn : k - n = k - (n + 1) + 1 := by omega
    have ka : k - (k - (n + 1)) = n + 1 := by omega
    rw [List.range_succ, List.filter_append, List.reverse_append]
    show (if K.contains (n + 1) = true then (n + 1) :: behind l n (K ++ ((l[n + 1]?).map sourcesOf).getD []) else behind l n K) = _
    have st : ∀ i, marksL l k (k - n) i = (marksL l k (k - (n + 1)) i || (marksL l k (k - (n + 1)) (n + 1) && (((l[n + 1]?).map srcs).getD []).contains i)) := fun i => by
      rw [kn]
      show mStep l (marksL l k (k - (n + 1))) (k - (k - (n + 1))) i = _
      rw [ka]
      rfl
    cases z : K.contains (n + 1) with
    | true =>
      rw [if_pos rfl]
      rw [z] at e0
      have ih := behind_go hs k n (K ++ ((l[n + 1]?).map sourcesOf).getD []) (by omega) fun i hi => by
        rw [st i, ← e0, Bool.true_and, ← hK i (by omega), Bool.eq_iff_iff, Bool.or_eq_true, List.contains_iff_mem, List.contains_iff_mem, List.contains_iff_mem, List.mem_append]
        rfl
      rw [ih, List.filter_cons, e1, ← e0, if_pos rfl]
      rfl
    | false =>
      rw [if_neg (by decide)]
      rw [z] at e0
      have ih := behind_go hs k n K (by omega) fun i hi => by rw [st i, ← e0, Bool.false_and, Bool.or_false, ← hK i (by omega)]
      rw [ih, List.filter_cons, e1, ← e0, if_neg (by decide)]
      rfl
theorem behind_eq {l : List VStep} (hs : ∀ (i : Nat) (s : VStep), l[i]? = some s → ∀ k ∈ srcs s, k < i) (k : Nat) : behindL l k = stepsFor l k := by
  unfold behindL Vaslcf.stepsFor
  rw [behind_go hs k k [k] (Nat.le_refl _) (fun i _ => by
    rw [Nat.sub_self]
    show [k].contains i = (i == k)
    rw [Bool.eq_iff_iff]
    simp), List.reverse_reverse]
/-! ### steps are of the code's lines -/
def Lin (S : List Nat) (x y : VRun) : Prop := ∀ s ∈ y.steps, s ∈ x.steps ∨ s.line ∈ S
theorem Lin.refl (S : List Nat) (x : VRun) : Lin S x x := fun s hs => .inl hs
theorem Lin.trans {S : List Nat} {x y z : VRun} (a : Lin S x y) (b : Lin S y z) : Lin S x z := fun s hs => by
  rcases b s hs with h | h
  · exact a s h
  · exact .inr h
theorem Lin.mono {S T : List Nat} {x y : VRun} (h : ∀ n ∈ S, n ∈ T) (a : Lin S x y) : Lin T x y := fun s hs => (a s hs).imp id (h _)
theorem lin_step {S : List Nat} {x : VRun} {f : VRun → VRun} (h : ∀ s ∈ (f x).steps, s ∈ x.steps ∨ s.line ∈ S) : Lin S x (step1 x f) := by
  unfold Vaslca.step1
  intro s hs
  split at hs
  · exact .inl hs
  split at hs
  · exact .inl hs
  · exact h s hs
theorem lin_add {S : List Nat} {l : List VStep} {q : VStep} (h : q.line ∈ S) : ∀ s ∈ l ++ [q], s ∈ l ∨ s.line ∈ S := fun s hs => by
  rcases List.mem_append.mp hs with z | z
  · exact .inl z
  · rw [List.mem_singleton.mp z]; exact .inr h
theorem lin_set (k n v e) (x : VRun) : Lin [n] x (doSet k n v e x) := lin_step (lin_add (by simp))
theorem lin_read (k n v) (x : VRun) : Lin [n] x (doRead k n v x) := lin_step (lin_add (by simp))
theorem lin_write (k n a) (x : VRun) : Lin [n] x (doWrite k n a x) := lin_step (lin_add (by simp))
theorem lin_stop (k n) (x : VRun) : Lin [n] x (doStop k n x) := lin_step (lin_add (by simp))
theorem lin_test (k n c) (x : VRun) : Lin [n] x (doTest k n c x) := lin_step (lin_add (by simp))
theorem lin_rounds {S : List Nat} {body : Option Nat → VRun → VRun} (hb : ∀ k x, Lin S x (body k x)) (n : Nat) (hn : n ∈ S) (c : Cond) : ∀ (f : Nat) (k : Option Nat) (x : VRun), Lin S x (rounds body n c f k x)
  | 0, _, x => Lin.refl S x
  | f + 1, k, x => by
    have t := (lin_test k n c x).mono (T := S) fun m hm => by rw [List.mem_singleton.mp hm]; exact hn
    show Lin S x (if held (doTest k n c x) = true then rounds body n c f (lastOf (doTest k n c x)) (body (lastOf (doTest k n c x)) (doTest k n c x)) else doTest k n c x)
    split
    · exact t.trans ((hb _ _).trans (lin_rounds hb n hn c f _ _))
    · exact t
theorem lin_exec : ∀ (c : Code) (k : Option Nat) (x : VRun), Lin (linesOf c) x (exec c k x)
  | .done, _, x => Lin.refl _ x
  | .set n v e r, k, x => ((lin_set k n v e x).mono fun m hm => by rw [List.mem_singleton.mp hm]; exact List.mem_cons_self ..).trans ((lin_exec r k _).mono fun m hm => List.mem_cons_of_mem _ hm)
  | .read n v r, k, x => ((lin_read k n v x).mono fun m hm => by rw [List.mem_singleton.mp hm]; exact List.mem_cons_self ..).trans ((lin_exec r k _).mono fun m hm => List.mem_cons_of_mem _ hm)
  | .write n a r, k, x => ((lin_write k n a x).mono fun m hm => by rw [List.mem_singleton.mp hm]; exact List.mem_cons_self ..).trans ((lin_exec r k _).mono fun m hm => List.mem_cons_of_mem _ hm)
  | .halt_ n r, k, x => ((lin_stop k n x).mono fun m hm => by rw [List.mem_singleton.mp hm]; exact List.mem_cons_self ..).trans ((lin_exec r k _).mono fun m hm => List.mem_cons_of_mem _ hm)
  | .ite n c a b r, k, x => by
    have t := (lin_test k n c x).mono (T := linesOf (.ite n c a b r)) fun m hm => by rw [List.mem_singleton.mp hm]; exact List.mem_cons_self ..
    have la := fun k y => (lin_exec a k y).mono (T := linesOf (.ite n c a b r)) fun m hm => List.mem_cons_of_mem _ (List.mem_append_left _ hm)
    have lb := fun k y => (lin_exec b k y).mono (T := linesOf (.ite n c a b r)) fun m hm => List.mem_cons_of_mem _ (List.mem_append_right _ (List.mem_append_left _ hm))
    have lr := fun k y => (lin_exec r k y).mono (T := linesOf (.ite n c a b r)) fun m hm => List.mem_cons_of_mem _ (List.mem_append_right _ (List.mem_append_right _ hm))
    show Lin _ x (exec r k (if held (doTest k n c x) = true then exec a (lastOf (doTest k n c x)) (doTest k n c x) else if (doTest k n c x).status = .going then exec b (lastOf (doTest k n c x)) (doTest k n c x) else doTest k n c x))
    refine Lin.trans ?_ (lr _ _)
    split
    · exact t.trans (la _ _)
    · split
      · exact t.trans (lb _ _)
      · exact t
  | .loop n c b r, k, x => by
    have lb := fun k y => (lin_exec b k y).mono (T := linesOf (.loop n c b r)) fun m hm => List.mem_cons_of_mem _ (List.mem_append_left _ hm)
    have lr := fun k y => (lin_exec r k y).mono (T := linesOf (.loop n c b r)) fun m hm => List.mem_cons_of_mem _ (List.mem_append_right _ hm)
    exact (lin_rounds lb n (List.mem_cons_self ..) c _ k x).trans (lr _ _)
theorem run_lines {c : Code} (h : isProgram c = true) (d : List Nat) : ∀ s ∈ (runOf c d).steps, s.line < (linesOf c).length := fun s hs => by
  rcases lin_exec c none (begin_ d) s hs with z | z
  · cases z
  · rw [lines_range h] at z
    exact List.mem_range.mp z
end Ld
end
section
set_option Elab.async false
set_option maxHeartbeats 1000000
namespace Ld
open Vaslca (Text Code Cond Expr Atom Op Rel Row Got withCode elseOf blockOf rowOf linesIn programOf linesOf deepOf isProgram areStatements isExpr isAtom isCond isName isDone atomText exprWords condWords spaced cutAt atomOf exprOf condOf indent line textAt programText ascii)
/-! ### the spec's reader on a printed text -/
def Stop (d : Nat) (R : List Text) : Prop := ∀ r R1, R = r :: R1 → blanks r / 2 < d
theorem row_head {h : Head} (ok : h.ok = true) (d : Nat) : rowOf (indent d ++ h.text) = ⟨d, h.words⟩ := by
  obtain ⟨b, r, e, hb⟩ := first_small ok
  rw [e, rowOf_indent d hb, ← e, cut_text ok]
theorem row_else (d : Nat) : rowOf (indent d ++ elseText) = ⟨d, [ascii "else:"]⟩ := by
  rw [else_form, rowOf_indent d (by decide)]
  congr 1
theorem row_deep (r : Text) : (rowOf r).deep = blanks r / 2 := rfl
theorem words_not_else {h : Head} (ok : h.ok = true) : h.words ≠ [ascii "else:"] := by
  intro e
  refine text_not_else ok ?_
  show spaced h.words = elseText
  rw [e]
  rfl
theorem block_stop {d n f : Nat} {R : List Text} (h : Stop d R) : blockOf (f + 1) d n (R.map rowOf) = some ⟨.done, n, R.map rowOf⟩ := by
  cases R with
  | nil => rfl
  | cons r R1 =>
    have := h r R1 rfl
    show (if (rowOf r).deep ≠ d ∨ (rowOf r).words = [ascii "else:"] then some (⟨.done, n, (r :: R1).map rowOf⟩ : Got) else _) = _
    rw [if_pos (.inl (by rw [row_deep]; omega))]
theorem block_head {d n f : Nat} {h : Head} (ok : h.ok = true) (l : List Row) : blockOf (f + 1) d n (⟨d, h.words⟩ :: l) = (match (generalizing := false) h with
    | .set v e => (blockOf f d (n + 1) l).map (withCode (.set n v e))
    | .read v => (blockOf f d (n + 1) l).map (withCode (.read n v))
    | .write a => (blockOf f d (n + 1) l).map (withCode (.write n a))
    | .halt => (blockOf f d (n + 1) l).map (withCode (.halt_ n))
    | .ite c => (blockOf f (d + 1) (n + 1) l).bind fun a => (match elseOf d a.rest with
          | some q => blockOf f (d + 1) a.next q
          | none => some ⟨.done, a.next, a.rest⟩).bind fun b => (blockOf f d b.next b.rest).map (withCode (.ite n c a.code b.code))
    | .loop c => (blockOf f (d + 1) (n + 1) l).bind fun b => (blockOf f d b.next b.rest).map (withCode (.loop n c b.code))) := by
  have nel := words_not_else ok
  have st : blockOf (f + 1) d n (⟨d, h.words⟩ :: l) = (match h.words with
      | [w] => if w = ascii "stop" then (blockOf f d (n + 1) l).map (withCode (.halt_ n)) else none
      | [w, v] => if w = ascii "read" then (blockOf f d (n + 1) l).map (withCode (.read n v)) else if w = ascii "write" then (atomOf v).bind fun a => (blockOf f d (n + 1) l).map (withCode (.write n a)) else none
      | v :: w :: e =>
        if w = ascii "=" then (exprOf e).bind fun z => (blockOf f d (n + 1) l).map (withCode (.set n v z))
        else if v = ascii "if" then (condOf (w :: e)).bind fun c => (blockOf f (d + 1) (n + 1) l).bind fun a => (match elseOf d a.rest with
          | some q => blockOf f (d + 1) a.next q
          | none => some ⟨.done, a.next, a.rest⟩).bind fun b => (blockOf f d b.next b.rest).map (withCode (.ite n c a.code b.code))
        else if v = ascii "while" then (condOf (w :: e)).bind fun c => (blockOf f (d + 1) (n + 1) l).bind fun b => (blockOf f d b.next b.rest).map (withCode (.loop n c b.code))
        else none
      | [] => none) := by
    show (if d ≠ d ∨ h.words = [ascii "else:"] then _ else _) = _
    rw [if_neg (by rintro (z | z); (· exact z rfl); (· exact nel z))]
    rfl
  rw [st]
  have atom_eq : ∀ {a : Atom}, isAtom a = true → atomText a ≠ ascii "=" := fun {a} ha e => by
    cases a with
    | num n =>
      have hd := (decimal_digits n (of_decide_eq_true ha)).1
      have e' : Vaslca.decimal n = ascii "=" := e
      rw [e'] at hd
      revert hd
      decide
    | var v =>
      have := (name_facts (show isName v = true from ha)).2.2.1
      have e' : v = ascii "=" := e
      rw [e'] at this
      exact absurd (this 61 (by decide)) (by decide)
  cases h with
  | set v e =>
    have ok' : (isName v && isExpr e) = true := ok
    rw [Bool.and_eq_true] at ok'
    have ee := exprOf_exprWords ok'.2
    by_cases hal : e.op = .alone
    · have hw : (Head.set v e).words = [v, ascii "=", atomText e.one] := by show [v, ascii "="] ++ exprWords e = _; unfold exprWords; rw [if_pos hal]; rfl
      have he : exprWords e = [atomText e.one] := by unfold exprWords; rw [if_pos hal]
      rw [he] at ee
      rw [hw]
      show (if ascii "=" = ascii "=" then (exprOf [atomText e.one]).bind fun z => (blockOf f d (n + 1) l).map (withCode (.set n v z)) else _) = _
      rw [if_pos rfl, ee]
      rfl
    · have hw : (Head.set v e).words = [v, ascii "=", atomText e.one, Vaslca.opText e.op, atomText e.two] := by show [v, ascii "="] ++ exprWords e = _; unfold exprWords; rw [if_neg hal]; rfl
      have he : exprWords e = [atomText e.one, Vaslca.opText e.op, atomText e.two] := by unfold exprWords; rw [if_neg hal]
      rw [he] at ee
      rw [hw]
      show (if ascii "=" = ascii "=" then (exprOf [atomText e.one, Vaslca.opText e.op, atomText e.two]).bind fun z => (blockOf f d (n + 1) l).map (withCode (.set n v z)) else _) = _
      rw [if_pos rfl, ee]
      rfl
  | read v =>
    show (if ascii "read" = ascii "read" then _ else _) = _
    rw [if_pos rfl]
  | write a =>
    show (if ascii "write" = ascii "read" then _ else if ascii "write" = ascii "write" then (atomOf (atomText a)).bind _ else _) = _
    rw [if_neg (by decide), if_pos rfl, atomOf_atomText ok]
    rfl
  | halt =>
    show (if ascii "stop" = ascii "stop" then _ else _) = _
    rw [if_pos rfl]
  | ite c =>
    have ok' : (isAtom c.one && isAtom c.two) = true := ok
    rw [Bool.and_eq_true] at ok'
    have ee := condOf_condWords (show isCond c = true from ok)
    show (if atomText c.one = ascii "=" then _ else if ascii "if" = ascii "if" then (condOf (condWords c)).bind _ else _) = _
    rw [if_neg (atom_eq ok'.1), if_pos rfl, ee]
    rfl
  | loop c =>
    have ok' : (isAtom c.one && isAtom c.two) = true := ok
    rw [Bool.and_eq_true] at ok'
    have ee := condOf_condWords (show isCond c = true from ok)
    show (if atomText c.one = ascii "=" then _ else if ascii "while" = ascii "if" then _ else if ascii "while" = ascii "while" then (condOf (condWords c)).bind _ else _) = _
    rw [if_neg (atom_eq ok'.1), if_neg (by decide), if_pos rfl, ee]
    rfl
theorem stop_app {d : Nat} {R : List Text} (h : Stop d R) : ∀ (r : Code), areStatements r = true → Stop (d + 1) (rowsAt d r ++ R) := by
  have hd : ∀ {h : Head}, h.ok = true → blanks (indent d ++ h.text) / 2 = d := fun {h} ok => by
    obtain ⟨b, t, e, hb⟩ := first_small ok
    rw [e, blanks_indent d hb]
    omega
  intro r hr x X e
  cases r with
  | done => have := h x X e; omega
  | set n v q r =>
    have h' : (isName v && (isExpr q && areStatements r)) = true := hr
    rw [Bool.and_eq_true, Bool.and_eq_true] at h'
    rw [← (List.cons.inj e).1, hd (h := .set v q) (by show (isName v && isExpr q) = true; rw [h'.1, h'.2.1]; rfl)]
    omega
  | read n v r =>
    have h' : (isName v && areStatements r) = true := hr
    rw [Bool.and_eq_true] at h'
    rw [← (List.cons.inj e).1, hd (h := .read v) h'.1]
    omega
  | write n a r =>
    have h' : (isAtom a && areStatements r) = true := hr
    rw [Bool.and_eq_true] at h'
    rw [← (List.cons.inj e).1, hd (h := .write a) h'.1]
    omega
  | halt_ n r => rw [← (List.cons.inj e).1, hd (h := .halt) rfl]; omega
  | ite n q a b r =>
    have h' : (isCond q && (!isDone a && (areStatements a && (areStatements b && areStatements r)))) = true := hr
    rw [Bool.and_eq_true] at h'
    rw [← (List.cons.inj e).1, hd (h := .ite q) h'.1]
    omega
  | loop n q b r =>
    have h' : (isCond q && (!isDone b && (areStatements b && areStatements r))) = true := hr
    rw [Bool.and_eq_true] at h'
    rw [← (List.cons.inj e).1, hd (h := .loop q) h'.1]
    omega
theorem no_else {d : Nat} {R : List Text} (h : Stop d R) : ∀ (r : Code), areStatements r = true → elseOf d ((rowsAt d r ++ R).map rowOf) = none := by
  intro r hr
  have hw : ∀ {h : Head} (l : List Row), h.ok = true → elseOf d (rowOf (indent d ++ h.text) :: l) = none := fun {h} l ok => by
    rw [row_head ok]
    show (if d = d ∧ h.words = [ascii "else:"] then some l else none) = none
    rw [if_neg (fun z => words_not_else ok z.2)]
  cases r with
  | done =>
    show elseOf d (R.map rowOf) = none
    cases R with
    | nil => rfl
    | cons x X =>
      have := h x X rfl
      show (if (rowOf x).deep = d ∧ (rowOf x).words = [ascii "else:"] then some (X.map rowOf) else none) = none
      rw [if_neg (by rintro ⟨z, _⟩; rw [row_deep] at z; omega)]
  | set n v q r =>
    have h' : (isName v && (isExpr q && areStatements r)) = true := hr
    rw [Bool.and_eq_true, Bool.and_eq_true] at h'
    exact hw (h := .set v q) _ (by show (isName v && isExpr q) = true; rw [h'.1, h'.2.1]; rfl)
  | read n v r =>
    have h' : (isName v && areStatements r) = true := hr
    rw [Bool.and_eq_true] at h'
    exact hw (h := .read v) _ h'.1
  | write n a r =>
    have h' : (isAtom a && areStatements r) = true := hr
    rw [Bool.and_eq_true] at h'
    exact hw (h := .write a) _ h'.1
  | halt_ n r => exact hw (h := .halt) _ rfl
  | ite n q a b r =>
    have h' : (isCond q && (!isDone a && (areStatements a && (areStatements b && areStatements r)))) = true := hr
    rw [Bool.and_eq_true] at h'
    exact hw (h := .ite q) _ h'.1
  | loop n q b r =>
    have h' : (isCond q && (!isDone b && (areStatements b && areStatements r))) = true := hr
    rw [Bool.and_eq_true] at h'
    exact hw (h := .loop q) _ h'.1
theorem block_rows : ∀ (c : Code) (d n f : Nat) (R : List Text), areStatements c = true → Rows n c → (rowsAt d c).length + 1 ≤ f → Stop d R → blockOf f d n ((rowsAt d c ++ R).map rowOf) = some ⟨c, n + (linesOf c).length, R.map rowOf⟩ := by
  intro c
  induction c with
  | done =>
    intro d n f R _ _ hf hR
    obtain ⟨f, rfl⟩ : ∃ f', f = f' + 1 := ⟨f - 1, by simp [rowsAt] at hf; omega⟩
    exact block_stop hR
  | set m v e r ih =>
    intro d n f R hs hr hf hR
    have h' : (isName v && (isExpr e && areStatements r)) = true := hs
    rw [Bool.and_eq_true, Bool.and_eq_true] at h'
    obtain ⟨rfl, hr'⟩ := rows_set hr
    have hf' : (rowsAt d r).length + 1 + 1 ≤ f := hf
    obtain ⟨f, rfl⟩ : ∃ f', f = f' + 1 := ⟨f - 1, by omega⟩
    have ok : (Head.set v e).ok = true := by show (isName v && isExpr e) = true; rw [h'.1, h'.2.1]; rfl
    show blockOf (f + 1) d m (rowOf (indent d ++ (Head.set v e).text) :: (rowsAt d r ++ R).map rowOf) = _
    rw [row_head ok, block_head ok]
    dsimp only
    rw [ih d (m + 1) f R h'.2.2 hr' (by omega) hR]
    show some (⟨_, m + 1 + (linesOf r).length, _⟩ : Got) = some ⟨_, m + ((linesOf r).length + 1), _⟩
    rw [show m + 1 + (linesOf r).length = m + ((linesOf r).length + 1) by omega]
  | read m v r ih =>
    intro d n f R hs hr hf hR
    have h' : (isName v && areStatements r) = true := hs
    rw [Bool.and_eq_true] at h'
    obtain ⟨rfl, hr'⟩ := rows_read hr
    have hf' : (rowsAt d r).length + 1 + 1 ≤ f := hf
    obtain ⟨f, rfl⟩ : ∃ f', f = f' + 1 := ⟨f - 1, by omega⟩
    show blockOf (f + 1) d m (rowOf (indent d ++ (Head.read v).text) :: (rowsAt d r ++ R).map rowOf) = _
    rw [row_head (h := .read v) h'.1, block_head (h := .read v) h'.1]
    dsimp only
    rw [ih d (m + 1) f R h'.2 hr' (by omega) hR]
    show some (⟨_, m + 1 + (linesOf r).length, _⟩ : Got) = some ⟨_, m + ((linesOf r).length + 1), _⟩
    rw [show m + 1 + (linesOf r).length = m + ((linesOf r).length + 1) by omega]
  | write m a r ih =>
    intro d n f R hs hr hf hR
    have h' : (isAtom a && areStatements r) = true := hs
    rw [Bool.and_eq_true] at h'
    obtain ⟨rfl, hr'⟩ := rows_write hr
    have hf' : (rowsAt d r).length + 1 + 1 ≤ f := hf
    obtain ⟨f, rfl⟩ : ∃ f', f = f' + 1 := ⟨f - 1, by omega⟩
    show blockOf (f + 1) d m (rowOf (indent d ++ (Head.write a).text) :: (rowsAt d r ++ R).map rowOf) = _
    rw [row_head (h := .write a) h'.1, block_head (h := .write a) h'.1]
    dsimp only
    rw [ih d (m + 1) f R h'.2 hr' (by omega) hR]
    show some (⟨_, m + 1 + (linesOf r).length, _⟩ : Got) = some ⟨_, m + ((linesOf r).length + 1), _⟩
    rw [show m + 1 + (linesOf r).length = m + ((linesOf r).length + 1) by omega]
  | halt_ m r ih =>
    intro d n f R hs hr hf hR
    obtain ⟨rfl, hr'⟩ := rows_halt hr
    have hf' : (rowsAt d r).length + 1 + 1 ≤ f := hf
    obtain ⟨f, rfl⟩ : ∃ f', f = f' + 1 := ⟨f - 1, by omega⟩
    show blockOf (f + 1) d m (rowOf (indent d ++ Head.halt.text) :: (rowsAt d r ++ R).map rowOf) = _
    rw [row_head (h := .halt) rfl, block_head (h := .halt) rfl]
    dsimp only
    rw [ih d (m + 1) f R hs hr' (by omega) hR]
    show some (⟨_, m + 1 + (linesOf r).length, _⟩ : Got) = some ⟨_, m + ((linesOf r).length + 1), _⟩
    rw [show m + 1 + (linesOf r).length = m + ((linesOf r).length + 1) by omega]
  | ite m q a b r ia ib ir =>
    intro d n f R hs hr hf hR
    have h' : (isCond q && (!isDone a && (areStatements a && (areStatements b && areStatements r)))) = true := hs
    simp only [Bool.and_eq_true] at h'
    obtain ⟨sc, sa0, sa, sb, sr⟩ := h'
    obtain ⟨rfl, ra, rb, rr⟩ := rows_ite hr
    have hf' : (rowsAt (d + 1) a ++ ((if isDone b = true then [] else (indent d ++ elseText) :: rowsAt (d + 1) b) ++ rowsAt d r)).length + 1 + 1 ≤ f := hf
    rw [List.length_append, List.length_append] at hf'
    obtain ⟨f, rfl⟩ : ∃ f', f = f' + 1 := ⟨f - 1, by omega⟩
    have eR : rowsAt d (.ite m q a b r) ++ R = (indent d ++ (Head.ite q).text) :: (rowsAt (d + 1) a ++ ((if isDone b = true then [] else (indent d ++ elseText) :: rowsAt (d + 1) b) ++ (rowsAt d r ++ R))) := by
      show _ :: ((rowsAt (d + 1) a ++ ((if isDone b = true then [] else (indent d ++ elseText) :: rowsAt (d + 1) b) ++ rowsAt d r)) ++ R) = _
      simp only [List.append_assoc]
    rw [eR]
    show blockOf (f + 1) d m (rowOf (indent d ++ (Head.ite q).text) :: (rowsAt (d + 1) a ++ _).map rowOf) = _
    rw [row_head (h := .ite q) sc, block_head (h := .ite q) sc]
    dsimp only
    have stR := stop_app hR r sr
    have el : (linesOf (.ite m q a b r)).length = (linesOf a).length + (linesOf b).length + (linesOf r).length + 1 := by simp only [linesOf, List.length_cons, List.length_append]; omega
    have fr : f ≥ (rowsAt d r).length + 1 := by omega
    have fin := fun k (hk : k = m + 1 + (linesOf a).length + (linesOf b).length) => ir d k f R sr (by rw [hk]; exact rr) fr hR
    cases hb : isDone b with
    | true =>
      have eb : b = .done := by cases b <;> first | rfl | cases hb
      subst eb
      rw [if_pos rfl, List.nil_append, ia (d + 1) (m + 1) f (rowsAt d r ++ R) sa ra (by omega) stR]
      show ((match elseOf d ((rowsAt d r ++ R).map rowOf) with
          | some q => blockOf f (d + 1) (m + 1 + (linesOf a).length) q
          | none => some ⟨.done, m + 1 + (linesOf a).length, (rowsAt d r ++ R).map rowOf⟩).bind fun b => (blockOf f d b.next b.rest).map (withCode (.ite m q a b.code))) = _
      rw [no_else hR r sr]
      show ((blockOf f d (m + 1 + (linesOf a).length) ((rowsAt d r ++ R).map rowOf)).map (withCode (.ite m q a .done))) = _
      rw [fin _ (by simp [linesOf])]
      show some (⟨_, m + 1 + (linesOf a).length + (linesOf r).length, _⟩ : Got) = some ⟨_, _, _⟩
      rw [el]
      simp only [linesOf, List.length_nil]
      rw [show m + 1 + (linesOf a).length + (linesOf r).length = m + ((linesOf a).length + 0 + (linesOf r).length + 1) by omega]
    | false =>
      rw [hb, if_neg (by decide)] at hf'
      rw [if_neg (by decide)]
      have stE : Stop (d + 1) ((indent d ++ elseText) :: rowsAt (d + 1) b ++ (rowsAt d r ++ R)) := fun x X e => by
        rw [← (List.cons.inj e).1, else_form, blanks_indent d (by decide)]
        omega
      rw [List.length_cons] at hf'
      rw [ia (d + 1) (m + 1) f _ sa ra (by omega) stE]
      show ((match elseOf d (rowOf (indent d ++ elseText) :: (rowsAt (d + 1) b ++ (rowsAt d r ++ R)).map rowOf) with
          | some q => blockOf f (d + 1) (m + 1 + (linesOf a).length) q
          | none => some ⟨.done, m + 1 + (linesOf a).length, _⟩).bind fun b => (blockOf f d b.next b.rest).map (withCode (.ite m q a b.code))) = _
      have ee : elseOf d (rowOf (indent d ++ elseText) :: (rowsAt (d + 1) b ++ (rowsAt d r ++ R)).map rowOf) = some ((rowsAt (d + 1) b ++ (rowsAt d r ++ R)).map rowOf) := by
        rw [row_else]
        show (if d = d ∧ [ascii "else:"] = [ascii "else:"] then some _ else none) = _
        rw [if_pos ⟨rfl, rfl⟩]
      rw [ee]
      show ((blockOf f (d + 1) (m + 1 + (linesOf a).length) ((rowsAt (d + 1) b ++ (rowsAt d r ++ R)).map rowOf)).bind fun b => (blockOf f d b.next b.rest).map (withCode (.ite m q a b.code))) = _
      rw [ib (d + 1) _ f (rowsAt d r ++ R) sb rb (by omega) stR]
      show ((blockOf f d (m + 1 + (linesOf a).length + (linesOf b).length) ((rowsAt d r ++ R).map rowOf)).map (withCode (.ite m q a b))) = _
      rw [fin _ rfl]
      show some (⟨_, m + 1 + (linesOf a).length + (linesOf b).length + (linesOf r).length, _⟩ : Got) = some ⟨_, _, _⟩
      rw [el, show m + 1 + (linesOf a).length + (linesOf b).length + (linesOf r).length = m + ((linesOf a).length + (linesOf b).length + (linesOf r).length + 1) by omega]
  | loop m q b r ib ir =>
    intro d n f R hs hr hf hR
    have h' : (isCond q && (!isDone b && (areStatements b && areStatements r))) = true := hs
    simp only [Bool.and_eq_true] at h'
    obtain ⟨sc, sb0, sb, sr⟩ := h'
    obtain ⟨rfl, rb, rr⟩ := rows_loop hr
    have hf' : (rowsAt (d + 1) b ++ rowsAt d r).length + 1 + 1 ≤ f := hf
    rw [List.length_append] at hf'
    obtain ⟨f, rfl⟩ : ∃ f', f = f' + 1 := ⟨f - 1, by omega⟩
    have eR : rowsAt d (.loop m q b r) ++ R = (indent d ++ (Head.loop q).text) :: (rowsAt (d + 1) b ++ (rowsAt d r ++ R)) := by
      show _ :: ((rowsAt (d + 1) b ++ rowsAt d r) ++ R) = _
      simp only [List.append_assoc]
    rw [eR]
    show blockOf (f + 1) d m (rowOf (indent d ++ (Head.loop q).text) :: (rowsAt (d + 1) b ++ _).map rowOf) = _
    rw [row_head (h := .loop q) sc, block_head (h := .loop q) sc]
    dsimp only
    have stR := stop_app hR r sr
    have el : (linesOf (.loop m q b r)).length = (linesOf b).length + (linesOf r).length + 1 := by simp only [linesOf, List.length_cons, List.length_append]
    rw [ib (d + 1) (m + 1) f (rowsAt d r ++ R) sb rb (by omega) stR]
    show ((blockOf f d (m + 1 + (linesOf b).length) ((rowsAt d r ++ R).map rowOf)).map (withCode (.loop m q b))) = _
    rw [ir d _ f R sr rr (by omega) hR]
    show some (⟨_, m + 1 + (linesOf b).length + (linesOf r).length, _⟩ : Got) = some ⟨_, _, _⟩
    rw [el, show m + 1 + (linesOf b).length + (linesOf r).length = m + ((linesOf b).length + (linesOf r).length + 1) by omega]
theorem rows_ten : ∀ (c : Code) (d : Nat), areStatements c = true → ∀ r ∈ rowsAt d c, (10 : UInt8) ∉ r := by
  have one : ∀ (d : Nat) {h : Head}, h.ok = true → (10 : UInt8) ∉ indent d ++ h.text := fun d {h} ok z => by
    rcases List.mem_append.mp z with z | z
    · exact indent_ten _ z
    · exact text_ten ok z
  intro c
  induction c with
  | done => intro d _ r hr; cases hr
  | set n v e r ih =>
    intro d hs x hx
    have h' : (isName v && (isExpr e && areStatements r)) = true := hs
    rw [Bool.and_eq_true, Bool.and_eq_true] at h'
    rcases List.mem_cons.mp hx with rfl | hx
    · exact one d (h := .set v e) (by show (isName v && isExpr e) = true; rw [h'.1, h'.2.1]; rfl)
    · exact ih d h'.2.2 x hx
  | read n v r ih =>
    intro d hs x hx
    have h' : (isName v && areStatements r) = true := hs
    rw [Bool.and_eq_true] at h'
    rcases List.mem_cons.mp hx with rfl | hx
    · exact one d (h := .read v) h'.1
    · exact ih d h'.2 x hx
  | write n a r ih =>
    intro d hs x hx
    have h' : (isAtom a && areStatements r) = true := hs
    rw [Bool.and_eq_true] at h'
    rcases List.mem_cons.mp hx with rfl | hx
    · exact one d (h := .write a) h'.1
    · exact ih d h'.2 x hx
  | halt_ n r ih =>
    intro d hs x hx
    rcases List.mem_cons.mp hx with rfl | hx
    · exact one d (h := .halt) rfl
    · exact ih d hs x hx
  | ite n q a b r ia ib ir =>
    intro d hs x hx
    have h' : (isCond q && (!isDone a && (areStatements a && (areStatements b && areStatements r)))) = true := hs
    simp only [Bool.and_eq_true] at h'
    rcases List.mem_cons.mp hx with rfl | hx
    · exact one d (h := .ite q) h'.1
    · rcases List.mem_append.mp hx with hx | hx
      · exact ia _ h'.2.2.1 x hx
      · rcases List.mem_append.mp hx with hx | hx
        · split at hx
          · cases hx
          · rcases List.mem_cons.mp hx with rfl | hx
            · intro z
              rcases List.mem_append.mp z with z | z
              · exact indent_ten _ z
              · exact absurd z (by decide)
            · exact ib _ h'.2.2.2.1 x hx
        · exact ir _ h'.2.2.2.2 x hx
  | loop n q b r ib ir =>
    intro d hs x hx
    have h' : (isCond q && (!isDone b && (areStatements b && areStatements r))) = true := hs
    simp only [Bool.and_eq_true] at h'
    rcases List.mem_cons.mp hx with rfl | hx
    · exact one d (h := .loop q) h'.1
    · rcases List.mem_append.mp hx with hx | hx
      · exact ib _ h'.2.2.1 x hx
      · exact ir _ h'.2.2.2 x hx
/-- a program's text is read back by the specification -/
theorem program_back {c : Code} (h : isProgram c = true) : programOf (programText c) = some c ∧ readProgram (programText c) = some (flatOf c) := by
  have f := prog_facts h
  have ten := rows_ten c 0 f.1
  obtain ⟨q1, q2⟩ := rowsIn_unrows ten
  have et : programText c = unrows (rowsAt 0 c) := textAt_rows c 0
  constructor
  · unfold Vaslca.programOf
    rw [et, linesIn_eq, if_pos q2, q1]
    show (blockOf ((rowsAt 0 c).length + 1) 0 0 ((rowsAt 0 c).map rowOf)).bind _ = _
    have := block_rows c 0 0 ((rowsAt 0 c).length + 1) [] f.1 f.2.1 (Nat.le_refl _) (fun r R1 e => by cases e)
    rw [List.append_nil] at this
    rw [this]
    show (if ((([] : List Text).map rowOf).isEmpty && (isProgram c && programText c == unrows (rowsAt 0 c))) = true then some c else none) = _
    rw [h, et]
    simp
  · unfold readProgram
    rw [et, if_pos q2, q1]
    obtain ⟨st, e, R⟩ := takes_rows c 0 (-1) 0 RS.start f.1 (.inr (by have := f.2.2.2; omega)) f.2.1 (Nat.zero_le _) (fun z => by cases z) rfl
    rw [e]
    dsimp only
    have hp : st.prog = flatOf c := by rw [R.prog]; rfl
    have hw : st.waits = false := by
      cases hd : isDone c with
      | true => rw [R.done hd]; rfl
      | false => exact R.waits hd
    have hl := f.2.2.1
    rw [if_neg (by rw [hw, hp, flatOf_length]; rintro (z | z); (· cases z); (· omega)), hp]
end Ld
end
section
set_option Elab.async false
set_option maxHeartbeats 1000000
namespace Ld
open Vaslca (Text Code linesOf deepOf isProgram areStatements isExpr isAtom isCond isName isDone indent programOf programText linesIn)
/-! ### what the reader takes is a program's text -/
theorem take_some {st st1 : RS} {r : Text} (h : take st r = some st1) : blanks r / 2 ≤ st.path.length ∧ (st.waits = true → st.path.length ≤ blanks r / 2) ∧
    (r.drop (2 * (blanks r / 2)) = elseText → takeElse st (blanks r / 2) = some st1) ∧ (r.drop (2 * (blanks r / 2)) ≠ elseText → takeStmt st (blanks r / 2) (r.drop (2 * (blanks r / 2))) = some st1) := by
  unfold take at h
  split at h
  · cases h
  rename_i h1
  split at h
  · cases h
  rename_i h2
  refine ⟨by omega, fun w => ?_, ?_, ?_⟩
  · rcases Nat.lt_or_ge (blanks r / 2) st.path.length with z | z
    · exact absurd ⟨w, z⟩ h2
    · exact z
  · intro e; rw [if_pos e] at h; exact h
  · intro e; rw [if_neg e] at h; exact h
theorem stmt_some {st st1 : RS} {d : Nat} {t : Text} (h : takeStmt st d t = some st1) {p : Int} {s : Nat} (ha : around2 st d = some (p, s)) : ∃ hd : Head, t = hd.text ∧ hd.ok = true ∧ (hd.isHead = true → d < 3) ∧ st1 = ⟨st.prog ++ [⟨hd, p, s⟩], st.path.take d ++ (if hd.isHead = true then [(st.prog.length, 0)] else []), hd.isHead⟩ := by
  unfold takeStmt at h
  cases e : headOf t with
  | none => rw [e] at h; cases h
  | some hd =>
    rw [e] at h
    dsimp only at h
    split at h
    · cases h
    rename_i h1
    rw [ha] at h
    dsimp only at h
    have := headOf_text e
    refine ⟨hd, this.1, this.2, fun z => ?_, (Option.some.inj h).symm⟩
    rcases Nat.lt_or_ge d 3 with y | y
    · exact y
    · exact absurd ⟨z, y⟩ h1
theorem row_form {r : Text} {d : Nat} {hd : Head} (h1 : blanks r / 2 = d) (h2 : r.drop (2 * d) = hd.text) (ok : hd.ok = true) : r = indent d ++ hd.text := by
  obtain ⟨b, t, e, hb⟩ := first_small ok
  have bl : blanks r = 2 * d := by
    rcases Nat.lt_or_ge (2 * d) (blanks r) with z | z
    · exfalso
      -- the sign at 2 * d is a blank
      have lt : 2 * d < r.length := by
        have : blanks r ≤ r.length := by unfold blanks; exact (List.takeWhile_sublist _).length_le
        omega
      have g : r[2 * d]? = some b := by
        have : (r.drop (2 * d))[0]? = some b := by rw [h2, e]; rfl
        rw [List.getElem?_drop] at this
        exact this
      have g2 : (r.takeWhile fun b => b == 32)[2 * d]? = some b := by
        have pre : (r.takeWhile fun b => b == 32) ++ (r.dropWhile fun b => b == 32) = r := List.takeWhile_append_dropWhile
        rw [← pre, List.getElem?_append_left (show 2 * d < (r.takeWhile fun b => b == 32).length from z)] at g
        exact g
      have := List.mem_of_getElem? g2
      have all := List.all_takeWhile (l := r) (p := fun b => b == 32)
      have := List.all_eq_true.mp all b this
      exact hb (by simpa using this)
    · omega
  have pre : (r.takeWhile fun b => b == 32) ++ (r.dropWhile fun b => b == 32) = r := List.takeWhile_append_dropWhile
  have tw : (r.takeWhile fun b => b == 32) = indent d := by
    have len : (r.takeWhile fun b => b == 32).length = 2 * d := bl
    unfold Vaslca.indent
    rw [← len]
    refine List.eq_replicate_iff.mpr ⟨rfl, fun b hb => ?_⟩
    have all := List.all_takeWhile (l := r) (p := fun b => b == 32)
    simpa using List.all_eq_true.mp all b hb
  rw [tw] at pre
  have dl : r.drop (2 * d) = (r.dropWhile fun b => b == 32) := by
    conv => lhs; rw [← pre]
    exact drop_indent d _
  rw [← h2, dl, pre]
theorem else_row {r : Text} {d : Nat} (h1 : blanks r / 2 = d) (h2 : r.drop (2 * d) = elseText) : r = indent d ++ elseText := by
  have bl : blanks r = 2 * d := by
    rcases Nat.lt_or_ge (2 * d) (blanks r) with z | z
    · exfalso
      have g : r[2 * d]? = some 101 := by
        have : (r.drop (2 * d))[0]? = some 101 := by rw [h2]; decide
        rw [List.getElem?_drop] at this
        exact this
      have g2 : (r.takeWhile fun b => b == 32)[2 * d]? = some 101 := by
        have pre : (r.takeWhile fun b => b == 32) ++ (r.dropWhile fun b => b == 32) = r := List.takeWhile_append_dropWhile
        rw [← pre, List.getElem?_append_left (show 2 * d < (r.takeWhile fun b => b == 32).length from z)] at g
        exact g
      have := List.mem_of_getElem? g2
      have all := List.all_takeWhile (l := r) (p := fun b => b == 32)
      have := List.all_eq_true.mp all _ this
      exact absurd this (by decide)
    · omega
  have pre : (r.takeWhile fun b => b == 32) ++ (r.dropWhile fun b => b == 32) = r := List.takeWhile_append_dropWhile
  have tw : (r.takeWhile fun b => b == 32) = indent d := by
    have len : (r.takeWhile fun b => b == 32).length = 2 * d := bl
    unfold Vaslca.indent
    rw [← len]
    refine List.eq_replicate_iff.mpr ⟨rfl, fun b hb => ?_⟩
    have all := List.all_takeWhile (l := r) (p := fun b => b == 32)
    simpa using List.all_eq_true.mp all b hb
  rw [tw] at pre
  have dl : r.drop (2 * d) = (r.dropWhile fun b => b == 32) := by
    conv => lhs; rw [← pre]
    exact drop_indent d _
  rw [← h2, dl, pre]
theorem takes_cons {st fin : RS} {r : Text} {R : List Text} (h : takes st (r :: R) = some fin) : ∃ st1, take st r = some st1 ∧ takes st1 R = some fin := by
  have h' : (match take st r with
    | none => none
    | some st' => takes st' R) = some fin := h
  cases e : take st r with
  | none => rw [e] at h'; cases h'
  | some st1 => rw [e] at h'; exact ⟨st1, rfl, h'⟩
theorem takes_app {st st1 fin : RS} {a b : List Text} (h : takes st (a ++ b) = some fin) (h1 : takes st a = some st1) : takes st1 b = some fin := by
  rw [takes_append, h1] at h
  exact h
theorem parse : ∀ (N : Nat) (R : List Text) (st fin : RS) (d : Nat) (p : Int) (s : Nat), R.length ≤ N → takes st R = some fin → fin.waits = false → d ≤ st.path.length → (st.waits = true → st.path.length = d) → around2 st d = some (p, s) → d ≤ 3 →
    (∀ r R1, R = r :: R1 → blanks r / 2 ≤ d) → (∀ r R1, R = r :: R1 → blanks r / 2 = d → r.drop (2 * d) = elseText → takeElse st d = none) →
    ∃ (c : Code) (R' : List Text), R = rowsAt d c ++ R' ∧ areStatements c = true ∧ d + deepOf c ≤ 3 ∧ Rows st.prog.length c ∧ (st.waits = true → isDone c = false) ∧ Stop d R' := by
  intro N
  induction N with
  | zero =>
    intro R st fin d p s hN ht hf hd hw ha h3 hb he
    have : R = [] := List.length_eq_zero_iff.mp (by omega)
    subst this
    have e : st = fin := Option.some.inj ht
    exact ⟨.done, [], rfl, rfl, by simpa [deepOf] using h3, rfl, (fun z => by rw [e, hf] at z; cases z), fun r R1 e => by cases e⟩
  | succ N ih =>
    intro R st fin d p s hN ht hf hd hw ha h3 hb he
    cases R with
    | nil =>
      have e : st = fin := Option.some.inj ht
      exact ⟨.done, [], rfl, rfl, by simpa [deepOf] using h3, rfl, (fun z => by rw [e, hf] at z; cases z), fun r R1 e => by cases e⟩
    | cons r R1 =>
      obtain ⟨st1, t1, t2⟩ := takes_cons ht
      obtain ⟨k1, k2, k3, k4⟩ := take_some t1
      have hbr := hb r R1 rfl
      by_cases hlt : blanks r / 2 < d
      · refine ⟨.done, r :: R1, rfl, rfl, by simpa [deepOf] using h3, rfl, fun z => ?_, fun r' R' e => by rw [← (List.cons.inj e).1]; exact hlt⟩
        have := k2 z
        have := hw z
        omega
      have hdr : blanks r / 2 = d := by omega
      rw [hdr] at k1 k2 k3 k4
      have hne : r.drop (2 * d) ≠ elseText := fun e => by
        have := k3 e
        rw [he r R1 rfl hdr e] at this
        cases this
      obtain ⟨hd', e1, ok, lt3, rfl⟩ := stmt_some (k4 hne) ha
      have er := row_form hdr e1 ok
      have hl : (st.path.take d).length = d := by simp [hd]
      have hN1 : R1.length ≤ N := by rw [List.length_cons] at hN; omega
      have tk : ∀ x : List (Nat × Nat), (st.path.take d ++ x).take d = st.path.take d := fun x => by
        rw [List.take_append_of_le_length (by omega), List.take_take, Nat.min_self]
      -- a statement without a block
      have simple : hd'.isHead = false → ∃ (c : Code) (R' : List Text), R1 = rowsAt d c ++ R' ∧ areStatements c = true ∧ d + deepOf c ≤ 3 ∧ Rows (st.prog.length + 1) c ∧ Stop d R' := fun hh => by
        rw [hh, if_neg (by decide), List.append_nil] at t2
        have pl : (st.path.take d).length = d := hl
        obtain ⟨c, R', g1, g2, g3, g4, _, g6⟩ := ih R1 ⟨st.prog ++ [⟨hd', p, s⟩], st.path.take d, false⟩ fin d p s hN1 t2 hf (by show d ≤ (st.path.take d).length; omega) (fun z => by cases z)
          (by rw [← ha]; exact around2_congr (by show (st.path.take d).take d = _; rw [List.take_take, Nat.min_self])) h3
          (fun r' R2 e => by
            subst e
            obtain ⟨st2, q1, _⟩ := takes_cons t2
            have := (take_some q1).1
            have pl' : (⟨st.prog ++ [⟨hd', p, s⟩], st.path.take d, false⟩ : RS).path.length = d := pl
            omega)
          (fun r' R2 _ _ _ => by
            unfold takeElse
            show (match (st.path.take d)[d]? with
              | none => none
              | some (h, s) => _) = none
            rw [List.getElem?_eq_none (by omega)])
        refine ⟨c, R', g1, g2, g3, ?_, g6⟩
        have : (⟨st.prog ++ [⟨hd', p, s⟩], st.path.take d, false⟩ : RS).prog.length = st.prog.length + 1 := by show (st.prog ++ [_]).length = _; simp
        rw [this] at g4
        exact g4
      have el : ∀ {l : List Nat}, l = List.range' (st.prog.length + 1) l.length → st.prog.length :: l = List.range' st.prog.length (st.prog.length :: l).length := fun h => mk_cons h
      cases hd' with
      | set v e =>
        obtain ⟨c, R', g1, g2, g3, g4, g6⟩ := simple rfl
        have ok' : (isName v && isExpr e) = true := ok
        rw [Bool.and_eq_true] at ok'
        refine ⟨.set st.prog.length v e c, R', by rw [er, g1]; rfl, ?_, g3, el g4, fun _ => rfl, g6⟩
        show (isName v && (isExpr e && areStatements c)) = true
        rw [ok'.1, ok'.2, g2]; rfl
      | read v =>
        obtain ⟨c, R', g1, g2, g3, g4, g6⟩ := simple rfl
        refine ⟨.read st.prog.length v c, R', by rw [er, g1]; rfl, ?_, g3, el g4, fun _ => rfl, g6⟩
        show (isName v && areStatements c) = true
        rw [show isName v = true from ok, g2]; rfl
      | write a =>
        obtain ⟨c, R', g1, g2, g3, g4, g6⟩ := simple rfl
        refine ⟨.write st.prog.length a c, R', by rw [er, g1]; rfl, ?_, g3, el g4, fun _ => rfl, g6⟩
        show (isAtom a && areStatements c) = true
        rw [show isAtom a = true from ok, g2]; rfl
      | halt =>
        obtain ⟨c, R', g1, g2, g3, g4, g6⟩ := simple rfl
        exact ⟨.halt_ st.prog.length c, R', by rw [er, g1]; rfl, g2, g3, el g4, fun _ => rfl, g6⟩
      | ite q =>
        have hd3 : d < 3 := lt3 rfl
        let st1 : RS := ⟨st.prog ++ [⟨.ite q, p, s⟩], st.path.take d ++ [(st.prog.length, 0)], true⟩
        have t2' : takes st1 R1 = some fin := t2
        have l1 : st1.path.length = d + 1 := by show (st.path.take d ++ [_]).length = _; rw [List.length_append, hl]; rfl
        have g1 : st1.path[d]? = some (st.prog.length, 0) := by show (st.path.take d ++ [_])[d]? = _; rw [List.getElem?_append_right (by omega)]; simp [hl]
        have ar1 : around2 st1 (d + 1) = some ((st.prog.length : Int), 0) := by unfold around2; rw [if_neg (by omega), Nat.add_sub_cancel, g1]; rfl
        have n1 : st1.prog.length = st.prog.length + 1 := by show (st.prog ++ [_]).length = _; simp
        obtain ⟨a, Ra, a1, a2, a3, a4, a5, a6⟩ := ih R1 st1 fin (d + 1) _ 0 hN1 t2' hf (by omega) (fun _ => l1) ar1 (by omega)
          (fun r' R2 e => by
            subst e
            obtain ⟨st2, q1, _⟩ := takes_cons t2'
            have := (take_some q1).1
            omega)
          (fun r' R2 _ _ _ => by
            unfold takeElse
            rw [List.getElem?_eq_none (by omega)])
        have da := a5 rfl
        rw [n1] at a4
        obtain ⟨st2, e2, R2⟩ := takes_rows a (d + 1) (st.prog.length : Int) 0 st1 a2 (.inr a3) (by rw [n1]; exact a4) (by omega) (fun _ => l1) ar1
        rw [a1] at t2'
        have t3 := takes_app t2' e2
        have w2 := R2.waits da
        have p2 : st2.path.take d = st.path.take d := by
          have := congrArg (List.take d) R2.path
          rw [List.take_take, List.take_take] at this
          rw [show min d (d + 1) = d by omega] at this
          rw [this]
          exact tk _
        have g2 : st2.path[d]? = some (st.prog.length, 0) := by rw [take_eq_get R2.path (by omega), g1]
        have pr2 : st2.prog = st.prog ++ (⟨.ite q, p, s⟩ :: flat st.prog.length 0 a) := by rw [R2.prog]; show (st.prog ++ [_]) ++ _ = _; simp
        have n2 : st2.prog.length = st.prog.length + 1 + (linesOf a).length := by rw [pr2]; simp [flat_length]; omega
        have l2 := R2.len
        have lenRa : Ra.length ≤ N := by rw [a1, List.length_append] at hN1; omega
        -- put together
        have fin1 : ∀ (b r' : Code) (R' : List Text), areStatements b = true → d + 1 + deepOf b ≤ 3 → Rows (st.prog.length + 1 + (linesOf a).length) b → areStatements r' = true → d + deepOf r' ≤ 3 → Rows (st.prog.length + 1 + (linesOf a).length + (linesOf b).length) r' →
            Ra = (if isDone b = true then [] else (indent d ++ elseText) :: rowsAt (d + 1) b) ++ (rowsAt d r' ++ R') → Stop d R' →
            ∃ (c : Code) (R' : List Text), r :: R1 = rowsAt d c ++ R' ∧ areStatements c = true ∧ d + deepOf c ≤ 3 ∧ Rows st.prog.length c ∧ (st.waits = true → isDone c = false) ∧ Stop d R' := by
          intro b r' R' b1 b2 b3 c1 c2 c3 eq hS
          refine ⟨.ite st.prog.length q a b r', R', ?_, ?_, ?_, ?_, fun _ => rfl, hS⟩
          · rw [er, a1, eq]
            show _ = _ :: ((rowsAt (d + 1) a ++ ((if isDone b = true then [] else (indent d ++ elseText) :: rowsAt (d + 1) b) ++ rowsAt d r')) ++ R')
            simp only [List.append_assoc]
          · show (isCond q && (!isDone a && (areStatements a && (areStatements b && areStatements r')))) = true
            rw [show isCond q = true from ok, da, a2, b1, c1]; rfl
          · show d + max (max (deepOf a) (deepOf b) + 1) (deepOf r') ≤ 3
            omega
          · exact mk_cons (mk_app a4 (mk_app b3 c3))
        by_cases hel : ∃ r0 R0, Ra = r0 :: R0 ∧ blanks r0 / 2 = d ∧ r0.drop (2 * d) = elseText
        · obtain ⟨r0, R0, rfl, h1, h2⟩ := hel
          obtain ⟨st3', q1, t4⟩ := takes_cons t3
          have q2 := (take_some q1).2.2.1
          rw [h1] at q2
          have q3 := q2 h2
          let st3 : RS := { st2 with path := st2.path.take d ++ [(st.prog.length, 1)], waits := true }
          have e3 : takeElse st2 d = some st3 := by
            unfold takeElse
            rw [g2]
            dsimp only
            have : st2.prog[st.prog.length]? = some ⟨.ite q, p, s⟩ := by rw [pr2, List.getElem?_append_right (Nat.le_refl _)]; simp
            rw [this]
            rfl
          rw [e3] at q3
          have es := Option.some.inj q3
          rw [← es] at t4
          have hl3 : (st2.path.take d).length = d := by rw [p2]; exact hl
          have l3 : st3.path.length = d + 1 := by show (st2.path.take d ++ [_]).length = _; rw [List.length_append, hl3]; rfl
          have g3 : st3.path[d]? = some (st.prog.length, 1) := by show (st2.path.take d ++ [_])[d]? = _; rw [List.getElem?_append_right (by omega)]; simp [hl3]
          have ar3 : around2 st3 (d + 1) = some ((st.prog.length : Int), 1) := by unfold around2; rw [if_neg (by omega), Nat.add_sub_cancel, g3]; rfl
          have n3 : st3.prog.length = st.prog.length + 1 + (linesOf a).length := n2
          have lenR0 : R0.length ≤ N := by rw [List.length_cons] at lenRa; omega
          obtain ⟨b, Rb, b1, b2, b3, b4, b5, b6⟩ := ih R0 st3 fin (d + 1) _ 1 lenR0 t4 hf (by omega) (fun _ => l3) ar3 (by omega)
            (fun r' R2 e => by
              subst e
              obtain ⟨st5, q1, _⟩ := takes_cons t4
              have := (take_some q1).1
              omega)
            (fun r' R2 _ _ _ => by
              unfold takeElse
              rw [List.getElem?_eq_none (by omega)])
          have db := b5 rfl
          rw [n3] at b4
          obtain ⟨st4, e4, R4⟩ := takes_rows b (d + 1) (st.prog.length : Int) 1 st3 b2 (.inr b3) (by rw [n3]; exact b4) (by omega) (fun _ => l3) ar3
          rw [b1] at t4
          have t5 := takes_app t4 e4
          have w4 := R4.waits db
          have p4 : st4.path.take d = st.path.take d := by
            have := congrArg (List.take d) R4.path
            rw [List.take_take, List.take_take] at this
            rw [show min d (d + 1) = d by omega] at this
            rw [this]
            show (st2.path.take d ++ [_]).take d = _
            rw [List.take_append_of_le_length (by omega), List.take_take, Nat.min_self, p2]
          have g4 : st4.path[d]? = some (st.prog.length, 1) := by rw [take_eq_get R4.path (by omega), g3]
          have pr4 := R4.prog
          have n4 : st4.prog.length = st.prog.length + 1 + (linesOf a).length + (linesOf b).length := by rw [pr4, List.length_append, flat_length]; show st2.prog.length + _ = _; rw [n2]
          have l4 := R4.len
          have lenRb : Rb.length ≤ N := by rw [b1, List.length_append] at lenR0; omega
          obtain ⟨r', R', c1, c2, c3, c4, _, c6⟩ := ih Rb st4 fin d p s lenRb t5 hf (by omega) (fun z => by rw [w4] at z; cases z) (by rw [← ha]; exact around2_congr p4) h3
            (fun x X e => by have := b6 x X e; omega)
            (fun x X _ _ _ => by
              unfold takeElse
              rw [g4]
              dsimp only
              cases st4.prog[st.prog.length]? with
              | none => rfl
              | some l =>
                obtain ⟨hh, pp, ss⟩ := l
                cases hh <;> rfl)
          rw [n4] at c4
          refine fin1 b r' R' b2 b3 b4 c2 c3 c4 ?_ c6
          rw [if_neg (by rw [db]; decide), else_row h1 h2, b1, c1]
          rfl
        · obtain ⟨r', R', c1, c2, c3, c4, _, c6⟩ := ih Ra st2 fin d p s lenRa t3 hf (by omega) (fun z => by rw [w2] at z; cases z) (by rw [← ha]; exact around2_congr p2) h3
            (fun x X e => by have := a6 x X e; omega)
            (fun x X e y z => absurd ⟨x, X, e, y, z⟩ hel)
          rw [n2] at c4
          refine fin1 .done r' R' rfl (by simp [deepOf]; omega) rfl c2 c3 (by simpa [linesOf] using c4) ?_ c6
          rw [if_pos (show isDone Code.done = true from rfl), c1]
          rfl
      | loop q =>
        have hd3 : d < 3 := lt3 rfl
        let st1 : RS := ⟨st.prog ++ [⟨.loop q, p, s⟩], st.path.take d ++ [(st.prog.length, 0)], true⟩
        have t2' : takes st1 R1 = some fin := t2
        have l1 : st1.path.length = d + 1 := by show (st.path.take d ++ [_]).length = _; rw [List.length_append, hl]; rfl
        have g1 : st1.path[d]? = some (st.prog.length, 0) := by show (st.path.take d ++ [_])[d]? = _; rw [List.getElem?_append_right (by omega)]; simp [hl]
        have ar1 : around2 st1 (d + 1) = some ((st.prog.length : Int), 0) := by unfold around2; rw [if_neg (by omega), Nat.add_sub_cancel, g1]; rfl
        have n1 : st1.prog.length = st.prog.length + 1 := by show (st.prog ++ [_]).length = _; simp
        obtain ⟨a, Ra, a1, a2, a3, a4, a5, a6⟩ := ih R1 st1 fin (d + 1) _ 0 hN1 t2' hf (by omega) (fun _ => l1) ar1 (by omega)
          (fun r' R2 e => by
            subst e
            obtain ⟨st2, q1, _⟩ := takes_cons t2'
            have := (take_some q1).1
            omega)
          (fun r' R2 _ _ _ => by
            unfold takeElse
            rw [List.getElem?_eq_none (by omega)])
        have da := a5 rfl
        rw [n1] at a4
        obtain ⟨st2, e2, R2⟩ := takes_rows a (d + 1) (st.prog.length : Int) 0 st1 a2 (.inr a3) (by rw [n1]; exact a4) (by omega) (fun _ => l1) ar1
        rw [a1] at t2'
        have t3 := takes_app t2' e2
        have w2 := R2.waits da
        have p2 : st2.path.take d = st.path.take d := by
          have := congrArg (List.take d) R2.path
          rw [List.take_take, List.take_take] at this
          rw [show min d (d + 1) = d by omega] at this
          rw [this]
          exact tk _
        have g2 : st2.path[d]? = some (st.prog.length, 0) := by rw [take_eq_get R2.path (by omega), g1]
        have pr2 : st2.prog = st.prog ++ (⟨.loop q, p, s⟩ :: flat st.prog.length 0 a) := by rw [R2.prog]; show (st.prog ++ [_]) ++ _ = _; simp
        have n2 : st2.prog.length = st.prog.length + 1 + (linesOf a).length := by rw [pr2]; simp [flat_length]; omega
        have l2 := R2.len
        have lenRa : Ra.length ≤ N := by rw [a1, List.length_append] at hN1; omega
        obtain ⟨r', R', c1, c2, c3, c4, _, c6⟩ := ih Ra st2 fin d p s lenRa t3 hf (by omega) (fun z => by rw [w2] at z; cases z) (by rw [← ha]; exact around2_congr p2) h3
          (fun x X e => by have := a6 x X e; omega)
          (fun x X _ _ _ => by
            unfold takeElse
            rw [g2]
            dsimp only
            have : st2.prog[st.prog.length]? = some ⟨.loop q, p, s⟩ := by rw [pr2, List.getElem?_append_right (Nat.le_refl _)]; simp
            rw [this])
        rw [n2] at c4
        refine ⟨.loop st.prog.length q a r', R', ?_, ?_, ?_, ?_, fun _ => rfl, c6⟩
        · rw [er, a1, c1]
          show _ = _ :: ((rowsAt (d + 1) a ++ rowsAt d r') ++ R')
          simp only [List.append_assoc]
        · show (isCond q && (!isDone a && (areStatements a && areStatements r'))) = true
          rw [show isCond q = true from ok, da, a2, c2]; rfl
        · show d + max (deepOf a + 1) (deepOf r') ≤ 3
          omega
        · exact mk_cons (mk_app a4 c4)
theorem read_sound {t : Text} {P : List PL} (h : readProgram t = some P) : ∃ c, isProgram c = true ∧ programText c = t ∧ P = flatOf c := by
  unfold readProgram at h
  split at h
  · rename_i ew
    cases e : takes RS.start (rowsIn t) with
    | none => rw [e] at h; cases h
    | some fin =>
      rw [e] at h
      dsimp only at h
      split at h
      · cases h
      rename_i hz
      have hw : fin.waits = false := by
        cases z : fin.waits with
        | false => rfl
        | true => exact absurd (.inl z) hz
      have hl : fin.prog.length ≤ 14 := by
        rcases Nat.lt_or_ge 14 fin.prog.length with z | z
        · exact absurd (.inr z) hz
        · exact z
      obtain ⟨c, R', g1, g2, g3, g4, _, g6⟩ := parse (rowsIn t).length (rowsIn t) RS.start fin 0 (-1) 0 (Nat.le_refl _) e hw (Nat.zero_le _) (fun z => by cases z) rfl (by decide)
        (fun r R1 er => by
          rw [er] at e
          obtain ⟨st1, q1, _⟩ := takes_cons e
          have := (take_some q1).1
          have l0 : RS.start.path.length = 0 := rfl
          omega)
        (fun r R1 _ _ _ => rfl)
      have hR : R' = [] := by
        cases R' with
        | nil => rfl
        | cons x X => exact absurd (g6 x X rfl) (Nat.not_lt_zero _)
      rw [hR, List.append_nil] at g1
      obtain ⟨st, e2, R⟩ := takes_rows c 0 (-1) 0 RS.start g2 (.inr g3) g4 (Nat.zero_le _) (fun z => by cases z) rfl
      rw [← g1, e] at e2
      have es := Option.some.inj e2
      have hp : fin.prog = flatOf c := by rw [es, R.prog]; rfl
      have hpc : isProgram c = true := by
        have g4' : linesOf c = List.range (linesOf c).length := by rw [List.range_eq_range']; exact g4
        have hlen : (linesOf c).length ≤ 14 := by rw [← flatOf_length, ← hp]; exact hl
        have hdp : deepOf c ≤ 3 := by omega
        show (areStatements c && (linesOf c == List.range (linesOf c).length && (decide ((linesOf c).length ≤ 14) && decide (deepOf c ≤ 3)))) = true
        rw [g2, ← g4', decide_eq_true hlen, decide_eq_true hdp]
        simp
      refine ⟨c, hpc, ?_, ?_⟩
      · show Vaslca.textAt 0 c = t
        rw [textAt_rows, ← g1]
        exact unrows_rowsIn ew
      · rw [← hp]
        exact (Option.some.inj h).symm
  · cases h
/-- the reader is the specification's -/
theorem read_eq (t : Text) : readProgram t = (programOf t).map flatOf := by
  cases e : readProgram t with
  | some P =>
    obtain ⟨c, h1, h2, h3⟩ := read_sound e
    rw [← h2, (program_back h1).1, h3]
    rfl
  | none =>
    cases e2 : programOf t with
    | none => rfl
    | some c =>
      exfalso
      unfold Vaslca.programOf at e2
      cases e3 : linesIn t with
      | none => rw [e3] at e2; cases e2
      | some ls =>
        rw [e3] at e2
        cases e4 : Vaslca.blockOf (ls.length + 1) 0 0 (ls.map Vaslca.rowOf) with
        | none =>
          have e2' : ((Vaslca.blockOf (ls.length + 1) 0 0 (ls.map Vaslca.rowOf)).bind fun g => if (g.rest.isEmpty && (isProgram g.code && programText g.code == t)) = true then some g.code else none) = some c := e2
          rw [e4] at e2'
          cases e2'
        | some g =>
          have e2' : ((Vaslca.blockOf (ls.length + 1) 0 0 (ls.map Vaslca.rowOf)).bind fun g => if (g.rest.isEmpty && (isProgram g.code && programText g.code == t)) = true then some g.code else none) = some c := e2
          rw [e4] at e2'
          have e5 : (if (g.rest.isEmpty && (isProgram g.code && programText g.code == t)) = true then some g.code else none) = some c := e2'
          split at e5
          · rename_i z
            simp only [Bool.and_eq_true, beq_iff_eq] at z
            have := (program_back z.2.1).2
            rw [z.2.2, e] at this
            cases this
          · cases e5
theorem program_ok {t : Text} {c : Code} (h : programOf t = some c) : isProgram c = true := by
  have e := read_eq t
  rw [h] at e
  obtain ⟨c', h1, h2, h3⟩ := read_sound (show readProgram t = some (flatOf c) from e)
  have := (program_back h1).1
  rw [h2, h] at this
  rw [Option.some.inj this]
  exact h1
end Ld
end
section
set_option Elab.async false
set_option maxHeartbeats 1000000
namespace Ld
open Vaslca (Text Code linesOf isProgram programOf runOf only programText toldNats toldText statusNumber valuesAt ends keptOf decimal ascii inputOf)
open Vaslcf (State Wish Call Answer does byOne leastOf joined isEnough shown stepOf stepsFor explained saidText toldTexts wantsOf meets headText endingInputs)
structure StOk (s : State) : Prop where
  prog : isProgram s.code = true
  inp : ∀ i ∈ s.wish.inputs, ∀ v ∈ i, v ≤ 999
  len : s.wish.inputs.length ≤ 4
  pl : s.wish.places.length ≤ 3
theorem desk_ok {s : State} (h : StOk s) : DeskOk (flatOf s.code) s.code s.wish := by
  refine ⟨good h.prog, ⟨h.inp, h.len, h.pl⟩, fun l hl => ?_, fun h10 k => ?_, fun _ w' => least_ne h.prog w', fun d st hst => ?_⟩
  · have := head_len (heads_ok h.prog l hl); omega
  · rw [flatOf_length] at h10; exact ch_ok h.prog h10 k
  · rw [flatOf_length]; exact run_lines h.prog d st hst
/-- what a call makes of the state, and answers -/
def Fits (s : State) (c : List (List Int)) : Prop := resCall (flatOf s.code) (arOf s.code) s.code s.wish c = (flatOf (VaslcfNeutral.step s c).1.code, (VaslcfNeutral.step s c).1.wish, (VaslcfNeutral.step s c).2) ∧ StOk (VaslcfNeutral.step s c).1
theorem fit_of {s : State} {c : List (List Int)} {k : Call} (hc : VaslcfNeutral.callOf c = some k) {x : Except Nat (State × List Nat)} (hd : does s k = x) (h : StOk s)
    (h1 : ∀ y, x = .ok y → resCall (flatOf s.code) (arOf s.code) s.code s.wish c = (flatOf y.1.code, y.1.wish, natI y.2) ∧ StOk y.1)
    (h2 : ∀ n, x = .error n → resCall (flatOf s.code) (arOf s.code) s.code s.wish c = (flatOf s.code, s.wish, [-(n : Int)])) : Fits s c := by
  have e : VaslcfNeutral.step s c = ((Vaslcf.step s k).1, VaslcfNeutral.encode (Vaslcf.step s k).2) := by unfold VaslcfNeutral.step; rw [hc]
  unfold Fits
  rw [e]
  cases x with
  | ok y =>
    have e2 : Vaslcf.step s k = (y.1, .told y.2) := by unfold Vaslcf.step; rw [hd]
    rw [e2]
    obtain ⟨g1, g2⟩ := h1 y rfl
    exact ⟨g1, g2⟩
  | error n =>
    have e2 : Vaslcf.step s k = (s, .refused n) := by unfold Vaslcf.step; rw [hd]
    rw [e2]
    exact ⟨h2 n rfl, h⟩
theorem fit_tell {s : State} {c : List (List Int)} {k : Call} (hc : VaslcfNeutral.callOf c = some k) (h : StOk s) {l : List Nat} (hd : does s k = .ok (s, l)) (h1 : resCall (flatOf s.code) (arOf s.code) s.code s.wish c = (flatOf s.code, s.wish, natI l)) : Fits s c :=
  fit_of hc hd h (fun y e => by cases e; exact ⟨h1, h⟩) (fun n e => by cases e)
theorem fit_ref {s : State} {c : List (List Int)} {k : Call} (hc : VaslcfNeutral.callOf c = some k) (h : StOk s) {n : Nat} (hd : does s k = .error n) (h1 : resCall (flatOf s.code) (arOf s.code) s.code s.wish c = (flatOf s.code, s.wish, [-(n : Int)])) : Fits s c :=
  fit_of hc hd h (fun y e => by cases e) (fun m e => by cases e; exact h1)
theorem fit_program {s : State} (h : StOk s) {r : List Int} (hb : ∀ z ∈ r, 0 ≤ z ∧ z ≤ 255) : Fits s [[0], r] := by
  have ht : VaslcfNeutral.text? r = some (bytesOf r) := by
    unfold VaslcfNeutral.text?
    rw [if_pos]
    · rfl
    · unfold NeutralIO.bytes
      rw [List.all_eq_true]
      intro z hz
      have := hb z hz
      simp
      omega
  have hc : VaslcfNeutral.callOf [[0], r] = some (.program (bytesOf r)) := by
    show (VaslcfNeutral.text? r).map Call.program = _
    rw [ht]
    rfl
  have e0 : resCall (flatOf s.code) (arOf s.code) s.code s.wish [[0], r] = resProgram (bytesOf r) (flatOf s.code) s.wish := rfl
  have hr := read_eq (bytesOf r)
  cases e : programOf (bytesOf r) with
  | none =>
    rw [e] at hr
    refine fit_ref hc h (n := 1) (by show Vaslcf.given (programOf (bytesOf r)) 1 _ = _; rw [e]; rfl) ?_
    rw [e0]
    unfold resProgram
    rw [hr]
    rfl
  | some c =>
    rw [e] at hr
    refine fit_of hc (x := .ok ({ s with code := c, wish := { s.wish with places := [] } }, [(linesOf c).length])) (by show Vaslcf.given (programOf (bytesOf r)) 1 _ = _; rw [e]; rfl) h (fun y ey => ?_) (fun n ey => by cases ey)
    cases ey
    refine ⟨?_, ⟨program_ok e, h.inp, h.len, Nat.zero_le _⟩⟩
    rw [e0]
    unfold resProgram
    rw [hr]
    show (flatOf c, _, [((flatOf c).length : Int)]) = _
    rw [flatOf_length]
    rfl
end Ld
end
section
set_option Elab.async false
set_option maxHeartbeats 1000000
namespace Ld
open Vaslca (Text Code linesOf isProgram programOf runOf only programText toldNats toldText statusNumber valuesAt ends keptOf decimal ascii inputOf)
open Vaslcf (State Wish Call Answer does byOne leastOf joined isEnough shown stepOf stepsFor explained saidText toldTexts wantsOf meets headText endingInputs onLine onInput onStep given)
theorem fit_given {s : State} (h : StOk s) (r : List Int) : Fits s [[1], r] := by
  have hc : VaslcfNeutral.callOf [[1], r] = some (.input r) := rfl
  have e0 : resCall (flatOf s.code) (arOf s.code) s.code s.wish [[1], r] = resGiven r (flatOf s.code) s.wish := rfl
  have cond : (r.length ≤ Vaslca.INPUT ∧ r.all (fun z => decide (0 ≤ z) && decide (z < (Vaslca.MOD : Int))) = true) ↔ (r.length ≤ 6 ∧ r.all okVal = true) := by
    have : (fun z : Int => decide (0 ≤ z) && decide (z < (Vaslca.MOD : Int))) = okVal := by
      funext z
      unfold okVal
      have : decide (z < (Vaslca.MOD : Int)) = decide (z ≤ 999) := decide_eq_decide.mpr (by show z < (1000 : Int) ↔ _; omega)
      rw [this]
    rw [this]
    rfl
  have ei : inputOf r = if r.length ≤ 6 ∧ r.all okVal = true then some (r.map Int.toNat) else none := by
    unfold Vaslca.inputOf
    by_cases z : r.length ≤ 6 ∧ r.all okVal = true
    · rw [if_pos z, if_pos (cond.mpr z)]
    · rw [if_neg z, if_neg fun y => z (cond.mp y)]
  by_cases z : r.length ≤ 6 ∧ r.all okVal = true
  · rw [if_pos z] at ei
    by_cases y : 4 ≤ s.wish.inputs.length
    · refine fit_ref hc h (n := 6) ?_ ?_
      · show given (inputOf r) 2 _ = _
        rw [ei]
        show (if 4 ≤ s.wish.inputs.length then _ else _) = _
        rw [if_pos y]
      · rw [e0]
        unfold resGiven
        rw [if_pos z, if_pos y]
        rfl
    · refine fit_of hc (x := .ok ({ s with wish := { s.wish with inputs := s.wish.inputs ++ [r.map Int.toNat] } }, [s.wish.inputs.length + 1])) ?_ h (fun q e => ?_) (fun n e => by cases e)
      · show given (inputOf r) 2 _ = _
        rw [ei]
        show (if 4 ≤ s.wish.inputs.length then _ else _) = _
        rw [if_neg y]
      · cases e
        refine ⟨?_, ⟨h.prog, fun i hi v hv => ?_, by simp; omega, h.pl⟩⟩
        · rw [e0]
          unfold resGiven
          rw [if_pos z, if_neg y]
          rfl
        · rcases List.mem_append.mp hi with w | w
          · exact h.inp i w v hv
          · rw [List.mem_singleton.mp w] at hv
            obtain ⟨x, hx, rfl⟩ := List.mem_map.mp hv
            have := List.all_eq_true.mp z.2 x hx
            unfold okVal at this
            rw [Bool.and_eq_true, decide_eq_true_eq, decide_eq_true_eq] at this
            omega
  · rw [if_neg z] at ei
    refine fit_ref hc h (n := 2) ?_ ?_
    · show given (inputOf r) 2 _ = _
      rw [ei]
      rfl
    · rw [e0]
      unfold resGiven
      rw [if_neg z]
      rfl
theorem has_line {s : State} (n : Int) : hasLine (flatOf s.code) n = true ↔ ¬ (n < 0 ∨ ((linesOf s.code).length : Int) ≤ n) := by
  unfold hasLine
  rw [flatOf_length, Bool.and_eq_true, decide_eq_true_eq, decide_eq_true_eq]
  omega
theorem does_place (s : State) (n : Int) : does s (.place n) = if n < 0 ∨ ((linesOf s.code).length : Int) ≤ n then .error 3 else if s.wish.places.contains n.toNat = true then .error 5 else if 3 ≤ s.wish.places.length then .error 6 else .ok ({ s with wish := { s.wish with places := s.wish.places ++ [n.toNat] } }, [s.wish.places.length + 1]) := rfl
theorem fit_place {s : State} (h : StOk s) (n : Int) : Fits s [[2, n]] := by
  have hc : VaslcfNeutral.callOf [[2, n]] = some (.place n) := rfl
  have e0 : resCall (flatOf s.code) (arOf s.code) s.code s.wish [[2, n]] = resPlace n (flatOf s.code) s.wish := rfl
  by_cases z : hasLine (flatOf s.code) n = true
  · have z' := (has_line n).mp z
    by_cases y : s.wish.places.contains n.toNat = true
    · refine fit_ref hc h (n := 5) ?_ ?_
      · rw [does_place, if_neg z', if_pos y]
      · rw [e0]
        unfold resPlace
        rw [if_pos z, if_pos y]
        rfl
    · by_cases x : 3 ≤ s.wish.places.length
      · refine fit_ref hc h (n := 6) ?_ ?_
        · rw [does_place, if_neg z', if_neg y, if_pos x]
        · rw [e0]
          unfold resPlace
          rw [if_pos z, if_neg y, if_pos x]
          rfl
      · refine fit_of hc (x := .ok ({ s with wish := { s.wish with places := s.wish.places ++ [n.toNat] } }, [s.wish.places.length + 1])) ?_ h (fun q e => ?_) (fun n e => by cases e)
        · rw [does_place, if_neg z', if_neg y, if_neg x]
        · cases e
          refine ⟨?_, ⟨h.prog, h.inp, h.len, by simp; omega⟩⟩
          rw [e0]
          unfold resPlace
          rw [if_pos z, if_neg y, if_neg x]
          rfl
  · refine fit_ref hc h (n := 3) ?_ ?_
    · rw [does_place, if_pos (Classical.byContradiction fun y => z ((has_line n).mpr y))]
    · rw [e0]
      unfold resPlace
      rw [if_neg z]
      rfl
theorem fit_clear {s : State} (h : StOk s) : Fits s [[3]] := by
  refine fit_of (k := .clear) rfl (x := .ok ({ s with wish := ⟨[], []⟩ }, [s.wish.inputs.length, s.wish.places.length])) rfl h (fun q e => ?_) (fun n e => by cases e)
  cases e
  exact ⟨rfl, ⟨h.prog, (fun i hi => by cases hi), Nat.zero_le _, Nat.zero_le _⟩⟩
theorem fit_enough {s : State} (h : StOk s) (r : List Int) : Fits s [[4], r] := by
  have hc : VaslcfNeutral.callOf [[4], r] = some (.enough r) := rfl
  have e0 : resCall (flatOf s.code) (arOf s.code) s.code s.wish [[4], r] = resEnough r (flatOf s.code) s.code s.wish := rfl
  have ek := kept_eq h.prog r
  by_cases z : risingB (-1) (linesOf s.code).length r = true
  · rw [if_pos z] at ek
    have up := rising_up z
    have lt := (rising_iV z).2
    refine fit_tell hc h (l := [if isEnough s.code s.wish (r.map Int.toNat) = true then 1 else 0, (shown s.code (r.map Int.toNat)).length]) ?_ ?_
    · show given (keptOf s.code r) 4 _ = _
      rw [ek]
      rfl
    · rw [e0]
      unfold resEnough
      rw [flatOf_length, if_pos z, enough_eq h.prog s.wish up lt, alone_shown h.prog up lt]
      show (_, _, [(if isEnough s.code s.wish (r.map Int.toNat) = true then (1 : Int) else 0), ((shown s.code (r.map Int.toNat)).length : Int)]) = (_, _, [((if isEnough s.code s.wish (r.map Int.toNat) = true then 1 else 0 : Nat) : Int), ((shown s.code (r.map Int.toNat)).length : Int)])
      split <;> rfl
  · rw [if_neg z] at ek
    refine fit_ref hc h (n := 4) ?_ ?_
    · show given (keptOf s.code r) 4 _ = _
      rw [ek]
      rfl
    · rw [e0]
      unfold resEnough
      rw [flatOf_length, if_neg z]
      rfl
theorem fit_byone {s : State} (h : StOk s) : Fits s [[5]] := by
  refine fit_tell (k := .byOne) rfl h (l := toldNats (byOne s.code s.wish) ++ toldText (programText (only (byOne s.code s.wish) s.code))) rfl ?_
  obtain ⟨e1, F⟩ := one_eq h.prog s.wish
  show resByone (flatOf s.code) (arOf s.code) s.code s.wish = _
  unfold resByone
  rw [text_fit h.prog F, e1]
  rfl
theorem fit_least {s : State} (h : StOk s) : Fits s [[6]] := by
  have e0 : resCall (flatOf s.code) (arOf s.code) s.code s.wish [[6]] = resLeast (flatOf s.code) s.code s.wish := rfl
  by_cases z : 10 < (linesOf s.code).length
  · refine fit_ref (k := .least) rfl h (n := 7) ?_ ?_
    · show (if 10 < (linesOf s.code).length then _ else _) = _
      rw [if_pos z]
    · rw [e0]; unfold resLeast; rw [flatOf_length, if_pos z]; rfl
  · refine fit_tell (k := .least) rfl h (l := (leastOf s.code s.wish).length :: toldNats ((leastOf s.code s.wish).headD [])) ?_ ?_
    · show (if 10 < (linesOf s.code).length then _ else _) = _
      rw [if_neg z]
      rfl
    · rw [e0]; unfold resLeast; rw [flatOf_length, if_neg z, least_eq h.prog]; rfl
theorem joined_up {s : State} (h : StOk s) : Up (joined s.code s.wish) ∧ ∀ n ∈ joined s.code s.wish, n < (linesOf s.code).length := by
  unfold Vaslcf.joined
  dsimp only
  rw [lines_range h.prog, List.length_range]
  exact ⟨up_filter (up_range _) _, fun n hn => List.mem_range.mp (List.mem_filter.mp hn).1⟩
theorem fit_joined {s : State} (h : StOk s) : Fits s [[7]] := by
  have e0 : resCall (flatOf s.code) (arOf s.code) s.code s.wish [[7]] = resJoined (flatOf s.code) s.code s.wish := rfl
  by_cases z : 10 < (linesOf s.code).length
  · refine fit_ref (k := .joined) rfl h (n := 7) ?_ ?_
    · show (if 10 < (linesOf s.code).length then _ else _) = _
      rw [if_pos z]
    · rw [e0]; unfold resJoined; rw [flatOf_length, if_pos z]; rfl
  · refine fit_tell (k := .joined) rfl h (l := toldNats (joined s.code s.wish) ++ [if isEnough s.code s.wish (joined s.code s.wish) = true then 1 else 0]) ?_ ?_
    · show (if 10 < (linesOf s.code).length then _ else _) = _
      rw [if_neg z]
      rfl
    · obtain ⟨up, lt⟩ := joined_up h
      rw [e0]; unfold resJoined; rw [flatOf_length, if_neg z, joined_eq h.prog, enough_eq h.prog s.wish up lt]; rfl
theorem fit_size {s : State} (h : StOk s) : Fits s [[11]] := by
  refine fit_tell (k := .size) rfl h (l := [(linesOf s.code).length, s.wish.inputs.length, s.wish.places.length, (endingInputs s.code s.wish).length]) rfl ?_
  show resSize (flatOf s.code) s.code s.wish = _
  unfold resSize
  rw [flatOf_length]
  rfl
end Ld
end
section
set_option Elab.async false
set_option maxHeartbeats 1000000
namespace Ld
open Vaslca (Text Code linesOf isProgram programOf runOf only programText toldNats toldText statusNumber valuesAt ends keptOf decimal ascii inputOf)
open Vaslcf (State Wish Call Answer does stepOf stepsFor explained saidText toldTexts headText given)
theorem does_rows (s : State) (i : Int) : does s (.rows i) = if i < 0 then .error 2 else given s.wish.inputs[i.toNat]? 2 fun l => .ok (s, statusNumber (runOf s.code l).status :: s.wish.places.flatMap fun p => toldNats (valuesAt (runOf s.code l) p)) := rfl
theorem given_no {w : Wish} {i : Int} (h : ¬ hasGiven w i = true) : i < 0 ∨ (¬ i < 0 ∧ w.inputs[i.toNat]? = none) := by
  unfold hasGiven at h
  rw [Bool.and_eq_true, decide_eq_true_eq, decide_eq_true_eq] at h
  by_cases z : i < 0
  · exact .inl z
  · exact .inr ⟨z, List.getElem?_eq_none (by omega)⟩
theorem fit_rows {s : State} (h : StOk s) (i : Int) : Fits s [[8, i]] := by
  have hc : VaslcfNeutral.callOf [[8, i]] = some (.rows i) := rfl
  have e0 : resCall (flatOf s.code) (arOf s.code) s.code s.wish [[8, i]] = resRows i (flatOf s.code) s.code s.wish := rfl
  by_cases z : hasGiven s.wish i = true
  · obtain ⟨m, d, rfl, hm⟩ := given_at z
    refine fit_tell hc h (l := statusNumber (runOf s.code d).status :: s.wish.places.flatMap fun p => toldNats (valuesAt (runOf s.code d) p)) ?_ ?_
    · rw [does_rows, if_neg (by omega), Int.toNat_natCast, hm]
      rfl
    · rw [e0]
      unfold resRows
      rw [if_pos z, runAt_some hm]
      rfl
  · refine fit_ref hc h (n := 2) ?_ ?_
    · rw [does_rows]
      rcases given_no z with y | ⟨y, e⟩
      · rw [if_pos y]
      · rw [if_neg y, e]
        rfl
    · rw [e0]
      unfold resRows
      rw [if_neg z]
      rfl
theorem does_explain (s : State) (i n k : Int) : does s (.explain i n k) = if i < 0 then .error 2 else given s.wish.inputs[i.toNat]? 2 fun l => if n < 0 ∨ ((linesOf s.code).length : Int) ≤ n then .error 3 else if k < 0 then .error 5 else given (stepOf (runOf s.code l) n.toNat k.toNat) 5 fun j => .ok (s, toldTexts ((explained s.code (runOf s.code l) j).map saidText)) := rfl
theorem does_chain (s : State) (i n k : Int) : does s (.chain i n k) = if i < 0 then .error 2 else given s.wish.inputs[i.toNat]? 2 fun l => if n < 0 ∨ ((linesOf s.code).length : Int) ≤ n then .error 3 else if k < 0 then .error 5 else given (stepOf (runOf s.code l) n.toNat k.toNat) 5 fun j => .ok (s, toldNats (stepsFor (runOf s.code l).steps j) ++ toldNats ((linesOf s.code).filter fun m => (stepsFor (runOf s.code l).steps j).any fun q => ((runOf s.code l).steps[q]?).any fun z => z.line == m)) := rfl
/-- a value asked for: what is refused, or the run and the step -/
theorem ask {s : State} (i n k : Int) : (∃ e : Nat, refusal i n k (flatOf s.code) s.code s.wish = -(e : Int) ∧ 0 < e ∧ ∀ f : List Nat → Nat → Vaslcf.Out, (if i < 0 then .error 2 else given s.wish.inputs[i.toNat]? 2 fun l => if n < 0 ∨ ((linesOf s.code).length : Int) ≤ n then .error 3 else if k < 0 then .error 5 else given (stepOf (runOf s.code l) n.toNat k.toNat) 5 (f l)) = .error e) ∨
    (∃ (d : List Nat) (j : Nat), refusal i n k (flatOf s.code) s.code s.wish = 0 ∧ runAtI s.code s.wish i = runOf s.code d ∧ behindAt s.code s.wish i n k = behindL (runOf s.code d).steps j ∧ j < (runOf s.code d).steps.length ∧ d ∈ s.wish.inputs ∧ ∀ f : List Nat → Nat → Vaslcf.Out, (if i < 0 then .error 2 else given s.wish.inputs[i.toNat]? 2 fun l => if n < 0 ∨ ((linesOf s.code).length : Int) ≤ n then .error 3 else if k < 0 then .error 5 else given (stepOf (runOf s.code l) n.toNat k.toNat) 5 (f l)) = f d j) := by
  by_cases z : hasGiven s.wish i = true
  · obtain ⟨m, d, rfl, hm⟩ := given_at z
    have ni : ¬ (m : Int) < 0 := by omega
    have hg : ∀ g : List Nat → Vaslcf.Out, (if (m : Int) < 0 then (.error 2 : Vaslcf.Out) else given s.wish.inputs[(m : Int).toNat]? 2 g) = g d := fun g => by
      rw [if_neg ni, Int.toNat_natCast, hm]; rfl
    by_cases y : hasLine (flatOf s.code) n = true
    · have y' := (has_line n).mp y
      have rf : refusal m n k (flatOf s.code) s.code s.wish = if (decide (0 ≤ k) && decide (k < ((numsAt (runOf s.code d) n.toNat).length : Int))) = true then 0 else -5 := by
        unfold refusal
        rw [if_pos z, if_pos y, runAt_some hm]
      by_cases x : 0 ≤ k
      · have nk : ¬ k < 0 := by omega
        by_cases w : k < ((numsAt (runOf s.code d) n.toNat).length : Int)
        · obtain ⟨j, hj⟩ : ∃ j, (numsAt (runOf s.code d) n.toNat)[k.toNat]? = some j := ⟨_, List.getElem?_eq_getElem (by omega)⟩
          refine .inr ⟨d, j, ?_, runAt_some hm, ?_, nums_lt _ _ j (List.mem_of_getElem? hj), List.mem_of_getElem? hm, fun f => ?_⟩
          · rw [rf, decide_eq_true x, decide_eq_true w]; rfl
          · unfold behindAt; rw [runAt_some hm, hj]; rfl
          · rw [hg, if_neg y', if_neg nk, step_of, hj]; rfl
        · refine .inl ⟨5, ?_, by decide, fun f => ?_⟩
          · rw [rf, decide_eq_true x, decide_eq_false w]; rfl
          · rw [hg, if_neg y', if_neg nk, step_of, List.getElem?_eq_none (by omega)]; rfl
      · refine .inl ⟨5, ?_, by decide, fun f => ?_⟩
        · rw [rf, decide_eq_false x]; rfl
        · rw [hg, if_neg y', if_pos (by omega)]
    · refine .inl ⟨3, ?_, by decide, fun f => ?_⟩
      · unfold refusal; rw [if_pos z, if_neg y]; rfl
      · rw [hg, if_pos (Classical.byContradiction fun q => y ((has_line n).mpr q))]
  · refine .inl ⟨2, ?_, by decide, fun f => ?_⟩
    · unfold refusal; rw [if_neg z]; rfl
    · rcases given_no z with y | ⟨y, e⟩
      · rw [if_pos y]
      · rw [if_neg y, e]; rfl
end Ld
end
section
set_option Elab.async false
set_option maxHeartbeats 1000000
namespace Ld
open Vaslca (Text Code Atom Name Cond linesOf isProgram runOf exec rounds doTest doSet doRead doWrite doStop held lastOf withStep withVar begin_ exprUses exprValue condUses atomUses toldNats toldText decimal ascii)
open Vaslcf (State Wish Call Answer does stepOf stepsFor explained saidText toldTexts headText given Said)
/-! ### a step's sources stand ahead of it -/
structure SrcOk (x : VRun) : Prop where
  var : ∀ y ∈ x.vars, y.src < x.steps.length
  rd : ∀ k, x.read = some k → k < x.steps.length
  src : ∀ (i : Nat) (s : VStep), x.steps[i]? = some s → ∀ k ∈ srcs s, k < i
def CtlOk (x : VRun) (k : Option Nat) : Prop := ∀ j, k = some j → j < x.steps.length
theorem CtlOk.mono {x y : VRun} {k : Option Nat} (h : CtlOk x k) (l : x.steps.length ≤ y.steps.length) : CtlOk y k := fun j e => Nat.lt_of_lt_of_le (h j e) l
theorem last_ok (x : VRun) : CtlOk x (lastOf x) := fun j e => by
  unfold Vaslca.lastOf at e
  cases z : x.steps with
  | nil => rw [z] at e; cases e
  | cons a r =>
    rw [z] at e
    have e' : some ((a :: r).length - 1) = some j := e
    have := Option.some.inj e'
    simp only [List.length_cons] at *
    omega
theorem SrcOk.use {x : VRun} (o : SrcOk x) {as : List Atom} : ∀ k ∈ useSrc x as, k < x.steps.length := by
  intro k hk
  unfold useSrc at hk
  rw [List.mem_filterMap] at hk
  obtain ⟨a, _, ha⟩ := hk
  cases a with
  | num n => cases ha
  | var v =>
    cases e : Vaslca.findVar x v with
    | none => simp [e] at ha
    | some y =>
      have ha' : y.src = k := by simpa [e] using ha
      rw [← ha']
      exact o.var y (find_mem e).1
theorem CtlOk.mem {x : VRun} {k : Option Nat} (h : CtlOk x k) {m : Nat} (hm : m ∈ k.toList) : m < x.steps.length := h m (by simpa using hm)
theorem src_add {l : List VStep} {q : VStep} (h : ∀ (i : Nat) (s : VStep), l[i]? = some s → ∀ k ∈ srcs s, k < i) (hq : ∀ k ∈ srcs q, k < l.length) : ∀ (i : Nat) (s : VStep), (l ++ [q])[i]? = some s → ∀ k ∈ srcs s, k < i := by
  intro i s hs k hk
  by_cases c : i < l.length
  · rw [List.getElem?_append_left c] at hs
    exact h i s hs k hk
  · rw [List.getElem?_append_right (by omega)] at hs
    have hi : i = l.length := by
      have h3 := (List.getElem?_eq_some_iff.mp hs).1
      simp at h3
      omega
    subst hi
    simp at hs
    subst hs
    exact hq k hk
theorem SrcOk.step {x : VRun} (o : SrcOk x) {q : VStep} (hq : ∀ k ∈ srcs q, k < x.steps.length) : SrcOk (withStep x q) := by
  have l : (withStep x q).steps.length = x.steps.length + 1 := by show (x.steps ++ [q]).length = _; simp
  refine ⟨fun y hy => ?_, fun k hk => ?_, src_add o.src hq⟩
  · rw [l]; exact Nat.lt_succ_of_lt (o.var y hy)
  · rw [l]; exact Nat.lt_succ_of_lt (o.rd k hk)
theorem SrcOk.stepSet {x : VRun} (o : SrcOk x) {q : VStep} (hq : ∀ k ∈ srcs q, k < x.steps.length) (v : Name) (n : Nat) : SrcOk (withStep (withVar x v n) q) := by
  have l : (withStep (withVar x v n) q).steps.length = x.steps.length + 1 := by show (x.steps ++ [q]).length = _; simp
  refine ⟨fun y hy => ?_, fun k hk => ?_, src_add o.src hq⟩
  · rw [l]
    have hy' : y ∈ (⟨v, n, x.steps.length⟩ : Vaslca.Var) :: x.vars.filter fun y => y.name != v := hy
    rcases List.mem_cons.mp hy' with rfl | z
    · exact Nat.lt_succ_self _
    · exact Nat.lt_succ_of_lt (o.var y (List.mem_filter.mp z).1)
  · rw [l]; exact Nat.lt_succ_of_lt (o.rd k hk)
theorem SrcOk.step1 {x : VRun} (o : SrcOk x) {f : VRun → VRun} (h : SrcOk (f x)) : SrcOk (Vaslca.step1 x f) := by
  unfold Vaslca.step1
  split
  · exact o
  split
  · exact ⟨o.var, o.rd, o.src⟩
  · exact h
theorem SrcOk.set {x : VRun} (o : SrcOk x) {k : Option Nat} (h : CtlOk x k) (n v e) : SrcOk (doSet k n v e x) :=
  o.step1 (o.stepSet (q := ⟨n, exprValue x e, exprUses x e, k⟩) (fun m hm => by
    rcases List.mem_append.mp ((srcs_expr x e n _ k m).mp hm) with z | z
    · exact o.use m z
    · exact h.mem z) v _)
theorem SrcOk.write {x : VRun} (o : SrcOk x) {k : Option Nat} (h : CtlOk x k) (n a) : SrcOk (doWrite k n a x) :=
  o.step1 (o.step (q := ⟨n, Vaslca.atomValue x a, atomUses x a, k⟩) (fun m hm => by
    rcases List.mem_append.mp ((srcs_write x a n _ k m).mp hm) with z | z
    · exact o.use m z
    · exact h.mem z))
theorem SrcOk.test {x : VRun} (o : SrcOk x) {k : Option Nat} (h : CtlOk x k) (n c) : SrcOk (doTest k n c x) :=
  o.step1 (o.step (q := ⟨n, if Vaslca.condValue x c = true then 1 else 0, condUses x c, k⟩) (fun m hm => by
    rcases List.mem_append.mp ((srcs_cond x c n _ k m).mp hm) with z | z
    · exact o.use m z
    · exact h.mem z))
theorem SrcOk.stop {x : VRun} (o : SrcOk x) {k : Option Nat} (h : CtlOk x k) (n) : SrcOk (doStop k n x) := by
  refine o.step1 ?_
  have t : SrcOk (withStep x ⟨n, 0, [], k⟩) := o.step (fun m hm => h.mem (by rw [srcs_none] at hm; exact hm))
  exact ⟨t.var, t.rd, t.src⟩
theorem SrcOk.read {x : VRun} (o : SrcOk x) {k : Option Nat} (h : CtlOk x k) (n v) : SrcOk (doRead k n v x) := by
  refine o.step1 ?_
  have t : SrcOk (withStep (withVar x v (x.input.headD 0)) ⟨n, x.input.headD 0, [⟨[], x.read⟩], k⟩) := o.stepSet (fun m hm => by
    rw [srcs_read] at hm
    rcases List.mem_append.mp hm with z | z
    · exact o.rd m (by simpa using z)
    · exact h.mem z) v _
  refine ⟨t.var, fun j hj => ?_, t.src⟩
  have e : some x.steps.length = some j := hj
  rw [← Option.some.inj e]
  show x.steps.length < (x.steps ++ [_]).length
  simp
theorem src_rounds {body : Option Nat → VRun → VRun} (hb : ∀ k x, SrcOk x → CtlOk x k → SrcOk (body k x)) (n : Nat) (c : Cond) : ∀ (f : Nat) (k : Option Nat) (x : VRun), SrcOk x → CtlOk x k → (∀ k x, x.steps.length ≤ (body k x).steps.length) → SrcOk (rounds body n c f k x)
  | 0, _, _, o, _, _ => o
  | f + 1, k, x, o, h, l => by
    have t := o.test h n c
    show SrcOk (if held (doTest k n c x) = true then rounds body n c f (lastOf (doTest k n c x)) (body (lastOf (doTest k n c x)) (doTest k n c x)) else doTest k n c x)
    split
    · exact src_rounds hb n c f _ _ (hb _ _ t (last_ok _)) ((last_ok _).mono (l _ _)) l
    · exact t
theorem src_exec : ∀ (c : Code) (k : Option Nat) (x : VRun), SrcOk x → CtlOk x k → SrcOk (exec c k x)
  | .done, _, _, o, _ => o
  | .set n v e r, k, x, o, h => src_exec r k _ (o.set h n v e) (h.mono (len_set k n v e x))
  | .read n v r, k, x, o, h => src_exec r k _ (o.read h n v) (h.mono (len_read k n v x))
  | .write n a r, k, x, o, h => src_exec r k _ (o.write h n a) (h.mono (len_write k n a x))
  | .halt_ n r, k, x, o, h => src_exec r k _ (o.stop h n) (h.mono (len_halt k n x))
  | .ite n c a b r, k, x, o, h => by
    have t := o.test h n c
    have lt := len_test k n c x
    show SrcOk (exec r k (if held (doTest k n c x) = true then exec a (lastOf (doTest k n c x)) (doTest k n c x) else if (doTest k n c x).status = .going then exec b (lastOf (doTest k n c x)) (doTest k n c x) else doTest k n c x))
    split
    · exact src_exec r k _ (src_exec a _ _ t (last_ok _)) (h.mono (Nat.le_trans lt (len_exec a _ _)))
    · split
      · exact src_exec r k _ (src_exec b _ _ t (last_ok _)) (h.mono (Nat.le_trans lt (len_exec b _ _)))
      · exact src_exec r k _ t (h.mono lt)
  | .loop n c b r, k, x, o, h => src_exec r k _ (src_rounds (fun k x => src_exec b k x) n c _ k x o h (fun k x => len_exec b k x)) (h.mono (len_rounds (fun k x => len_exec b k x) n c _ k x))
theorem src_run (c : Code) (d : List Nat) : ∀ (i : Nat) (s : VStep), (runOf c d).steps[i]? = some s → ∀ k ∈ srcs s, k < i :=
  (src_exec c none (begin_ d) ⟨(fun y hy => by cases hy), (fun k hk => by cases hk), (fun i s hs => by
    have hs' : ([] : List VStep)[i]? = some s := hs
    simp at hs')⟩ (fun j e => by cases e)).src
/-! ### explain, chain -/
theorem behind_in {l : List VStep} {j : Nat} (hj : j < l.length) : ∀ q ∈ behindL l j, q < l.length := fun q hq => by
  have := List.mem_range.mp (List.mem_filter.mp hq).1
  omega
theorem said_all {c : Code} (h : isProgram c = true) (d : List Nat) : ∀ (B : List Nat), (∀ q ∈ B, q < (runOf c d).steps.length) →
    ((B.filterMap fun j => ((runOf c d).steps[j]?).map fun s => (⟨s.line, headText c s.line, s.value⟩ : Said)).map saidText).length = B.length ∧
    ((B.filterMap fun j => ((runOf c d).steps[j]?).map fun s => (⟨s.line, headText c s.line, s.value⟩ : Said)).map saidText).flatMap toldText = B.flatMap (saidL (flatOf c) (runOf c d))
  | [], _ => ⟨rfl, rfl⟩
  | q :: r, hB => by
    obtain ⟨i1, i2⟩ := said_all h d r fun m hm => hB m (List.mem_cons_of_mem _ hm)
    obtain ⟨s, hs⟩ : ∃ s, (runOf c d).steps[q]? = some s := ⟨_, List.getElem?_eq_getElem (hB q (List.mem_cons_self ..))⟩
    have hl := run_lines h d s (List.mem_of_getElem? hs)
    rw [← flatOf_length] at hl
    obtain ⟨p, hp⟩ : ∃ p, (flatOf c)[s.line]? = some p := ⟨_, List.getElem?_eq_getElem hl⟩
    have e : saidL (flatOf c) (runOf c d) q = toldText (saidText ⟨s.line, headText c s.line, s.value⟩) := by
      unfold saidL
      rw [hs]
      dsimp only
      rw [hp]
      dsimp only
      rw [← head_text h hp]
      rfl
    rw [List.filterMap_cons, hs]
    dsimp only [Option.map_some]
    refine ⟨?_, ?_⟩
    · rw [List.map_cons, List.length_cons, List.length_cons, i1]
    · rw [List.map_cons, List.flatMap_cons, List.flatMap_cons, i2, e]
theorem fit_explain {s : State} (h : StOk s) (i n k : Int) : Fits s [[9, i, n, k]] := by
  have hc : VaslcfNeutral.callOf [[9, i, n, k]] = some (.explain i n k) := rfl
  have e0 : resCall (flatOf s.code) (arOf s.code) s.code s.wish [[9, i, n, k]] = resExplain i n k (flatOf s.code) s.code s.wish := rfl
  rcases ask (s := s) i n k with ⟨e, r1, r2, r3⟩ | ⟨d, j, r1, r2, r3, r4, r5, r6⟩
  · refine fit_ref hc h (n := e) ?_ ?_
    · rw [does_explain]
      exact r3 fun l j => .ok (s, toldTexts ((explained s.code (runOf s.code l) j).map saidText))
    · rw [e0]
      unfold resExplain
      rw [r1, if_pos (by omega)]
  · refine fit_tell hc h (l := toldTexts ((explained s.code (runOf s.code d) j).map saidText)) ?_ ?_
    · rw [does_explain]
      exact r6 fun l j => .ok (s, toldTexts ((explained s.code (runOf s.code l) j).map saidText))
    · rw [e0]
      unfold resExplain
      rw [r1, if_neg (by omega), r2, r3]
      obtain ⟨q1, q2⟩ := said_all h.prog d (behindL (runOf s.code d).steps j) (behind_in r4)
      unfold Vaslcf.toldTexts Vaslcf.explained
      rw [← behind_eq (src_run s.code d), q1, q2]
theorem fit_chain {s : State} (h : StOk s) (i n k : Int) : Fits s [[10, i, n, k]] := by
  have hc : VaslcfNeutral.callOf [[10, i, n, k]] = some (.chain i n k) := rfl
  have e0 : resCall (flatOf s.code) (arOf s.code) s.code s.wish [[10, i, n, k]] = resChain i n k (flatOf s.code) s.code s.wish := rfl
  rcases ask (s := s) i n k with ⟨e, r1, r2, r3⟩ | ⟨d, j, r1, r2, r3, r4, r5, r6⟩
  · refine fit_ref hc h (n := e) ?_ ?_
    · rw [does_chain]
      exact r3 fun l j => .ok (s, toldNats (stepsFor (runOf s.code l).steps j) ++ toldNats ((linesOf s.code).filter fun m => (stepsFor (runOf s.code l).steps j).any fun q => ((runOf s.code l).steps[q]?).any fun z => z.line == m))
    · rw [e0]
      unfold resChain
      rw [r1, if_pos (by omega)]
  · refine fit_tell hc h (l := toldNats (stepsFor (runOf s.code d).steps j) ++ toldNats ((linesOf s.code).filter fun m => (stepsFor (runOf s.code d).steps j).any fun q => ((runOf s.code d).steps[q]?).any fun z => z.line == m)) ?_ ?_
    · rw [does_chain]
      exact r6 fun l j => .ok (s, toldNats (stepsFor (runOf s.code l).steps j) ++ toldNats ((linesOf s.code).filter fun m => (stepsFor (runOf s.code l).steps j).any fun q => ((runOf s.code l).steps[q]?).any fun z => z.line == m))
    · rw [e0]
      unfold resChain
      rw [r1, if_neg (by omega), r2, r3, ← behind_eq (src_run s.code d), flatOf_length, ← lines_range h.prog]
      rfl
end Ld
end
section
set_option Elab.async false
set_option maxHeartbeats 1000000
namespace Ld
open PyFlat (put told)
open Vaslcf (State)
theorem form_of {c : List (List Int)} (h : VaslcfNeutral.asked1 c = true) : OkForm c := by
  unfold VaslcfNeutral.asked1 at h
  split at h
  · rename_i t
    rw [Bool.and_eq_true, List.all_eq_true, decide_eq_true_eq] at h
    refine .program t (fun z hz => ?_) h.2
    have := h.1 z hz
    unfold VaslcfNeutral.natural at this
    rw [Bool.and_eq_true, decide_eq_true_eq, decide_eq_true_eq] at this
    omega
  · rw [Bool.and_eq_true, decide_eq_true_eq] at h
    exact .given _ h.2
  · exact .place _
  · exact .clear
  · rw [Bool.and_eq_true, decide_eq_true_eq] at h
    exact .enough _ h.2
  · exact .byone
  · exact .least
  · exact .joined
  · exact .rows _
  · exact .explain _ _ _
  · exact .chain _ _ _
  · exact .size
  · cases h
theorem fits {s : State} (h : StOk s) {c : List (List Int)} (f : OkForm c) : Fits s c := by
  cases f with
  | program r hb n => exact fit_program h hb
  | given r n => exact fit_given h r
  | place n => exact fit_place h n
  | clear => exact fit_clear h
  | enough r n => exact fit_enough h r
  | byone => exact fit_byone h
  | least => exact fit_least h
  | joined => exact fit_joined h
  | rows i => exact fit_rows h i
  | explain i n k => exact fit_explain h i n k
  | chain i n k => exact fit_chain h i n k
  | size => exact fit_size h
theorem runs_ok : ∀ (cs : List (List (List Int))) (s : State), StOk s → (∀ c ∈ cs, OkForm c) → Runs (flatOf s.code) s.wish cs (PyFlat.played VaslcfNeutral.step s cs)
  | [], _, _, _ => rfl
  | c :: cs, s, h, hc => by
    obtain ⟨e, h2⟩ := fits h (hc c (by simp))
    refine ⟨arOf s.code, s.code, PyFlat.played VaslcfNeutral.step (VaslcfNeutral.step s c).1 cs, ?_, desk_ok h, ar_ok h.prog, ?_⟩
    · rw [e]; rfl
    · rw [e]; exact runs_ok cs _ h2 fun q hq => hc q (List.mem_cons_of_mem _ hq)
theorem start_ok : StOk VaslcfNeutral.start := ⟨by decide, (fun i hi => by cases hi), by decide, by decide⟩
theorem whole_id (c : List (List Int)) : PyVaslcf.whole c = c := by unfold PyVaslcf.whole; split <;> rfl
theorem law (l : List Int) (h : PyVaslcf.answers_asked l = true) : ∃ (cs : List (List (List Int))) (outs : List (List Int)), l = put cs ∧ (∀ c ∈ cs, OkForm c) ∧ Runs [] ⟨[], []⟩ cs outs ∧ (told outs).length ≤ 10000000 ∧ told outs = PyVaslcf.answers l := by
  unfold PyVaslcf.answers_asked at h
  cases e : PyFlat.calls PyVaslcf.shape l.length l with
  | none => rw [e] at h; cases h
  | some raw =>
    rw [e] at h
    dsimp only at h
    have em : raw.map PyVaslcf.whole = raw := by
      rw [List.map_congr_left fun c _ => whole_id c]
      exact List.map_id' raw
    have ea : PyVaslcf.answers l = told (PyFlat.played VaslcfNeutral.step VaslcfNeutral.start raw) := by
      unfold PyVaslcf.answers PyVaslcf.calls
      rw [e]
      dsimp only
      rw [em]
    rw [em, ea] at h
    simp only [Bool.and_eq_true] at h
    obtain ⟨⟨_, hk⟩, hs⟩ := h
    unfold VaslcfNeutral.asked at hk
    rw [Bool.and_eq_true, List.all_eq_true] at hk
    have ok : ∀ c ∈ raw, OkForm c := fun c hc => form_of (hk.1 c hc)
    exact ⟨raw, _, (PyFlat.put_calls _ _ _ e).1, ok, runs_ok raw VaslcfNeutral.start start_ok ok, of_decide_eq_true hs, ea.symm⟩
end Ld
end
set_option Elab.async false
set_option maxRecDepth 100000
namespace Ld
open PySem in
theorem c_mk {K : PySem.W.Frag} {h : Heap} {mg : Str → Option Value} {n : Str} {z : Int} {t : Tok} (X : K.In h) (G : h.Ns mainGlobals mg) (a : PySem.W.nsIn K mainGlobals n = some (some (.int z t))) : ∃ t, mg n = some (.int z t) := ⟨t, PySem.W.mg_of X G a⟩
end Ld
open PySem PySem.W PyProof.Rows
set_option maxRecDepth 100000 in
set_option maxHeartbeats 0 in
theorem PySem.Challenge.cw_leastlinesdesk_s01_answers_holds : PySem.Challenge.rw_leastlinesdesk_s01_answers.Holds := by
  w_on; k_headS; (case hw => exact ⟨[.list [.int 11]], by decide +kernel, by decide +kernel⟩)
  k_fillS
  refine L2.walk_specK (r := PySem.Challenge.rw_leastlinesdesk_s01_answers) (k := 34) (CX := L2.CX0) (ps := ["calls"]) (sp := Ld.spAnswers) (by decide +kernel) rfl rfl ⟨rfl, by decide, by decide⟩ (fun w h Y => PySem.W.kIn_of Y) ?F ?S (fun _ _ _ _ z => z)
  case F =>
    intro w mg fa h Y KX G hmg
    refine' Ld.all_mk KX G hmg ?a ?l ?c ?k ?a1 ?a2 ?a3 ?a4 ?a5 ?a6 ?T
    (case a => k_is); (case l => k_is); (case c => k_is); (case k => k_is)
    (case a1 => k_is); (case a2 => k_is); (case a3 => k_is); (case a4 => k_is); (case a5 => k_is); (case a6 => k_is)
    case T =>
    intro a_run a_stm a_prg a_rdr a_msr a_dsk
    constructor
    case cl_run => dsimp only; exact ⟨by k_is, by k_is, by k_is, by k_is⟩
    case g_Run => exact a_run
    case n_run_program => unfold L2.NoAttr; dsimp only; k_is
    case n_run_data => unfold L2.NoAttr; dsimp only; k_is
    case n_run_lines => unfold L2.NoAttr; dsimp only; k_is
    case n_run_steps => unfold L2.NoAttr; dsimp only; k_is
    case n_run_came => unfold L2.NoAttr; dsimp only; k_is
    case n_run_reads => unfold L2.NoAttr; dsimp only; k_is
    case n_run_how => unfold L2.NoAttr; dsimp only; k_is
    case cl_stm => dsimp only; exact ⟨by k_is, by k_is, by k_is, by k_is⟩
    case g_Statement => exact a_stm
    case n_stm_kind => unfold L2.NoAttr; dsimp only; k_is
    case n_stm_written => unfold L2.NoAttr; dsimp only; k_is
    case n_stm_name => unfold L2.NoAttr; dsimp only; k_is
    case n_stm_atoms => unfold L2.NoAttr; dsimp only; k_is
    case n_stm_sign => unfold L2.NoAttr; dsimp only; k_is
    case cl_prg => dsimp only; exact ⟨by k_is, by k_is, by k_is, by k_is⟩
    case g_Program => exact a_prg
    case n_prg_statements => unfold L2.NoAttr; dsimp only; k_is
    case n_prg_parents => unfold L2.NoAttr; dsimp only; k_is
    case n_prg_sides => unfold L2.NoAttr; dsimp only; k_is
    case cl_rdr => dsimp only; exact ⟨by k_is, by k_is, by k_is, by k_is⟩
    case g_Reader => exact a_rdr
    case n_rdr_program => unfold L2.NoAttr; dsimp only; k_is
    case n_rdr_path => unfold L2.NoAttr; dsimp only; k_is
    case n_rdr_waits => unfold L2.NoAttr; dsimp only; k_is
    case cl_msr => dsimp only; exact ⟨by k_is, by k_is, by k_is, by k_is⟩
    case g_Measure => exact a_msr
    case n_msr_program => unfold L2.NoAttr; dsimp only; k_is
    case n_msr_places => unfold L2.NoAttr; dsimp only; k_is
    case n_msr_wanted => unfold L2.NoAttr; dsimp only; k_is
    case cl_dsk => dsimp only; exact ⟨by k_is, by k_is, by k_is, by k_is⟩
    case g_Desk => exact a_dsk
    case n_dsk_program => unfold L2.NoAttr; dsimp only; k_is
    case n_dsk_givens => unfold L2.NoAttr; dsimp only; k_is
    case n_dsk_places => unfold L2.NoAttr; dsimp only; k_is
    case len => exact PySem.W.mg_none_of KX G (by k_is)
    case ord => exact PySem.W.mg_none_of KX G (by k_is)
    case range => exact PySem.W.mg_none_of KX G (by k_is)
    case list => exact PySem.W.mg_none_of KX G (by k_is)
    case tuple => exact PySem.W.mg_none_of KX G (by k_is)
    case str => exact PySem.W.mg_none_of KX G (by k_is)
    case reversed => exact PySem.W.mg_none_of KX G (by k_is)
    case c_END => refine' Ld.c_mk KX G ?a; (case a => k_is)
    case c_BLANK => refine' Ld.c_mk KX G ?a; (case a => k_is)
    case c_COLON => refine' Ld.c_mk KX G ?a; (case a => k_is)
    case c_ZERO => refine' Ld.c_mk KX G ?a; (case a => k_is)
    case c_SMALL_A => refine' Ld.c_mk KX G ?a; (case a => k_is)
    case c_SMALL_Z => refine' Ld.c_mk KX G ?a; (case a => k_is)
    case c_MOST_STEPS => refine' Ld.c_mk KX G ?a; (case a => k_is)
    case c_ENDED => refine' Ld.c_mk KX G ?a; (case a => k_is)
    case c_STOPPED => refine' Ld.c_mk KX G ?a; (case a => k_is)
    case c_LONG => refine' Ld.c_mk KX G ?a; (case a => k_is)
    case c_MOST_LINES => refine' Ld.c_mk KX G ?a; (case a => k_is)
    case c_MOST_DEEP => refine' Ld.c_mk KX G ?a; (case a => k_is)
    case c_MOST_INPUTS => refine' Ld.c_mk KX G ?a; (case a => k_is)
    case c_MOST_GIVEN => refine' Ld.c_mk KX G ?a; (case a => k_is)
    case c_MOST_PLACES => refine' Ld.c_mk KX G ?a; (case a => k_is)
    case c_MOST_FOR_LEAST => refine' Ld.c_mk KX G ?a; (case a => k_is)
    case f_codes => refine' Ld.defF_mk Ld.b_codes KX G ?a ?l ?c ?k; (case a => k_is); (case l => k_is); (case c => k_is); (case k => k_is)
    case f_which => refine' Ld.defF_mk Ld.b_which KX G ?a ?l ?c ?k; (case a => k_is); (case l => k_is); (case c => k_is); (case k => k_is)
    case f_is_digit => refine' Ld.defF_mk Ld.b_is_digit KX G ?a ?l ?c ?k; (case a => k_is); (case l => k_is); (case c => k_is); (case k => k_is)
    case f_all_small => refine' Ld.defF_mk Ld.b_all_small KX G ?a ?l ?c ?k; (case a => k_is); (case l => k_is); (case c => k_is); (case k => k_is)
    case f_is_name => refine' Ld.defF_mk Ld.b_is_name KX G ?a ?l ?c ?k; (case a => k_is); (case l => k_is); (case c => k_is); (case k => k_is)
    case f_is_number => refine' Ld.defF_mk Ld.b_is_number KX G ?a ?l ?c ?k; (case a => k_is); (case l => k_is); (case c => k_is); (case k => k_is)
    case f_is_atom => refine' Ld.defF_mk Ld.b_is_atom KX G ?a ?l ?c ?k; (case a => k_is); (case l => k_is); (case c => k_is); (case k => k_is)
    case f_number_of => refine' Ld.defF_mk Ld.b_number_of KX G ?a ?l ?c ?k; (case a => k_is); (case l => k_is); (case c => k_is); (case k => k_is)
    case f_run_lines => refine' Ld.defF_mk Ld.b_run_lines KX G ?a ?l ?c ?k; (case a => k_is); (case l => k_is); (case c => k_is); (case k => k_is)
    case f_run_all => refine' Ld.defF_mk Ld.b_run_all KX G ?a ?l ?c ?k; (case a => k_is); (case l => k_is); (case c => k_is); (case k => k_is)
    case f_ends_well => refine' Ld.defF_mk Ld.b_ends_well KX G ?a ?l ?c ?k; (case a => k_is); (case l => k_is); (case c => k_is); (case k => k_is)
    case f_rows_of => refine' Ld.defF_mk Ld.b_rows_of KX G ?a ?l ?c ?k; (case a => k_is); (case l => k_is); (case c => k_is); (case k => k_is)
    case f_blanks_ahead => refine' Ld.defF_mk Ld.b_blanks_ahead KX G ?a ?l ?c ?k; (case a => k_is); (case l => k_is); (case c => k_is); (case k => k_is)
    case f_words_of => refine' Ld.defF_mk Ld.b_words_of KX G ?a ?l ?c ?k; (case a => k_is); (case l => k_is); (case c => k_is); (case k => k_is)
    case f_read_statement => refine' Ld.defF_mk Ld.b_read_statement KX G ?a ?l ?c ?k; (case a => k_is); (case l => k_is); (case c => k_is); (case k => k_is)
    case f_read_stop => refine' Ld.defF_mk Ld.b_read_stop KX G ?a ?l ?c ?k; (case a => k_is); (case l => k_is); (case c => k_is); (case k => k_is)
    case f_read_read => refine' Ld.defF_mk Ld.b_read_read KX G ?a ?l ?c ?k; (case a => k_is); (case l => k_is); (case c => k_is); (case k => k_is)
    case f_read_write => refine' Ld.defF_mk Ld.b_read_write KX G ?a ?l ?c ?k; (case a => k_is); (case l => k_is); (case c => k_is); (case k => k_is)
    case f_read_test => refine' Ld.defF_mk Ld.b_read_test KX G ?a ?l ?c ?k; (case a => k_is); (case l => k_is); (case c => k_is); (case k => k_is)
    case f_read_set => refine' Ld.defF_mk Ld.b_read_set KX G ?a ?l ?c ?k; (case a => k_is); (case l => k_is); (case c => k_is); (case k => k_is)
    case f_read_program => refine' Ld.defF_mk Ld.b_read_program KX G ?a ?l ?c ?k; (case a => k_is); (case l => k_is); (case c => k_is); (case k => k_is)
    case f_alone => refine' Ld.defF_mk Ld.b_alone KX G ?a ?l ?c ?k; (case a => k_is); (case l => k_is); (case c => k_is); (case k => k_is)
    case f_one_row => refine' Ld.defF_mk Ld.b_one_row KX G ?a ?l ?c ?k; (case a => k_is); (case l => k_is); (case c => k_is); (case k => k_is)
    case f_text_of => refine' Ld.defF_mk Ld.b_text_of KX G ?a ?l ?c ?k; (case a => k_is); (case l => k_is); (case c => k_is); (case k => k_is)
    case f_rows_at => refine' Ld.defF_mk Ld.b_rows_at KX G ?a ?l ?c ?k; (case a => k_is); (case l => k_is); (case c => k_is); (case k => k_is)
    case f_wanted_rows => refine' Ld.defF_mk Ld.b_wanted_rows KX G ?a ?l ?c ?k; (case a => k_is); (case l => k_is); (case c => k_is); (case k => k_is)
    case f_go_through => refine' Ld.defF_mk Ld.b_go_through KX G ?a ?l ?c ?k; (case a => k_is); (case l => k_is); (case c => k_is); (case k => k_is)
    case f_one_by_one => refine' Ld.defF_mk Ld.b_one_by_one KX G ?a ?l ?c ?k; (case a => k_is); (case l => k_is); (case c => k_is); (case k => k_is)
    case f_one_longer => refine' Ld.defF_mk Ld.b_one_longer KX G ?a ?l ?c ?k; (case a => k_is); (case l => k_is); (case c => k_is); (case k => k_is)
    case f_all_least => refine' Ld.defF_mk Ld.b_all_least KX G ?a ?l ?c ?k; (case a => k_is); (case l => k_is); (case c => k_is); (case k => k_is)
    case f_joined_lines => refine' Ld.defF_mk Ld.b_joined_lines KX G ?a ?l ?c ?k; (case a => k_is); (case l => k_is); (case c => k_is); (case k => k_is)
    case f_steps_behind => refine' Ld.defF_mk Ld.b_steps_behind KX G ?a ?l ?c ?k; (case a => k_is); (case l => k_is); (case c => k_is); (case k => k_is)
    case f_in_words => refine' Ld.defF_mk Ld.b_in_words KX G ?a ?l ?c ?k; (case a => k_is); (case l => k_is); (case c => k_is); (case k => k_is)
    case f_counted => refine' Ld.defF_mk Ld.b_counted KX G ?a ?l ?c ?k; (case a => k_is); (case l => k_is); (case c => k_is); (case k => k_is)
    case f_all_values => refine' Ld.defF_mk Ld.b_all_values KX G ?a ?l ?c ?k; (case a => k_is); (case l => k_is); (case c => k_is); (case k => k_is)
    case f_rising_lines => refine' Ld.defF_mk Ld.b_rising_lines KX G ?a ?l ?c ?k; (case a => k_is); (case l => k_is); (case c => k_is); (case k => k_is)
    case f_has_row => refine' Ld.defF_mk Ld.b_has_row KX G ?a ?l ?c ?k; (case a => k_is); (case l => k_is); (case c => k_is); (case k => k_is)
    case f_how_many_numbers => refine' Ld.defF_mk Ld.b_how_many_numbers KX G ?a ?l ?c ?k; (case a => k_is); (case l => k_is); (case c => k_is); (case k => k_is)
    case f_call_end => refine' Ld.defF_mk Ld.b_call_end KX G ?a ?l ?c ?k; (case a => k_is); (case l => k_is); (case c => k_is); (case k => k_is)
    case f_answer_row => refine' Ld.defF_mk Ld.b_answer_row KX G ?a ?l ?c ?k; (case a => k_is); (case l => k_is); (case c => k_is); (case k => k_is)
    case f_answer_plain => refine' Ld.defF_mk Ld.b_answer_plain KX G ?a ?l ?c ?k; (case a => k_is); (case l => k_is); (case c => k_is); (case k => k_is)
    case f_answer_call => refine' Ld.defF_mk Ld.b_answer_call KX G ?a ?l ?c ?k; (case a => k_is); (case l => k_is); (case c => k_is); (case k => k_is)
    case f_answers => refine' Ld.defF_mk Ld.b_answers KX G ?a ?l ?c ?k; (case a => k_is); (case l => k_is); (case c => k_is); (case k => k_is)
    case m_Run_init => dsimp only; refine' Ld.defI_mk Ld.b_Run_init ?a ?i ?l ?c ?k ?mk ?kc; (case a => k_is); (case i => k_is); (case l => k_is); (case c => k_is); (case k => k_is); (case mk => k_is); (case kc => k_is)
    case m_Run_value => dsimp only; refine' Ld.defM_mk Ld.b_Run_value ?a ?i ?l ?c ?k; (case a => k_is); (case i => k_is); (case l => k_is); (case c => k_is); (case k => k_is)
    case m_Run_sources => dsimp only; refine' Ld.defM_mk Ld.b_Run_sources ?a ?i ?l ?c ?k; (case a => k_is); (case i => k_is); (case l => k_is); (case c => k_is); (case k => k_is)
    case m_Run_make_step => dsimp only; refine' Ld.defM_mk Ld.b_Run_make_step ?a ?i ?l ?c ?k; (case a => k_is); (case i => k_is); (case l => k_is); (case c => k_is); (case k => k_is)
    case m_Run_reckon => dsimp only; refine' Ld.defM_mk Ld.b_Run_reckon ?a ?i ?l ?c ?k; (case a => k_is); (case i => k_is); (case l => k_is); (case c => k_is); (case k => k_is)
    case m_Run_holds => dsimp only; refine' Ld.defM_mk Ld.b_Run_holds ?a ?i ?l ?c ?k; (case a => k_is); (case i => k_is); (case l => k_is); (case c => k_is); (case k => k_is)
    case m_Run_do_block => dsimp only; refine' Ld.defM_mk Ld.b_Run_do_block ?a ?i ?l ?c ?k; (case a => k_is); (case i => k_is); (case l => k_is); (case c => k_is); (case k => k_is)
    case m_Run_do_line => dsimp only; refine' Ld.defM_mk Ld.b_Run_do_line ?a ?i ?l ?c ?k; (case a => k_is); (case i => k_is); (case l => k_is); (case c => k_is); (case k => k_is)
    case m_Run_do_set => dsimp only; refine' Ld.defM_mk Ld.b_Run_do_set ?a ?i ?l ?c ?k; (case a => k_is); (case i => k_is); (case l => k_is); (case c => k_is); (case k => k_is)
    case m_Run_do_read => dsimp only; refine' Ld.defM_mk Ld.b_Run_do_read ?a ?i ?l ?c ?k; (case a => k_is); (case i => k_is); (case l => k_is); (case c => k_is); (case k => k_is)
    case m_Run_do_write => dsimp only; refine' Ld.defM_mk Ld.b_Run_do_write ?a ?i ?l ?c ?k; (case a => k_is); (case i => k_is); (case l => k_is); (case c => k_is); (case k => k_is)
    case m_Run_do_stop => dsimp only; refine' Ld.defM_mk Ld.b_Run_do_stop ?a ?i ?l ?c ?k; (case a => k_is); (case i => k_is); (case l => k_is); (case c => k_is); (case k => k_is)
    case m_Run_do_test => dsimp only; refine' Ld.defM_mk Ld.b_Run_do_test ?a ?i ?l ?c ?k; (case a => k_is); (case i => k_is); (case l => k_is); (case c => k_is); (case k => k_is)
    case m_Run_do_if => dsimp only; refine' Ld.defM_mk Ld.b_Run_do_if ?a ?i ?l ?c ?k; (case a => k_is); (case i => k_is); (case l => k_is); (case c => k_is); (case k => k_is)
    case m_Run_do_while => dsimp only; refine' Ld.defM_mk Ld.b_Run_do_while ?a ?i ?l ?c ?k; (case a => k_is); (case i => k_is); (case l => k_is); (case c => k_is); (case k => k_is)
    case m_Run_ask_again => dsimp only; refine' Ld.defM_mk Ld.b_Run_ask_again ?a ?i ?l ?c ?k; (case a => k_is); (case i => k_is); (case l => k_is); (case c => k_is); (case k => k_is)
    case m_Run_row => dsimp only; refine' Ld.defM_mk Ld.b_Run_row ?a ?i ?l ?c ?k; (case a => k_is); (case i => k_is); (case l => k_is); (case c => k_is); (case k => k_is)
    case m_Run_numbers_at => dsimp only; refine' Ld.defM_mk Ld.b_Run_numbers_at ?a ?i ?l ?c ?k; (case a => k_is); (case i => k_is); (case l => k_is); (case c => k_is); (case k => k_is)
    case m_Statement_init => dsimp only; refine' Ld.defI_mk Ld.b_Statement_init ?a ?i ?l ?c ?k ?mk ?kc; (case a => k_is); (case i => k_is); (case l => k_is); (case c => k_is); (case k => k_is); (case mk => k_is); (case kc => k_is)
    case m_Statement_is_header => dsimp only; refine' Ld.defM_mk Ld.b_Statement_is_header ?a ?i ?l ?c ?k; (case a => k_is); (case i => k_is); (case l => k_is); (case c => k_is); (case k => k_is)
    case m_Program_init => dsimp only; refine' Ld.defI_mk Ld.b_Program_init ?a ?i ?l ?c ?k ?mk ?kc; (case a => k_is); (case i => k_is); (case l => k_is); (case c => k_is); (case k => k_is); (case mk => k_is); (case kc => k_is)
    case m_Program_join_line => dsimp only; refine' Ld.defM_mk Ld.b_Program_join_line ?a ?i ?l ?c ?k; (case a => k_is); (case i => k_is); (case l => k_is); (case c => k_is); (case k => k_is)
    case m_Program_many => dsimp only; refine' Ld.defM_mk Ld.b_Program_many ?a ?i ?l ?c ?k; (case a => k_is); (case i => k_is); (case l => k_is); (case c => k_is); (case k => k_is)
    case m_Program_inside => dsimp only; refine' Ld.defM_mk Ld.b_Program_inside ?a ?i ?l ?c ?k; (case a => k_is); (case i => k_is); (case l => k_is); (case c => k_is); (case k => k_is)
    case m_Program_depth => dsimp only; refine' Ld.defM_mk Ld.b_Program_depth ?a ?i ?l ?c ?k; (case a => k_is); (case i => k_is); (case l => k_is); (case c => k_is); (case k => k_is)
    case m_Reader_init => dsimp only; refine' Ld.defI_mk Ld.b_Reader_init ?a ?i ?l ?c ?k ?mk ?kc; (case a => k_is); (case i => k_is); (case l => k_is); (case c => k_is); (case k => k_is); (case mk => k_is); (case kc => k_is)
    case m_Reader_take => dsimp only; refine' Ld.defM_mk Ld.b_Reader_take ?a ?i ?l ?c ?k; (case a => k_is); (case i => k_is); (case l => k_is); (case c => k_is); (case k => k_is)
    case m_Reader_take_else => dsimp only; refine' Ld.defM_mk Ld.b_Reader_take_else ?a ?i ?l ?c ?k; (case a => k_is); (case i => k_is); (case l => k_is); (case c => k_is); (case k => k_is)
    case m_Reader_take_statement => dsimp only; refine' Ld.defM_mk Ld.b_Reader_take_statement ?a ?i ?l ?c ?k; (case a => k_is); (case i => k_is); (case l => k_is); (case c => k_is); (case k => k_is)
    case m_Measure_init => dsimp only; refine' Ld.defI_mk Ld.b_Measure_init ?a ?i ?l ?c ?k ?mk ?kc; (case a => k_is); (case i => k_is); (case l => k_is); (case c => k_is); (case k => k_is); (case mk => k_is); (case kc => k_is)
    case m_Measure_is_enough => dsimp only; refine' Ld.defM_mk Ld.b_Measure_is_enough ?a ?i ?l ?c ?k; (case a => k_is); (case i => k_is); (case l => k_is); (case c => k_is); (case k => k_is)
    case m_Desk_init => dsimp only; refine' Ld.defI_mk Ld.b_Desk_init ?a ?i ?l ?c ?k ?mk ?kc; (case a => k_is); (case i => k_is); (case l => k_is); (case c => k_is); (case k => k_is); (case mk => k_is); (case kc => k_is)
    case m_Desk_has_line => dsimp only; refine' Ld.defM_mk Ld.b_Desk_has_line ?a ?i ?l ?c ?k; (case a => k_is); (case i => k_is); (case l => k_is); (case c => k_is); (case k => k_is)
    case m_Desk_has_given => dsimp only; refine' Ld.defM_mk Ld.b_Desk_has_given ?a ?i ?l ?c ?k; (case a => k_is); (case i => k_is); (case l => k_is); (case c => k_is); (case k => k_is)
    case m_Desk_measure => dsimp only; refine' Ld.defM_mk Ld.b_Desk_measure ?a ?i ?l ?c ?k; (case a => k_is); (case i => k_is); (case l => k_is); (case c => k_is); (case k => k_is)
    case m_Desk_answer_program => dsimp only; refine' Ld.defM_mk Ld.b_Desk_answer_program ?a ?i ?l ?c ?k; (case a => k_is); (case i => k_is); (case l => k_is); (case c => k_is); (case k => k_is)
    case m_Desk_answer_given => dsimp only; refine' Ld.defM_mk Ld.b_Desk_answer_given ?a ?i ?l ?c ?k; (case a => k_is); (case i => k_is); (case l => k_is); (case c => k_is); (case k => k_is)
    case m_Desk_answer_place => dsimp only; refine' Ld.defM_mk Ld.b_Desk_answer_place ?a ?i ?l ?c ?k; (case a => k_is); (case i => k_is); (case l => k_is); (case c => k_is); (case k => k_is)
    case m_Desk_answer_clear => dsimp only; refine' Ld.defM_mk Ld.b_Desk_answer_clear ?a ?i ?l ?c ?k; (case a => k_is); (case i => k_is); (case l => k_is); (case c => k_is); (case k => k_is)
    case m_Desk_answer_enough => dsimp only; refine' Ld.defM_mk Ld.b_Desk_answer_enough ?a ?i ?l ?c ?k; (case a => k_is); (case i => k_is); (case l => k_is); (case c => k_is); (case k => k_is)
    case m_Desk_answer_byone => dsimp only; refine' Ld.defM_mk Ld.b_Desk_answer_byone ?a ?i ?l ?c ?k; (case a => k_is); (case i => k_is); (case l => k_is); (case c => k_is); (case k => k_is)
    case m_Desk_answer_least => dsimp only; refine' Ld.defM_mk Ld.b_Desk_answer_least ?a ?i ?l ?c ?k; (case a => k_is); (case i => k_is); (case l => k_is); (case c => k_is); (case k => k_is)
    case m_Desk_answer_joined => dsimp only; refine' Ld.defM_mk Ld.b_Desk_answer_joined ?a ?i ?l ?c ?k; (case a => k_is); (case i => k_is); (case l => k_is); (case c => k_is); (case k => k_is)
    case m_Desk_answer_rows => dsimp only; refine' Ld.defM_mk Ld.b_Desk_answer_rows ?a ?i ?l ?c ?k; (case a => k_is); (case i => k_is); (case l => k_is); (case c => k_is); (case k => k_is)
    case m_Desk_refuse_value => dsimp only; refine' Ld.defM_mk Ld.b_Desk_refuse_value ?a ?i ?l ?c ?k; (case a => k_is); (case i => k_is); (case l => k_is); (case c => k_is); (case k => k_is)
    case m_Desk_answer_explain => dsimp only; refine' Ld.defM_mk Ld.b_Desk_answer_explain ?a ?i ?l ?c ?k; (case a => k_is); (case i => k_is); (case l => k_is); (case c => k_is); (case k => k_is)
    case m_Desk_answer_chain => dsimp only; refine' Ld.defM_mk Ld.b_Desk_answer_chain ?a ?i ?l ?c ?k; (case a => k_is); (case i => k_is); (case l => k_is); (case c => k_is); (case k => k_is)
    case m_Desk_answer_size => dsimp only; refine' Ld.defM_mk Ld.b_Desk_answer_size ?a ?i ?l ?c ?k; (case a => k_is); (case i => k_is); (case l => k_is); (case c => k_is); (case k => k_is)
  case S =>
    intro K H xs a hO hwi hask hx
    cases hx with
    | cons h1 h2 =>
      cases h2
      cases h1 with
      | lst hs ha =>
        have e := L2.ints_dw a.1 _ ha
        subst e
        obtain ⟨cs, outs, e1, e2, e3, e4, e5⟩ := Ld.law a.1 hask
        refine ⟨_, cs, outs, rfl, by rw [← e1]; exact hs, e2, e3, e4, fun H' p hp => ?_⟩
        rw [e5] at hp
        exact .lst (L2.SqL.of hp) (L2.dw_ints _)
