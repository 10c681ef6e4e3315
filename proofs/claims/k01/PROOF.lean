import PyProof.Rows.All
import Wide.All
import OpenK.AllK
import Wide.FinOn
import HandS.Text
import HandS.ForMost
import HandS.IsInst
import HandS.FStrTup
import HandS.RaiseMore
import PySem.Challenge.RW_halfnoted_k01_expressions_read_back
set_option Elab.async false
set_option maxRecDepth 100000
set_option maxHeartbeats 4000000
set_option linter.all false
/-! M1: the mathematics. Types and expressions of the language, their texts, their tokens, and that the text of an expression is cut into its tokens. -/
namespace HN
open PySem TL

inductive Ty where
  | int | bool | unit | any
  | fn (a b : Ty)
  | pair (a b : Ty)
  | box (a : Ty)

inductive Un where
  | fst | snd | box | get | not
inductive Op where
  | plus | minus | times | lt | eq

inductive Ex where
  | num (n : Nat)
  | flag (b : Bool)
  | unit
  | name (x : Str)
  | fn (x : Str) (t : Ty) (e : Ex)
  | recf (f x : Str) (t u : Ty) (e : Ex)
  | letx (x : Str) (e f : Ex)
  | ite (c e f : Ex)
  | print (e f : Ex)
  | pair (e f : Ex)
  | asT (e : Ex) (t : Ty)
  | op (s : Op) (e f : Ex)
  | un (k : Un) (e : Ex)
  | put (e f : Ex)
  | call (e f : Ex)

def Un.s : Un → Str
  | .fst => "fst" | .snd => "snd" | .box => "box" | .get => "get" | .not => "not"
def Op.s : Op → Str
  | .plus => "+" | .minus => "-" | .times => "*" | .lt => "<" | .eq => "=="

/-! ### as data -/
def Ty.d : Ty → PyData
  | .int => .tuple [.str "int"]
  | .bool => .tuple [.str "bool"]
  | .unit => .tuple [.str "unit"]
  | .any => .tuple [.str "any"]
  | .fn a b => .tuple [.str "fun", a.d, b.d]
  | .pair a b => .tuple [.str "pair", a.d, b.d]
  | .box a => .tuple [.str "box", a.d]
def Ex.d : Ex → PyData
  | .num n => .tuple [.str "num", .int n]
  | .flag b => .tuple [.str "flag", .bool b]
  | .unit => .tuple [.str "unit"]
  | .name x => .tuple [.str "name", .str x]
  | .fn x t e => .tuple [.str "fun", .str x, t.d, e.d]
  | .recf f x t u e => .tuple [.str "rec", .str f, .str x, t.d, u.d, e.d]
  | .letx x e f => .tuple [.str "let", .str x, e.d, f.d]
  | .ite c e f => .tuple [.str "if", c.d, e.d, f.d]
  | .print e f => .tuple [.str "print", e.d, f.d]
  | .pair e f => .tuple [.str "pair", e.d, f.d]
  | .asT e t => .tuple [.str "as", e.d, t.d]
  | .op s e f => .tuple [.str "op", .str s.s, e.d, f.d]
  | .un k e => .tuple [.str k.s, e.d]
  | .put e f => .tuple [.str "put", e.d, f.d]
  | .call e f => .tuple [.str "call", e.d, f.d]

/-! ### heights (types counted) -/
def Ty.h : Ty → Nat
  | .int | .bool | .unit | .any => 1
  | .fn a b | .pair a b => 1 + max a.h b.h
  | .box a => 1 + a.h
def Ex.h : Ex → Nat
  | .num _ | .flag _ | .unit | .name _ => 1
  | .fn _ t e => 1 + max t.h e.h
  | .recf _ _ t u e => 1 + max t.h (max u.h e.h)
  | .letx _ e f | .print e f | .pair e f | .op _ e f | .put e f | .call e f => 1 + max e.h f.h
  | .ite c e f => 1 + max c.h (max e.h f.h)
  | .asT e t => 1 + max e.h t.h
  | .un _ e => 1 + e.h
theorem Ty.h_pos : ∀ t : Ty, 1 ≤ t.h := by intro t; cases t <;> simp only [Ty.h] <;> omega
theorem Ex.h_pos : ∀ e : Ex, 1 ≤ e.h := by intro e; cases e <;> simp only [Ex.h] <;> omega

/-! ### texts -/
def Ty.isFn : Ty → Bool
  | .fn _ _ => true
  | _ => false
def Ty.show : Ty → Str
  | .int => "int"
  | .bool => "bool"
  | .unit => "unit"
  | .any => "any"
  | .fn a b => (if a.isFn then "(" ++ a.show ++ ")" else a.show) ++ " -> " ++ b.show
  | .pair a b => "(" ++ a.show ++ ", " ++ b.show ++ ")"
  | .box a => "box " ++ (if a.isFn then "(" ++ a.show ++ ")" else a.show)
def Ty.showS (a : Ty) : Str := if a.isFn then "(" ++ a.show ++ ")" else a.show

def Ex.isAt : Ex → Bool
  | .num _ | .flag _ | .unit | .name _ | .pair _ _ | .asT _ _ => true
  | _ => false
def Ex.show : Ex → Str
  | .num n => (Str.ofString (toString ((n : Nat) : Int)))
  | .flag b => if b then "true" else "false"
  | .unit => "unit"
  | .name x => x
  | .fn x t e => "fun " ++ x ++ " : " ++ t.show ++ " => " ++ e.show
  | .recf f x t u e => "rec " ++ f ++ " (" ++ x ++ " : " ++ t.show ++ ") : " ++ u.show ++ " => " ++ e.show
  | .letx x e f => "let " ++ x ++ " = " ++ e.show ++ " in " ++ f.show
  | .ite c e f => "if " ++ c.show ++ " then " ++ e.show ++ " else " ++ f.show
  | .print e f => "print " ++ (if e.isAt then e.show else "(" ++ e.show ++ ")") ++ " ; " ++ f.show
  | .pair e f => "(" ++ e.show ++ ", " ++ f.show ++ ")"
  | .asT e t => "(" ++ e.show ++ " : " ++ t.show ++ ")"
  | .op s e f => (if e.isAt then e.show else "(" ++ e.show ++ ")") ++ " " ++ s.s ++ " " ++ (if f.isAt then f.show else "(" ++ f.show ++ ")")
  | .un k e => k.s ++ " " ++ (if e.isAt then e.show else "(" ++ e.show ++ ")")
  | .put e f => "put" ++ " " ++ ((if e.isAt then e.show else "(" ++ e.show ++ ")") ++ " " ++ (if f.isAt then f.show else "(" ++ f.show ++ ")"))
  | .call e f => (if e.isAt then e.show else "(" ++ e.show ++ ")") ++ " " ++ (if f.isAt then f.show else "(" ++ f.show ++ ")")
def Ex.showA (e : Ex) : Str := if e.isAt then e.show else "(" ++ e.show ++ ")"

/-! ### tokens -/
inductive Tk where
  | word (w : Str)
  | name (x : Str)
  | num (n : Nat)
  | sign (s : Str)
  deriving DecidableEq
def Tk.kind : Tk → Str
  | .word _ => "word" | .name _ => "name" | .num _ => "number" | .sign _ => "sign"
def Tk.cs : Tk → List Nat
  | .word w => tl w
  | .name x => tl x
  | .num n => numL n
  | .sign s => tl s

def Ty.toks : Ty → List Tk
  | .int => [.word "int"]
  | .bool => [.word "bool"]
  | .unit => [.word "unit"]
  | .any => [.word "any"]
  | .fn a b => (if a.isFn then .sign "(" :: (a.toks ++ [.sign ")"]) else a.toks) ++ .sign "->" :: b.toks
  | .pair a b => .sign "(" :: (a.toks ++ .sign "," :: (b.toks ++ [.sign ")"]))
  | .box a => .word "box" :: (if a.isFn then .sign "(" :: (a.toks ++ [.sign ")"]) else a.toks)
def Ty.stoks (a : Ty) : List Tk := if a.isFn then .sign "(" :: (a.toks ++ [.sign ")"]) else a.toks
def Ex.toks : Ex → List Tk
  | .num n => [.num n]
  | .flag b => [.word (if b then "true" else "false")]
  | .unit => [.word "unit"]
  | .name x => [.name x]
  | .fn x t e => .word "fun" :: .name x :: .sign ":" :: (t.toks ++ .sign "=>" :: e.toks)
  | .recf f x t u e => .word "rec" :: .name f :: .sign "(" :: .name x :: .sign ":" :: (t.toks ++ .sign ")" :: .sign ":" :: (u.toks ++ .sign "=>" :: e.toks))
  | .letx x e f => .word "let" :: .name x :: .sign "=" :: (e.toks ++ .word "in" :: f.toks)
  | .ite c e f => .word "if" :: (c.toks ++ .word "then" :: (e.toks ++ .word "else" :: f.toks))
  | .print e f => .word "print" :: ((if e.isAt then e.toks else .sign "(" :: (e.toks ++ [.sign ")"])) ++ .sign ";" :: f.toks)
  | .pair e f => .sign "(" :: (e.toks ++ .sign "," :: (f.toks ++ [.sign ")"]))
  | .asT e t => .sign "(" :: (e.toks ++ .sign ":" :: (t.toks ++ [.sign ")"]))
  | .op s e f => (if e.isAt then e.toks else .sign "(" :: (e.toks ++ [.sign ")"])) ++ .sign s.s :: (if f.isAt then f.toks else .sign "(" :: (f.toks ++ [.sign ")"]))
  | .un k e => .word k.s :: (if e.isAt then e.toks else .sign "(" :: (e.toks ++ [.sign ")"]))
  | .put e f => .word "put" :: ((if e.isAt then e.toks else .sign "(" :: (e.toks ++ [.sign ")"])) ++ (if f.isAt then f.toks else .sign "(" :: (f.toks ++ [.sign ")"])))
  | .call e f => (if e.isAt then e.toks else .sign "(" :: (e.toks ++ [.sign ")"])) ++ (if f.isAt then f.toks else .sign "(" :: (f.toks ++ [.sign ")"]))
def Ex.atoks (e : Ex) : List Tk := if e.isAt then e.toks else .sign "(" :: (e.toks ++ [.sign ")"])

/-! ### what is well formed -/
def words : List Str := ["any", "as", "bool", "box", "else", "false", "fst", "fun", "get", "if", "in", "int", "let", "not", "print", "put", "rec", "snd", "then", "true", "unit"]
def signs : List Str := ["=>", "->", "==", "(", ")", ",", ":", ";", "=", "+", "-", "*", "<"]
def lower (c : Nat) : Prop := 97 ≤ c ∧ c ≤ 122
def digit (c : Nat) : Prop := 48 ≤ c ∧ c ≤ 57
def inner (c : Nat) : Prop := lower c ∨ digit c ∨ c = 95
/-- a name -/
structure NameOk (x : Str) : Prop where
  first : ∃ c r, tl x = c :: r ∧ lower c
  rest : ∀ c ∈ tl x, inner c
  free : x ∉ words
  len : x.length ≤ 20
def Ex.ok : Ex → Prop
  | .num n => n < 2147483648
  | .flag _ | .unit => True
  | .name x => NameOk x
  | .fn x _ e => NameOk x ∧ e.ok
  | .recf f x _ _ e => NameOk f ∧ NameOk x ∧ e.ok
  | .letx x e f => NameOk x ∧ e.ok ∧ f.ok
  | .ite c e f => c.ok ∧ e.ok ∧ f.ok
  | .print e f | .pair e f | .op _ e f | .put e f | .call e f => e.ok ∧ f.ok
  | .asT e _ => e.ok
  | .un _ e => e.ok
def Tk.ok : Tk → Prop
  | .word w => w ∈ words
  | .name x => NameOk x
  | .num n => n < 2147483648
  | .sign s => s ∈ signs

/-! ### a text and its tokens -/
/-- a text's end, or a sign that ends every token -/
def EndOk : List Nat → Prop
  | [] => True
  | c :: _ => c = 32 ∨ c = 10 ∨ c = 41 ∨ c = 44
inductive Lex : List Tk → List Nat → Prop where
  | nil : Lex [] []
  | sep {c : Nat} {ts : List Tk} {r : List Nat} : c = 32 ∨ c = 10 → Lex ts r → Lex ts (c :: r)
  | tok {t : Tk} {ts : List Tk} {r : List Nat} : t.ok → (t = .sign "(" ∨ EndOk r) → Lex ts r → Lex (t :: ts) (t.cs ++ r)
/-- the same with the places -/
inductive PLex : Nat → List (Tk × Nat) → List Nat → Prop where
  | nil {n : Nat} : PLex n [] []
  | sep {n c : Nat} {ts : List (Tk × Nat)} {r : List Nat} : c = 32 ∨ c = 10 → PLex (n + 1) ts r → PLex n ts (c :: r)
  | tok {n : Nat} {t : Tk} {ts : List (Tk × Nat)} {r : List Nat} : t.ok → (t = .sign "(" ∨ EndOk r) → PLex (n + t.cs.length) ts r → PLex n ((t, n) :: ts) (t.cs ++ r)
theorem Lex.places {ts : List Tk} {r : List Nat} (h : Lex ts r) : ∀ n, ∃ tps : List (Tk × Nat), tps.map Prod.fst = ts ∧ PLex n tps r := by
  induction h with
  | nil => exact fun n => ⟨[], rfl, .nil⟩
  | sep hc _ ih =>
    intro n
    obtain ⟨tps, e, p⟩ := ih (n + 1)
    exact ⟨tps, e, .sep hc p⟩
  | @tok t ts r ho he _ ih =>
    intro n
    obtain ⟨tps, e, p⟩ := ih (n + t.cs.length)
    exact ⟨(t, n) :: tps, by rw [List.map_cons, e], .tok ho he p⟩
theorem PLex.lex {n : Nat} {tps : List (Tk × Nat)} {r : List Nat} (h : PLex n tps r) : Lex (tps.map Prod.fst) r := by
  induction h with
  | nil => exact .nil
  | sep hc _ ih => exact .sep hc ih
  | tok ho he _ ih => exact .tok ho he ih

/-! ### the text of a type, of an expression -/
theorem lx_sign {s : Str} {ts : List Tk} {r : List Nat} (hs : s ∈ signs) (he : s = "(" ∨ EndOk r) (h : Lex ts r) : Lex (.sign s :: ts) (tl s ++ r) :=
  .tok (t := .sign s) hs (he.imp (fun e => by rw [e]) id) h
theorem lx_word {w : Str} {ts : List Tk} {r : List Nat} (hs : w ∈ words) (he : EndOk r) (h : Lex ts r) : Lex (.word w :: ts) (tl w ++ r) := .tok (t := .word w) hs (.inr he) h
theorem lx_name {x : Str} {ts : List Tk} {r : List Nat} (hs : NameOk x) (he : EndOk r) (h : Lex ts r) : Lex (.name x :: ts) (tl x ++ r) := .tok (t := .name x) hs (.inr he) h
theorem lx_sp {ts : List Tk} {r : List Nat} (h : Lex ts r) : Lex ts (32 :: r) := .sep (.inl rfl) h
theorem end_sp {r : List Nat} : EndOk (32 :: r) := .inl rfl
theorem end_rp {r : List Nat} : EndOk (41 :: r) := .inr (.inr (.inl rfl))
theorem end_cm {r : List Nat} : EndOk (44 :: r) := .inr (.inr (.inr rfl))
theorem l_lp : tl "(" = [40] := by decide +kernel
theorem l_rp : tl ")" = [41] := by decide +kernel
theorem l_sp : tl " " = [32] := by decide +kernel
theorem l_arrow : tl " -> " = 32 :: (tl "->" ++ [32]) := by decide +kernel
theorem l_comma : tl ", " = 44 :: [32] := by decide +kernel
theorem l_comma1 : tl "," = [44] := by decide +kernel
theorem l_box : tl "box " = tl "box" ++ [32] := by decide +kernel
theorem l_fun : tl "fun " = tl "fun" ++ [32] := by decide +kernel
theorem l_rec : tl "rec " = tl "rec" ++ [32] := by decide +kernel
theorem l_let : tl "let " = tl "let" ++ [32] := by decide +kernel
theorem l_if : tl "if " = tl "if" ++ [32] := by decide +kernel
theorem l_print : tl "print " = tl "print" ++ [32] := by decide +kernel
theorem l_then : tl " then " = 32 :: (tl "then" ++ [32]) := by decide +kernel
theorem l_else : tl " else " = 32 :: (tl "else" ++ [32]) := by decide +kernel
theorem l_in : tl " in " = 32 :: (tl "in" ++ [32]) := by decide +kernel
theorem l_colon : tl " : " = 32 :: (tl ":" ++ [32]) := by decide +kernel
theorem l_darrow : tl " => " = 32 :: (tl "=>" ++ [32]) := by decide +kernel
theorem l_eq : tl " = " = 32 :: (tl "=" ++ [32]) := by decide +kernel
theorem l_semi : tl " ; " = 32 :: (tl ";" ++ [32]) := by decide +kernel
theorem l_splp : tl " (" = 32 :: tl "(" := by decide +kernel
theorem l_rpcolon : tl ") : " = tl ")" ++ 32 :: (tl ":" ++ [32]) := by decide +kernel

theorem s_in (s : String) (h : (Str.ofString s) ∈ signs) : (Str.ofString s) ∈ signs := h
theorem lex_par {t : Str} {k : List Tk} (ih : ∀ (ts : List Tk) (r : List Nat), EndOk r → Lex ts r → Lex (k ++ ts) (tl t ++ r)) (ts : List Tk) (r : List Nat) (he : EndOk r) (h : Lex ts r) :
    Lex (.sign "(" :: (k ++ [.sign ")"]) ++ ts) (tl ("(" ++ t ++ ")") ++ r) := by
  rw [tl_append, tl_append]
  simp only [List.append_assoc, List.cons_append, List.nil_append]
  refine lx_sign (by decide +kernel) (.inl rfl) (ih _ _ (by rw [l_rp]; exact end_rp) (lx_sign (by decide +kernel) (.inr he) h))

theorem Ty.lex : ∀ (t : Ty) (ts : List Tk) (r : List Nat), EndOk r → Lex ts r → Lex (t.toks ++ ts) (tl t.show ++ r)
  | .int, ts, r, he, h => lx_word (by decide +kernel) he h
  | .bool, ts, r, he, h => lx_word (by decide +kernel) he h
  | .unit, ts, r, he, h => lx_word (by decide +kernel) he h
  | .any, ts, r, he, h => lx_word (by decide +kernel) he h
  | .fn a b, ts, r, he, h => by
    have hb := Ty.lex b ts r he h
    have ha := Ty.lex a
    have key : Lex (Tk.sign "->" :: (b.toks ++ ts)) (32 :: (tl "->" ++ 32 :: (tl b.show ++ r))) := lx_sp (lx_sign (by decide +kernel) (.inr end_sp) (lx_sp hb))
    simp only [Ty.toks, Ty.show]
    split
    · have q := lex_par ha _ _ end_sp key
      simpa [tl_append, l_arrow] using q
    · have q := ha _ _ end_sp key
      simpa [tl_append, l_arrow] using q
  | .pair a b, ts, r, he, h => by
    have hb := Ty.lex b (Tk.sign ")" :: ts) (tl ")" ++ r) (by rw [l_rp]; exact end_rp) (lx_sign (by decide +kernel) (.inr he) h)
    have ha := Ty.lex a (Tk.sign "," :: (b.toks ++ Tk.sign ")" :: ts)) (tl "," ++ 32 :: (tl b.show ++ (tl ")" ++ r))) (by rw [l_comma1]; exact end_cm) (lx_sign (by decide +kernel) (.inr end_sp) (lx_sp hb))
    have q := lx_sign (s := "(") (by decide +kernel) (.inl rfl) ha
    simpa [Ty.toks, Ty.show, tl_append, l_comma, l_comma1] using q
  | .box a, ts, r, he, h => by
    have ha := Ty.lex a
    simp only [Ty.toks, Ty.show]
    split
    · have q := lx_word (w := "box") (by decide +kernel) end_sp (lx_sp (lex_par ha _ _ he h))
      simpa [tl_append, l_box] using q
    · have q := lx_word (w := "box") (by decide +kernel) end_sp (lx_sp (ha _ _ he h))
      simpa [tl_append, l_box] using q

theorem lex_at {e : Ex} (ih : ∀ (ts : List Tk) (r : List Nat), EndOk r → Lex ts r → Lex (e.toks ++ ts) (tl e.show ++ r)) (ts : List Tk) (r : List Nat) (he : EndOk r) (h : Lex ts r) : Lex (e.atoks ++ ts) (tl e.showA ++ r) := by
  unfold Ex.atoks Ex.showA
  split
  · exact ih ts r he h
  · exact lex_par ih ts r he h
theorem Op.s_in (s : Op) : s.s ∈ signs := by cases s <;> decide +kernel
theorem Un.s_in (k : Un) : k.s ∈ words := by cases k <;> decide +kernel

theorem Ex.lex : ∀ (e : Ex), e.ok → ∀ (ts : List Tk) (r : List Nat), EndOk r → Lex ts r → Lex (e.toks ++ ts) (tl e.show ++ r)
  | .num n, ho, ts, r, he, h => by
    have q := Lex.tok (t := .num n) ho (.inr he) h
    show Lex (.num n :: ts) (tl (Str.ofString (toString ((n : Nat) : Int))) ++ r)
    rw [tl_num]
    exact q
  | .flag b, _, ts, r, he, h => by
    cases b
    · exact lx_word (by decide +kernel) he h
    · exact lx_word (by decide +kernel) he h
  | .unit, _, ts, r, he, h => lx_word (by decide +kernel) he h
  | .name x, ho, ts, r, he, h => lx_name ho he h
  | .fn x t e, ho, ts, r, he, h => by
    have h1 := Ex.lex e ho.2 ts r he h
    have h2 := Ty.lex t _ _ end_sp (lx_sp (lx_sign (s := "=>") (by decide +kernel) (.inr end_sp) (lx_sp h1)))
    have q := lx_word (w := "fun") (by decide +kernel) end_sp (lx_sp (lx_name ho.1 end_sp (lx_sp (lx_sign (s := ":") (by decide +kernel) (.inr end_sp) (lx_sp h2)))))
    simpa [Ex.toks, Ex.show, tl_append, l_fun, l_colon, l_darrow] using q
  | .recf f x t u e, ho, ts, r, he, h => by
    have h1 := Ex.lex e ho.2.2 ts r he h
    have h2 := Ty.lex u _ _ end_sp (lx_sp (lx_sign (s := "=>") (by decide +kernel) (.inr end_sp) (lx_sp h1)))
    have h3 := Ty.lex t (.sign ")" :: _) (tl ")" ++ _) (by rw [l_rp]; exact end_rp) (lx_sign (s := ")") (by decide +kernel) (.inr end_sp) (lx_sp (lx_sign (s := ":") (by decide +kernel) (.inr end_sp) (lx_sp h2))))
    have q := lx_word (w := "rec") (by decide +kernel) end_sp (lx_sp (lx_name ho.1 end_sp (lx_sp (lx_sign (s := "(") (by decide +kernel) (.inl rfl) (lx_name ho.2.1 end_sp (lx_sp (lx_sign (s := ":") (by decide +kernel) (.inr end_sp) (lx_sp h3))))))))
    simpa [Ex.toks, Ex.show, tl_append, l_rec, l_colon, l_darrow, l_splp, l_rpcolon] using q
  | .letx x e f, ho, ts, r, he, h => by
    have h1 := Ex.lex f ho.2.2 ts r he h
    have h2 := Ex.lex e ho.2.1 _ _ end_sp (lx_sp (lx_word (w := "in") (by decide +kernel) end_sp (lx_sp h1)))
    have q := lx_word (w := "let") (by decide +kernel) end_sp (lx_sp (lx_name ho.1 end_sp (lx_sp (lx_sign (s := "=") (by decide +kernel) (.inr end_sp) (lx_sp h2)))))
    simpa [Ex.toks, Ex.show, tl_append, l_let, l_eq, l_in] using q
  | .ite c e f, ho, ts, r, he, h => by
    have h1 := Ex.lex f ho.2.2 ts r he h
    have h2 := Ex.lex e ho.2.1 _ _ end_sp (lx_sp (lx_word (w := "else") (by decide +kernel) end_sp (lx_sp h1)))
    have h3 := Ex.lex c ho.1 _ _ end_sp (lx_sp (lx_word (w := "then") (by decide +kernel) end_sp (lx_sp h2)))
    have q := lx_word (w := "if") (by decide +kernel) end_sp (lx_sp h3)
    simpa [Ex.toks, Ex.show, tl_append, l_if, l_then, l_else] using q
  | .print e f, ho, ts, r, he, h => by
    have h1 := Ex.lex f ho.2 ts r he h
    have h2 := lex_at (Ex.lex e ho.1) _ _ end_sp (lx_sp (lx_sign (s := ";") (by decide +kernel) (.inr end_sp) (lx_sp h1)))
    have q := lx_word (w := "print") (by decide +kernel) end_sp (lx_sp h2)
    have e1 : (Ex.print e f).toks = .word "print" :: (e.atoks ++ .sign ";" :: f.toks) := rfl
    have e2 : (Ex.print e f).show = "print " ++ e.showA ++ " ; " ++ f.show := rfl
    rw [e1, e2]
    simpa [tl_append, l_print, l_semi] using q
  | .pair a b, ho, ts, r, he, h => by
    have hb := Ex.lex b ho.2 (Tk.sign ")" :: ts) (tl ")" ++ r) (by rw [l_rp]; exact end_rp) (lx_sign (by decide +kernel) (.inr he) h)
    have ha := Ex.lex a ho.1 (Tk.sign "," :: (b.toks ++ Tk.sign ")" :: ts)) (tl "," ++ 32 :: (tl b.show ++ (tl ")" ++ r))) (by rw [l_comma1]; exact end_cm) (lx_sign (by decide +kernel) (.inr end_sp) (lx_sp hb))
    have q := lx_sign (s := "(") (by decide +kernel) (.inl rfl) ha
    simpa [Ex.toks, Ex.show, tl_append, l_comma, l_comma1] using q
  | .asT a b, ho, ts, r, he, h => by
    have hb := Ty.lex b (Tk.sign ")" :: ts) (tl ")" ++ r) (by rw [l_rp]; exact end_rp) (lx_sign (by decide +kernel) (.inr he) h)
    have ha := Ex.lex a ho _ _ end_sp (lx_sp (lx_sign (s := ":") (by decide +kernel) (.inr end_sp) (lx_sp hb)))
    have q := lx_sign (s := "(") (by decide +kernel) (.inl rfl) ha
    simpa [Ex.toks, Ex.show, tl_append, l_colon] using q
  | .op s e f, ho, ts, r, he, h => by
    have h1 := lex_at (Ex.lex f ho.2) ts r he h
    have h2 := lex_at (Ex.lex e ho.1) _ _ end_sp (lx_sp (lx_sign s.s_in (.inr end_sp) (lx_sp h1)))
    have e1 : (Ex.op s e f).toks = e.atoks ++ .sign s.s :: f.atoks := rfl
    have e2 : (Ex.op s e f).show = e.showA ++ " " ++ s.s ++ " " ++ f.showA := rfl
    rw [e1, e2]
    simpa [tl_append, l_sp] using h2
  | .un k e, ho, ts, r, he, h => by
    have h1 := lex_at (Ex.lex e ho) ts r he h
    have h2 := lx_word k.s_in end_sp (lx_sp h1)
    have e1 : (Ex.un k e).toks = .word k.s :: e.atoks := rfl
    have e2 : (Ex.un k e).show = k.s ++ " " ++ e.showA := rfl
    rw [e1, e2]
    simpa [tl_append, l_sp] using h2
  | .put e f, ho, ts, r, he, h => by
    have h1 := lex_at (Ex.lex f ho.2) ts r he h
    have h2 := lex_at (Ex.lex e ho.1) _ _ end_sp (lx_sp h1)
    have h3 := lx_word (w := "put") (by decide +kernel) end_sp (lx_sp h2)
    have e1 : (Ex.put e f).toks = .word "put" :: (e.atoks ++ f.atoks) := rfl
    have e2 : (Ex.put e f).show = "put" ++ " " ++ (e.showA ++ " " ++ f.showA) := rfl
    rw [e1, e2]
    simpa [tl_append, l_sp] using h3
  | .call e f, ho, ts, r, he, h => by
    have h1 := lex_at (Ex.lex f ho.2) ts r he h
    have h2 := lex_at (Ex.lex e ho.1) _ _ end_sp (lx_sp h1)
    have e1 : (Ex.call e f).toks = e.atoks ++ f.atoks := rfl
    have e2 : (Ex.call e f).show = e.showA ++ " " ++ f.showA := rfl
    rw [e1, e2]
    simpa [tl_append, l_sp] using h2
theorem Ex.lexes (e : Ex) (h : e.ok) : Lex e.toks (tl e.show) := by
  have q := Ex.lex e h [] [] True.intro .nil
  rwa [List.append_nil, List.append_nil] at q
theorem Ty.lexes (t : Ty) : Lex t.toks (tl t.show) := by
  have q := Ty.lex t [] [] True.intro .nil
  rwa [List.append_nil, List.append_nil] at q
end HN
/-! S: data in the abstract heap, the reader's state. -/
namespace HN
open PySem TL L2

/-! ### heaps -/
/-- all but x is as it was -/
def But (x : Addr) (H H' : Hp) : Prop := ∀ a o, a ≠ x → H a = some o → H' a = some o
/-- the tuples are as they were -/
def Tups (H H' : Hp) : Prop := ∀ a xs, H a = some (.tup xs) → H' a = some (.tup xs)
theorem But.refl {x : Addr} {H : Hp} : But x H H := fun _ _ _ h => h
theorem But.of {x : Addr} {H H' : Hp} (h : Same H H') : But x H H' := fun a o _ e => h a o e
theorem But.trans {x : Addr} {H H1 H2 : Hp} (a : But x H H1) (b : But x H1 H2) : But x H H2 := fun c o n h => b c o n (a c o n h)
theorem But.same {x : Addr} {H H1 H2 : Hp} (a : But x H H1) (b : Same H1 H2) : But x H H2 := fun c o n h => b c o (a c o n h)
theorem But.self {x : Addr} {H : Hp} {o : HO} : But x H (upd H x o) := fun a u n h => by rw [upd_ne n]; exact h
theorem same_new {H : Hp} {p : Addr} {o : HO} (h : H p = none) : Same H (upd H p o) := fun b u q => by rw [upd_ne (ne_of_none q h)]; exact q
theorem Tups.refl {H : Hp} : Tups H H := fun _ _ h => h
theorem Tups.trans {H H1 H2 : Hp} (a : Tups H H1) (b : Tups H1 H2) : Tups H H2 := fun c o h => b c o (a c o h)
theorem Tups.of {H H' : Hp} (h : Same H H') : Tups H H' := fun a xs e => h a _ e
theorem But.tups {x : Addr} {H H' : Hp} {o : HO} (b : But x H H') (h : H x = some o) (n : ∀ xs, o ≠ .tup xs) : Tups H H' := fun a xs e => b a _ (fun q => by rw [q, h] at e; exact n xs (Option.some.inj e)) e

/-! ### data -/
mutual
inductive Has (H : Hp) : PyData → V → Prop where
  | bl (b : Bool) : Has H (.bool b) (.bl b)
  | int (i : Int) : Has H (.int i) (.int i)
  | str (x : Str) : Has H (.str x) (.str x)
  | tup {a : Addr} {ds : List PyData} {xs : List V} : H a = some (.tup xs) → HasAll H ds xs → Has H (.tuple ds) (.ref a)
inductive HasAll (H : Hp) : List PyData → List V → Prop where
  | nil : HasAll H [] []
  | cons {d : PyData} {ds : List PyData} {v : V} {vs : List V} : Has H d v → HasAll H ds vs → HasAll H (d :: ds) (v :: vs)
end
mutual
theorem Has.keep {H H' : Hp} (k : Tups H H') : ∀ {d : PyData} {v : V}, Has H d v → Has H' d v
  | _, _, .bl b => .bl b
  | _, _, .int i => .int i
  | _, _, .str x => .str x
  | _, _, .tup e h => .tup (k _ _ e) (HasAll.keep k h)
theorem HasAll.keep {H H' : Hp} (k : Tups H H') : ∀ {ds : List PyData} {vs : List V}, HasAll H ds vs → HasAll H' ds vs
  | _, _, .nil => .nil
  | _, _, .cons h t => .cons (Has.keep k h) (HasAll.keep k t)
end
theorem HasAll.length {H : Hp} : ∀ {ds : List PyData} {vs : List V}, HasAll H ds vs → ds.length = vs.length
  | _, _, .nil => rfl
  | _, _, .cons _ t => by rw [List.length_cons, List.length_cons, HasAll.length t]
theorem HasAll.get {H : Hp} : ∀ {ds : List PyData} {vs : List V} {i : Nat} {d : PyData}, HasAll H ds vs → ds[i]? = some d → ∃ v, vs[i]? = some v ∧ Has H d v
  | _, _, _, _, .nil, e => by simp at e
  | _, _, 0, _, .cons h _, e => by simp at e; subst e; exact ⟨_, rfl, h⟩
  | _, _, i + 1, d, .cons _ t, e => by
    obtain ⟨v, h1, h2⟩ := HasAll.get (i := i) (d := d) t (by simpa using e)
    exact ⟨v, by simpa using h1, h2⟩
theorem Has.inv {H : Hp} {ds : List PyData} {v : V} (h : Has H (.tuple ds) v) : ∃ a xs, v = .ref a ∧ H a = some (.tup xs) ∧ HasAll H ds xs := by
  cases h with
  | tup e h => exact ⟨_, _, rfl, e, h⟩
theorem Has.inv1 {H : Hp} {k : Str} {v : V} (h : Has H (.tuple [.str k]) v) : ∃ a, v = .ref a ∧ H a = some (.tup [.str k]) := by
  obtain ⟨a, xs, rfl, e, t⟩ := h.inv
  cases t with
  | cons h0 t => cases h0; cases t; exact ⟨a, rfl, e⟩
theorem Has.inv2 {H : Hp} {k : Str} {d : PyData} {v : V} (h : Has H (.tuple [.str k, d]) v) : ∃ a w, v = .ref a ∧ H a = some (.tup [.str k, w]) ∧ Has H d w := by
  obtain ⟨a, xs, rfl, e, t⟩ := h.inv
  cases t with
  | cons h0 t =>
    cases h0
    cases t with
    | cons h1 t => cases t; exact ⟨a, _, rfl, e, h1⟩
theorem Has.inv3 {H : Hp} {k : Str} {d d' : PyData} {v : V} (h : Has H (.tuple [.str k, d, d']) v) : ∃ a w w', v = .ref a ∧ H a = some (.tup [.str k, w, w']) ∧ Has H d w ∧ Has H d' w' := by
  obtain ⟨a, xs, rfl, e, t⟩ := h.inv
  cases t with
  | cons h0 t =>
    cases h0
    cases t with
    | cons h1 t =>
      cases t with
      | cons h2 t => cases t; exact ⟨a, _, _, rfl, e, h1, h2⟩
theorem Has.inv4 {H : Hp} {k : Str} {d d' d2 : PyData} {v : V} (h : Has H (.tuple [.str k, d, d', d2]) v) : ∃ a w w' w2, v = .ref a ∧ H a = some (.tup [.str k, w, w', w2]) ∧ Has H d w ∧ Has H d' w' ∧ Has H d2 w2 := by
  obtain ⟨a, xs, rfl, e, t⟩ := h.inv
  cases t with
  | cons h0 t =>
    cases h0
    cases t with
    | cons h1 t =>
      cases t with
      | cons h2 t =>
        cases t with
        | cons h3 t => cases t; exact ⟨a, _, _, _, rfl, e, h1, h2, h3⟩
theorem Has.inv6 {H : Hp} {k x y : Str} {d d' d2 : PyData} {v : V} (h : Has H (.tuple [.str k, .str x, .str y, d, d', d2]) v) :
    ∃ a w w' w2, v = .ref a ∧ H a = some (.tup [.str k, .str x, .str y, w, w', w2]) ∧ Has H d w ∧ Has H d' w' ∧ Has H d2 w2 := by
  obtain ⟨a, xs, rfl, e, t⟩ := h.inv
  cases t with
  | cons h0 t =>
    cases h0
    cases t with
    | cons h1 t =>
      cases h1
      cases t with
      | cons h2 t =>
        cases h2
        cases t with
        | cons h3 t =>
          cases t with
          | cons h4 t =>
            cases t with
            | cons h5 t => cases t; exact ⟨a, _, _, _, rfl, e, h3, h4, h5⟩
theorem Has.str_inv {H : Hp} {x : Str} {v : V} (h : Has H (.str x) v) : v = .str x := by cases h; rfl
theorem Has.int_inv {H : Hp} {x : Int} {v : V} (h : Has H (.int x) v) : v = .int x := by cases h; rfl
theorem Has.bl_inv {H : Hp} {x : Bool} {v : V} (h : Has H (.bool x) v) : v = .bl x := by cases h; rfl
theorem Has.mk {H : Hp} {a : Addr} {ds : List PyData} {xs : List V} (e : H a = some (.tup xs)) (h : HasAll H ds xs) : Has H (.tuple ds) (.ref a) := .tup e h
mutual
theorem Has.dp {K : PySem.W.Frag} {H : Hp} : ∀ {d : PyData} {v : V}, Has H d v → Dp K H v d
  | _, _, .bl b => .bl b
  | _, _, .int i => .int i
  | _, _, .str x => .str x
  | _, _, .tup e h => .tup (.inl (.inl e)) (HasAll.dp h)
theorem HasAll.dp {K : PySem.W.Frag} {H : Hp} : ∀ {ds : List PyData} {vs : List V}, HasAll H ds vs → DpAll K H vs ds
  | _, _, .nil => .nil
  | _, _, .cons h t => .cons (Has.dp h) (HasAll.dp t)
end
theorem SqT.of {K : PySem.W.Frag} {H : Hp} {a : Addr} {xs : List V} (h : H a = some (.tup xs)) : SqT K H a xs := .inl (.inl h)
/-- a tree with its depth -/
def HasP (H : Hp) (d : PyData) (n : Nat) (v : V) : Prop := ∃ a w, v = .ref a ∧ H a = some (.tup [w, .int n]) ∧ Has H d w
theorem HasP.keep {H H' : Hp} {d : PyData} {n : Nat} {v : V} (h : HasP H d n v) (k : Tups H H') : HasP H' d n v := by
  obtain ⟨a, w, rfl, e, hw⟩ := h
  exact ⟨a, w, rfl, k _ _ e, hw.keep k⟩

/-! ### the reader -/
theorem fn1 : ¬ (("length" : Str) = "tokens") := by decide +kernel
theorem fn2 : ¬ (("position" : Str) = "tokens") := by decide +kernel
theorem fn3 : ¬ (("opened" : Str) = "tokens") := by decide +kernel
theorem fn4 : ¬ (("position" : Str) = "length") := by decide +kernel
theorem fn5 : ¬ (("opened" : Str) = "length") := by decide +kernel
theorem fn6 : ¬ (("opened" : Str) = "position") := by decide +kernel
def rf (L : Addr) (n p o : Int) : List (Str × V) := putF "opened" (.int o) (putF "position" (.int p) (putF "length" (.int n) (putF "tokens" (.ref L) [])))
theorem rf_eq (L : Addr) (n p o : Int) : rf L n p o = ([("tokens", V.ref L), ("length", V.int n), ("position", V.int p), ("opened", V.int o)] : List (Str × V)) := by
  unfold rf
  simp only [putF, Ne.symm fn1, Ne.symm fn2, Ne.symm fn3, Ne.symm fn4, Ne.symm fn5, Ne.symm fn6, if_false]
theorem rf_tok (L : Addr) (n p o : Int) : (rf L n p o).lookup ("tokens" : Str) = some (.ref L) := by
  unfold rf
  rw [lookup_putF, if_neg (Ne.symm fn3), lookup_putF, if_neg (Ne.symm fn2), lookup_putF, if_neg (Ne.symm fn1), lookup_putF, if_pos rfl]
theorem rf_len (L : Addr) (n p o : Int) : (rf L n p o).lookup ("length" : Str) = some (.int n) := by
  unfold rf
  rw [lookup_putF, if_neg (Ne.symm fn5), lookup_putF, if_neg (Ne.symm fn4), lookup_putF, if_pos rfl]
theorem rf_pos (L : Addr) (n p o : Int) : (rf L n p o).lookup ("position" : Str) = some (.int p) := by
  unfold rf
  rw [lookup_putF, if_neg (Ne.symm fn6), lookup_putF, if_pos rfl]
theorem rf_opn (L : Addr) (n p o : Int) : (rf L n p o).lookup ("opened" : Str) = some (.int o) := by
  unfold rf
  rw [lookup_putF, if_pos rfl]
def noF (m : Str) : Bool := !decide (m = "tokens") && !decide (m = "length") && !decide (m = "position") && !decide (m = "opened")
theorem rf_no (L : Addr) (n p o : Int) {m : Str} (h : noF m = true) : (rf L n p o).lookup m = none := by
  unfold noF at h
  simp only [Bool.and_eq_true, Bool.not_eq_true', decide_eq_false_iff_not] at h
  obtain ⟨⟨⟨h1, h2⟩, h3⟩, h4⟩ := h
  unfold rf
  rw [lookup_putF, if_neg h4, lookup_putF, if_neg h3, lookup_putF, if_neg h2, lookup_putF, if_neg h1]
  all_goals rfl
theorem rf_put_pos (L : Addr) (n p o q : Int) : putF "position" (.int q) (rf L n p o) = rf L n q o := by
  rw [rf_eq, rf_eq]
  simp only [putF, Ne.symm fn2, Ne.symm fn4, if_false, if_true]
theorem rf_put_opn (L : Addr) (n p o q : Int) : putF "opened" (.int q) (rf L n p o) = rf L n p q := by
  rw [rf_eq, rf_eq]
  simp only [putF, Ne.symm fn3, Ne.symm fn5, Ne.symm fn6, if_false, if_true]
theorem rf_size (L : Addr) (n p o : Int) : (rf L n p o).length < 1000 := by
  rw [rf_eq]
  show 4 < 1000
  decide

def Tk.val : Tk → V
  | .word w => .str w | .name x => .str x | .num n => .int n | .sign s => .str s
def Tk.dat : Tk → PyData
  | .word w => .str w | .name x => .str x | .num n => .int n | .sign s => .str s
/-- a list of tokens -/
def Toks (H : Hp) (L : Addr) (ts : List Tk) : Prop := ∃ rs : List Addr, H L = some (.lst (rs.map V.ref)) ∧ rs.length = ts.length ∧ rs.length ≤ 20000 ∧ (∀ t ∈ ts, t.ok) ∧
  ∀ (i : Nat) (t : Tk), ts[i]? = some t → ∃ (r : Addr) (at_ : Int), rs[i]? = some r ∧ H r = some (.tup [.str t.kind, t.val, .int at_])
/-- the reader at x: its tokens, its place, what is open -/
def RdAt (C : Addr) (H : Hp) (x : Addr) (ts : List Tk) (p o : Nat) : Prop := ∃ (L dx : Addr) (n : Int), H x = some (.ins C dx (rf L n p o)) ∧ Toks H L ts
theorem Toks.keep {H H' : Hp} {L : Addr} {ts : List Tk} {x : Addr} {C dx : Addr} {fs : List (Str × V)} (h : Toks H L ts) (hx : H x = some (.ins C dx fs)) (k : But x H H') : Toks H' L ts := by
  obtain ⟨rs, e, l, z, ok, f⟩ := h
  refine ⟨rs, k L _ (ne_of e hx fun q => nomatch q) e, l, z, ok, fun i t ht => ?_⟩
  obtain ⟨r, a, h1, h2⟩ := f i t ht
  exact ⟨r, a, h1, k r _ (ne_of h2 hx fun q => nomatch q) h2⟩
theorem RdAt.same {C : Addr} {H H' : Hp} {x : Addr} {ts : List Tk} {p o : Nat} (h : RdAt C H x ts p o) (k : Same H H') : RdAt C H' x ts p o := by
  obtain ⟨L, dx, n, e, t⟩ := h
  exact ⟨L, dx, n, k _ _ e, t.keep e (But.of k)⟩
theorem RdAt.tups {C : Addr} {H H' : Hp} {x : Addr} {ts : List Tk} {p o : Nat} (h : RdAt C H x ts p o) (k : But x H H') : Tups H H' := by
  obtain ⟨L, dx, n, e, t⟩ := h
  exact k.tups e fun xs q => nomatch q
theorem RdAt.put {C : Addr} {H : Hp} {x : Addr} {ts : List Tk} {p o L dx : Nat} {n : Int} (e : H x = some (.ins C dx (rf L n p o))) (t : Toks H L ts) (p' o' : Nat) : RdAt C (upd H x (.ins C dx (rf L n p' o'))) x ts p' o' :=
  ⟨L, dx, n, upd_same, t.keep e But.self⟩
/-- the token at the reader's place -/
def kindAt (ts : List Tk) (p : Nat) : Str := match ts[p]? with | some t => t.kind | none => "end"
def valAt (ts : List Tk) (p : Nat) : V := match ts[p]? with | some t => t.val | none => .str ""
def datAt (ts : List Tk) (p : Nat) : PyData := match ts[p]? with | some t => t.dat | none => .str ""
def isTk (t : Option Tk) (k v : Str) : Bool := match t with
  | some t => t.kind == k && PyData.eqv t.dat (.str v)
  | none => (("end" : Str) == k) && (("" : Str) == v)
theorem words_ok : words.all PyData.strOk = true := by decide +kernel
theorem signs_ok : signs.all PyData.strOk = true := by decide +kernel
theorem strOk_of {x : Str} (h : ∀ c ∈ tl x, c < 1114112) : PyData.strOk x = true := by
  unfold PyData.strOk
  rw [← Array.all_toList]
  exact List.all_eq_true.mpr fun c hc => decide_eq_true (h c hc)
theorem Tk.shaped {t : Tk} (h : t.ok) {a : Str} (ha : PyData.strOk a = true) : SeqAt.shaped (.tuple [.str a, t.dat]) = true := by
  cases t with
  | word w => 
    have e := List.all_eq_true.mp words_ok w h
    simp [SeqAt.shaped, Tk.dat, PyData.canLay0, PyData.canLayAll0, PyData.depth, PyData.depthAll, ha, e]
  | sign w => 
    have e := List.all_eq_true.mp signs_ok w h
    simp [SeqAt.shaped, Tk.dat, PyData.canLay0, PyData.canLayAll0, PyData.depth, PyData.depthAll, ha, e]
  | name w => 
    have e : PyData.strOk w = true := strOk_of fun c hc => by
      have q := h.rest c hc
      unfold inner lower digit at q
      omega
    simp [SeqAt.shaped, Tk.dat, PyData.canLay0, PyData.canLayAll0, PyData.depth, PyData.depthAll, ha, e]
  | num n => simp [SeqAt.shaped, Tk.dat, PyData.canLay0, PyData.canLayAll0, PyData.depth, PyData.depthAll, ha]
theorem shaped2 {a b : Str} (ha : PyData.strOk a = true) (hb : PyData.strOk b = true) : SeqAt.shaped (.tuple [.str a, .str b]) = true := by
  simp [SeqAt.shaped, PyData.canLay0, PyData.canLayAll0, PyData.depth, PyData.depthAll, ha, hb]
theorem so_word : PyData.strOk "word" = true := by decide +kernel
theorem so_name : PyData.strOk "name" = true := by decide +kernel
theorem so_number : PyData.strOk "number" = true := by decide +kernel
theorem so_sign : PyData.strOk "sign" = true := by decide +kernel
theorem Tk.kind_ok (t : Tk) : PyData.strOk t.kind = true := by
  cases t with
  | word _ => exact so_word
  | name _ => exact so_name
  | num _ => exact so_number
  | sign _ => exact so_sign
theorem shaped_at {ts : List Tk} (p : Nat) (h : ∀ t ∈ ts, t.ok) : SeqAt.shaped (.tuple [.str (kindAt ts p), datAt ts p]) = true := by
  unfold datAt kindAt
  cases e : ts[p]? with
  | none => exact shaped2 (by decide +kernel) (by decide +kernel)
  | some t => exact Tk.shaped (h t (List.mem_of_getElem? e)) t.kind_ok
theorem RdAt.oks {C : Addr} {H : Hp} {x : Addr} {ts : List Tk} {p o : Nat} (h : RdAt C H x ts p o) : ∀ t ∈ ts, t.ok := by
  obtain ⟨_, _, _, _, _, _, _, _, ok, _⟩ := h
  exact ok
theorem has_val {H : Hp} (t : Tk) : Has H t.dat t.val := by cases t <;> constructor
/-- a method of the reader is called -/
theorem rm {K : PySem.W.Frag} {C x : Addr} {m : Str} {sp : Sp} {E : XK} {t : TA} {σ : St} {H : Hp} {Q : VK} {ts : List Tk} {p o : Nat} (h0 : σ[0]? = some (some (.ref x))) (hr : RdAt C H x ts p o) (hm : noF m = true)
    (h : t σ H fun vs H2 => sp (.ref x :: (vs ++ [])) H2 Q E) : tMeth C m sp [] E (tVar 0) t σ H Q := by
  obtain ⟨L, dx, n, e, _⟩ := hr
  exact ⟨_, h0, x, dx, _, rfl, e, rf_no _ _ _ _ hm, h⟩
end HN
/-! Defs: the text by its places, what the top has left. Printed by gen.py. -/
namespace HN
open PySem TL L2
def topS (i : Nat) : Stmt := PySem.Challenge.pw_halfnoted_k01_expressions_read_back.main.body.getD i (.Pass ⟨0, 0, 0, 0⟩)
abbrev s_m_end_of_run : Stmt := (topS 11)
abbrev s_m_number_token : Stmt := (topS 12)
abbrev s_m_word_token : Stmt := (topS 13)
abbrev s_m_sign_token : Stmt := (topS 14)
abbrev s_m_next_token : Stmt := (topS 15)
abbrev s_m_tokenize : Stmt := (topS 16)
abbrev s_r_init : Stmt := (inClass (topS 21) 0)
abbrev s_r_here : Stmt := (inClass (topS 21) 1)
abbrev s_r_fail : Stmt := (inClass (topS 21) 2)
abbrev s_r_sees : Stmt := (inClass (topS 21) 3)
abbrev s_r_take : Stmt := (inClass (topS 21) 4)
abbrev s_r_name : Stmt := (inClass (topS 21) 5)
abbrev s_r_enter : Stmt := (inClass (topS 21) 6)
abbrev s_r_made : Stmt := (inClass (topS 21) 7)
abbrev s_r_type_parts : Stmt := (inClass (topS 21) 8)
abbrev s_r_simple_type : Stmt := (inClass (topS 21) 9)
abbrev s_r_expression : Stmt := (inClass (topS 21) 10)
abbrev s_r_function : Stmt := (inClass (topS 21) 11)
abbrev s_r_recursive : Stmt := (inClass (topS 21) 12)
abbrev s_r_binding : Stmt := (inClass (topS 21) 13)
abbrev s_r_conditional : Stmt := (inClass (topS 21) 14)
abbrev s_r_comparison : Stmt := (inClass (topS 21) 15)
abbrev s_r_total : Stmt := (inClass (topS 21) 16)
abbrev s_r_product : Stmt := (inClass (topS 21) 17)
abbrev s_r_prefix : Stmt := (inClass (topS 21) 18)
abbrev s_r_starts_atom : Stmt := (inClass (topS 21) 19)
abbrev s_r_call : Stmt := (inClass (topS 21) 20)
abbrev s_r_atom : Stmt := (inClass (topS 21) 21)
abbrev s_r_enclosed : Stmt := (inClass (topS 21) 22)
abbrev s_r_finish : Stmt := (inClass (topS 21) 23)
abbrev s_m_read : Stmt := (topS 22)
abbrev s_m_read_type : Stmt := (topS 23)
abbrev s_m_show_simple : Stmt := (topS 25)
abbrev s_m_show_type : Stmt := (topS 26)
abbrev s_m_show_atom : Stmt := (topS 27)
abbrev s_m_show_binder : Stmt := (topS 28)
abbrev s_m_show_leaf : Stmt := (topS 29)
abbrev s_m_show_atoms : Stmt := (topS 30)
abbrev s_m_show : Stmt := (topS 31)
abbrev s_m_law_state : Stmt := (topS 33)
abbrev s_m_law_take : Stmt := (topS 34)
abbrev s_m_law_name : Stmt := (topS 36)
abbrev s_m_law_type : Stmt := (topS 37)
abbrev s_m_law_number : Stmt := (topS 38)
abbrev s_m_law_leaf : Stmt := (topS 39)
abbrev s_m_law_expr : Stmt := (topS 40)
abbrev s_m_law_equal : Stmt := (topS 41)
abbrev s_m_law_spread : Stmt := (topS 42)
abbrev s_m_law : Stmt := (topS 43)
theorem sc_m_end_of_run : FnScope ["text", "at", "characters"] ["text", "at", "characters"] (defScope s_m_end_of_run) := ⟨rfl, rfl, rfl, by decide +kernel, rfl, by decide +kernel, by decide +kernel⟩
theorem sc_m_number_token : FnScope ["text", "at", "end", "digits", "number"] ["text", "at"] (defScope s_m_number_token) := ⟨rfl, rfl, rfl, by decide +kernel, rfl, by decide +kernel, by decide +kernel⟩
theorem sc_m_word_token : FnScope ["text", "at", "end", "word"] ["text", "at"] (defScope s_m_word_token) := ⟨rfl, rfl, rfl, by decide +kernel, rfl, by decide +kernel, by decide +kernel⟩
theorem sc_m_sign_token : FnScope ["text", "at", "sign"] ["text", "at"] (defScope s_m_sign_token) := ⟨rfl, rfl, rfl, by decide +kernel, rfl, by decide +kernel, by decide +kernel⟩
theorem sc_m_next_token : FnScope ["text", "at"] ["text", "at"] (defScope s_m_next_token) := ⟨rfl, rfl, rfl, by decide +kernel, rfl, by decide +kernel, by decide +kernel⟩
theorem sc_m_tokenize : FnScope ["text", "tokens", "at", "token"] ["text"] (defScope s_m_tokenize) := ⟨rfl, rfl, rfl, by decide +kernel, rfl, by decide +kernel, by decide +kernel⟩
theorem sc_r_init : FnScope ["self", "text"] ["self", "text"] (defScope s_r_init) := ⟨rfl, rfl, rfl, by decide +kernel, rfl, by decide +kernel, by decide +kernel⟩
theorem sc_r_here : FnScope ["self"] ["self"] (defScope s_r_here) := ⟨rfl, rfl, rfl, by decide +kernel, rfl, by decide +kernel, by decide +kernel⟩
theorem sc_r_fail : FnScope ["self"] ["self"] (defScope s_r_fail) := ⟨rfl, rfl, rfl, by decide +kernel, rfl, by decide +kernel, by decide +kernel⟩
theorem sc_r_sees : FnScope ["self", "kind", "value"] ["self", "kind", "value"] (defScope s_r_sees) := ⟨rfl, rfl, rfl, by decide +kernel, rfl, by decide +kernel, by decide +kernel⟩
theorem sc_r_take : FnScope ["self", "kind", "value"] ["self", "kind", "value"] (defScope s_r_take) := ⟨rfl, rfl, rfl, by decide +kernel, rfl, by decide +kernel, by decide +kernel⟩
theorem sc_r_name : FnScope ["self", "kind", "value"] ["self"] (defScope s_r_name) := ⟨rfl, rfl, rfl, by decide +kernel, rfl, by decide +kernel, by decide +kernel⟩
theorem sc_r_enter : FnScope ["self"] ["self"] (defScope s_r_enter) := ⟨rfl, rfl, rfl, by decide +kernel, rfl, by decide +kernel, by decide +kernel⟩
theorem sc_r_made : FnScope ["self", "tree", "parts", "depth", "part"] ["self", "tree", "parts"] (defScope s_r_made) := ⟨rfl, rfl, rfl, by decide +kernel, rfl, by decide +kernel, by decide +kernel⟩
theorem sc_r_type_parts : FnScope ["self", "left", "right"] ["self"] (defScope s_r_type_parts) := ⟨rfl, rfl, rfl, by decide +kernel, rfl, by decide +kernel, by decide +kernel⟩
theorem sc_r_simple_type : FnScope ["self", "kind", "value", "result", "part", "other"] ["self"] (defScope s_r_simple_type) := ⟨rfl, rfl, rfl, by decide +kernel, rfl, by decide +kernel, by decide +kernel⟩
theorem sc_r_expression : FnScope ["self", "kind", "value", "result", "first", "second"] ["self"] (defScope s_r_expression) := ⟨rfl, rfl, rfl, by decide +kernel, rfl, by decide +kernel, by decide +kernel⟩
theorem sc_r_function : FnScope ["self", "name", "note", "body"] ["self"] (defScope s_r_function) := ⟨rfl, rfl, rfl, by decide +kernel, rfl, by decide +kernel, by decide +kernel⟩
theorem sc_r_recursive : FnScope ["self", "own", "name", "note", "result", "body"] ["self"] (defScope s_r_recursive) := ⟨rfl, rfl, rfl, by decide +kernel, rfl, by decide +kernel, by decide +kernel⟩
theorem sc_r_binding : FnScope ["self", "name", "first", "second"] ["self"] (defScope s_r_binding) := ⟨rfl, rfl, rfl, by decide +kernel, rfl, by decide +kernel, by decide +kernel⟩
theorem sc_r_conditional : FnScope ["self", "test", "first", "second"] ["self"] (defScope s_r_conditional) := ⟨rfl, rfl, rfl, by decide +kernel, rfl, by decide +kernel, by decide +kernel⟩
theorem sc_r_comparison : FnScope ["self", "left", "kind", "value", "right"] ["self"] (defScope s_r_comparison) := ⟨rfl, rfl, rfl, by decide +kernel, rfl, by decide +kernel, by decide +kernel⟩
theorem sc_r_total : FnScope ["self", "left", "kind", "value", "right"] ["self"] (defScope s_r_total) := ⟨rfl, rfl, rfl, by decide +kernel, rfl, by decide +kernel, by decide +kernel⟩
theorem sc_r_product : FnScope ["self", "left", "right"] ["self"] (defScope s_r_product) := ⟨rfl, rfl, rfl, by decide +kernel, rfl, by decide +kernel, by decide +kernel⟩
theorem sc_r_prefix : FnScope ["self", "kind", "value", "part", "result", "first", "second"] ["self"] (defScope s_r_prefix) := ⟨rfl, rfl, rfl, by decide +kernel, rfl, by decide +kernel, by decide +kernel⟩
theorem sc_r_starts_atom : FnScope ["self", "kind", "value"] ["self"] (defScope s_r_starts_atom) := ⟨rfl, rfl, rfl, by decide +kernel, rfl, by decide +kernel, by decide +kernel⟩
theorem sc_r_call : FnScope ["self", "left", "right"] ["self"] (defScope s_r_call) := ⟨rfl, rfl, rfl, by decide +kernel, rfl, by decide +kernel, by decide +kernel⟩
theorem sc_r_atom : FnScope ["self", "kind", "value"] ["self"] (defScope s_r_atom) := ⟨rfl, rfl, rfl, by decide +kernel, rfl, by decide +kernel, by decide +kernel⟩
theorem sc_r_enclosed : FnScope ["self", "result", "note", "other"] ["self"] (defScope s_r_enclosed) := ⟨rfl, rfl, rfl, by decide +kernel, rfl, by decide +kernel, by decide +kernel⟩
theorem sc_r_finish : FnScope ["self"] ["self"] (defScope s_r_finish) := ⟨rfl, rfl, rfl, by decide +kernel, rfl, by decide +kernel, by decide +kernel⟩
theorem sc_m_read : FnScope ["text", "reader", "result"] ["text"] (defScope s_m_read) := ⟨rfl, rfl, rfl, by decide +kernel, rfl, by decide +kernel, by decide +kernel⟩
theorem sc_m_read_type : FnScope ["text", "reader", "result"] ["text"] (defScope s_m_read_type) := ⟨rfl, rfl, rfl, by decide +kernel, rfl, by decide +kernel, by decide +kernel⟩
theorem sc_m_show_simple : FnScope ["known", "text"] ["known"] (defScope s_m_show_simple) := ⟨rfl, rfl, rfl, by decide +kernel, rfl, by decide +kernel, by decide +kernel⟩
theorem sc_m_show_type : FnScope ["known", "kind"] ["known"] (defScope s_m_show_type) := ⟨rfl, rfl, rfl, by decide +kernel, rfl, by decide +kernel, by decide +kernel⟩
theorem sc_m_show_atom : FnScope ["expression", "text"] ["expression"] (defScope s_m_show_atom) := ⟨rfl, rfl, rfl, by decide +kernel, rfl, by decide +kernel, by decide +kernel⟩
theorem sc_m_show_binder : FnScope ["expression", "kind", "name", "note", "body", "own", "result"] ["expression"] (defScope s_m_show_binder) := ⟨rfl, rfl, rfl, by decide +kernel, rfl, by decide +kernel, by decide +kernel⟩
theorem sc_m_show_leaf : FnScope ["expression", "kind"] ["expression"] (defScope s_m_show_leaf) := ⟨rfl, rfl, rfl, by decide +kernel, rfl, by decide +kernel, by decide +kernel⟩
theorem sc_m_show_atoms : FnScope ["expression", "kind", "atoms", "part"] ["expression"] (defScope s_m_show_atoms) := ⟨rfl, rfl, rfl, by decide +kernel, rfl, by decide +kernel, by decide +kernel⟩
theorem sc_m_show : FnScope ["expression", "kind", "parts", "part"] ["expression"] (defScope s_m_show) := ⟨rfl, rfl, rfl, by decide +kernel, rfl, by decide +kernel, by decide +kernel⟩
theorem sc_m_law_state : FnScope ["_law_script", "_law_cells", "_law_cell"] ["_law_script"] (defScope s_m_law_state) := ⟨rfl, rfl, rfl, by decide +kernel, rfl, by decide +kernel, by decide +kernel⟩
theorem sc_m_law_take : FnScope ["_law_state_here", "_law_most", "_law_cells", "_law_at", "_law_cell", "_law_mixed"] ["_law_state_here", "_law_most"] (defScope s_m_law_take) := ⟨rfl, rfl, rfl, by decide +kernel, rfl, by decide +kernel, by decide +kernel⟩
theorem sc_m_law_name : FnScope ["_law_state_here", "_law_letters", "_law_name_here", "_law_size", "_law_k"] ["_law_state_here"] (defScope s_m_law_name) := ⟨rfl, rfl, rfl, by decide +kernel, rfl, by decide +kernel, by decide +kernel⟩
theorem sc_m_law_type : FnScope ["_law_state_here", "_law_depth", "_law_kind", "_law_one", "_law_other"] ["_law_state_here", "_law_depth"] (defScope s_m_law_type) := ⟨rfl, rfl, rfl, by decide +kernel, rfl, by decide +kernel, by decide +kernel⟩
theorem sc_m_law_number : FnScope ["_law_state_here", "_law_number_here"] ["_law_state_here"] (defScope s_m_law_number) := ⟨rfl, rfl, rfl, by decide +kernel, rfl, by decide +kernel, by decide +kernel⟩
theorem sc_m_law_leaf : FnScope ["_law_state_here", "_law_kind"] ["_law_state_here"] (defScope s_m_law_leaf) := ⟨rfl, rfl, rfl, by decide +kernel, rfl, by decide +kernel, by decide +kernel⟩
theorem sc_m_law_expr : FnScope ["_law_state_here", "_law_depth", "_law_kind", "_law_one", "_law_two"] ["_law_state_here", "_law_depth"] (defScope s_m_law_expr) := ⟨rfl, rfl, rfl, by decide +kernel, rfl, by decide +kernel, by decide +kernel⟩
theorem sc_m_law_equal : FnScope ["_law_told", "_law_due", "_law_k"] ["_law_told", "_law_due"] (defScope s_m_law_equal) := ⟨rfl, rfl, rfl, by decide +kernel, rfl, by decide +kernel, by decide +kernel⟩
theorem sc_m_law_spread : FnScope ["_law_state_here", "_law_text", "_law_kinds", "_law_result", "_law_last", "_law_token"] ["_law_state_here", "_law_text"] (defScope s_m_law_spread) := ⟨rfl, rfl, rfl, by decide +kernel, rfl, by decide +kernel, by decide +kernel⟩
theorem sc_m_law : FnScope ["_law_script", "_law_state_here", "_law_expression", "_law_known", "_law_kept", "_law_text", "_law_words"] ["_law_script"] (defScope s_m_law) := ⟨rfl, rfl, rfl, by decide +kernel, rfl, by decide +kernel, by decide +kernel⟩
structure Env (K : PySem.W.Frag) (mg : Str → Option Value) where
  C : Addr
  cl : Cls K C
  n_tok : NoAttr K C "tokens"
  n_len : NoAttr K C "length"
  n_pos : NoAttr K C "position"
  n_opn : NoAttr K C "opened"
  mgC : mg "Reader" = some (.ref C)
  a_m_end_of_run : Addr
  d_m_end_of_run : FuncData
  F_m_end_of_run : Fun K "end_of_run" "end_of_run" s_m_end_of_run a_m_end_of_run d_m_end_of_run
  B_m_end_of_run : Binds K d_m_end_of_run ["text", "at", "characters"] []
  G_m_end_of_run : mg "end_of_run" = some (.ref a_m_end_of_run)
  a_m_number_token : Addr
  d_m_number_token : FuncData
  F_m_number_token : Fun K "number_token" "number_token" s_m_number_token a_m_number_token d_m_number_token
  B_m_number_token : Binds K d_m_number_token ["text", "at"] []
  G_m_number_token : mg "number_token" = some (.ref a_m_number_token)
  a_m_word_token : Addr
  d_m_word_token : FuncData
  F_m_word_token : Fun K "word_token" "word_token" s_m_word_token a_m_word_token d_m_word_token
  B_m_word_token : Binds K d_m_word_token ["text", "at"] []
  G_m_word_token : mg "word_token" = some (.ref a_m_word_token)
  a_m_sign_token : Addr
  d_m_sign_token : FuncData
  F_m_sign_token : Fun K "sign_token" "sign_token" s_m_sign_token a_m_sign_token d_m_sign_token
  B_m_sign_token : Binds K d_m_sign_token ["text", "at"] []
  G_m_sign_token : mg "sign_token" = some (.ref a_m_sign_token)
  a_m_next_token : Addr
  d_m_next_token : FuncData
  F_m_next_token : Fun K "next_token" "next_token" s_m_next_token a_m_next_token d_m_next_token
  B_m_next_token : Binds K d_m_next_token ["text", "at"] []
  G_m_next_token : mg "next_token" = some (.ref a_m_next_token)
  a_m_tokenize : Addr
  d_m_tokenize : FuncData
  F_m_tokenize : Fun K "tokenize" "tokenize" s_m_tokenize a_m_tokenize d_m_tokenize
  B_m_tokenize : Binds K d_m_tokenize ["text"] []
  G_m_tokenize : mg "tokenize" = some (.ref a_m_tokenize)
  a_r_init : Addr
  d_r_init : FuncData
  F_r_init : Fun K "__init__" "Reader.__init__" s_r_init a_r_init d_r_init
  B_r_init : Binds K d_r_init ["self", "text"] []
  a_r_here : Addr
  d_r_here : FuncData
  F_r_here : Fun K "here" "Reader.here" s_r_here a_r_here d_r_here
  B_r_here : Binds K d_r_here ["self"] []
  M_r_here : Meth K C "here" a_r_here
  a_r_fail : Addr
  d_r_fail : FuncData
  F_r_fail : Fun K "fail" "Reader.fail" s_r_fail a_r_fail d_r_fail
  B_r_fail : Binds K d_r_fail ["self"] []
  M_r_fail : Meth K C "fail" a_r_fail
  a_r_sees : Addr
  d_r_sees : FuncData
  F_r_sees : Fun K "sees" "Reader.sees" s_r_sees a_r_sees d_r_sees
  B_r_sees : Binds K d_r_sees ["self", "kind", "value"] []
  M_r_sees : Meth K C "sees" a_r_sees
  a_r_take : Addr
  d_r_take : FuncData
  F_r_take : Fun K "take" "Reader.take" s_r_take a_r_take d_r_take
  B_r_take : Binds K d_r_take ["self", "kind", "value"] []
  M_r_take : Meth K C "take" a_r_take
  a_r_name : Addr
  d_r_name : FuncData
  F_r_name : Fun K "name" "Reader.name" s_r_name a_r_name d_r_name
  B_r_name : Binds K d_r_name ["self"] []
  M_r_name : Meth K C "name" a_r_name
  a_r_enter : Addr
  d_r_enter : FuncData
  F_r_enter : Fun K "enter" "Reader.enter" s_r_enter a_r_enter d_r_enter
  B_r_enter : Binds K d_r_enter ["self"] []
  M_r_enter : Meth K C "enter" a_r_enter
  a_r_made : Addr
  d_r_made : FuncData
  F_r_made : Fun K "made" "Reader.made" s_r_made a_r_made d_r_made
  B_r_made : Binds K d_r_made ["self", "tree", "parts"] []
  M_r_made : Meth K C "made" a_r_made
  a_r_type_parts : Addr
  d_r_type_parts : FuncData
  F_r_type_parts : Fun K "type_parts" "Reader.type_parts" s_r_type_parts a_r_type_parts d_r_type_parts
  B_r_type_parts : Binds K d_r_type_parts ["self"] []
  M_r_type_parts : Meth K C "type_parts" a_r_type_parts
  a_r_simple_type : Addr
  d_r_simple_type : FuncData
  F_r_simple_type : Fun K "simple_type" "Reader.simple_type" s_r_simple_type a_r_simple_type d_r_simple_type
  B_r_simple_type : Binds K d_r_simple_type ["self"] []
  M_r_simple_type : Meth K C "simple_type" a_r_simple_type
  a_r_expression : Addr
  d_r_expression : FuncData
  F_r_expression : Fun K "expression" "Reader.expression" s_r_expression a_r_expression d_r_expression
  B_r_expression : Binds K d_r_expression ["self"] []
  M_r_expression : Meth K C "expression" a_r_expression
  a_r_function : Addr
  d_r_function : FuncData
  F_r_function : Fun K "function" "Reader.function" s_r_function a_r_function d_r_function
  B_r_function : Binds K d_r_function ["self"] []
  M_r_function : Meth K C "function" a_r_function
  a_r_recursive : Addr
  d_r_recursive : FuncData
  F_r_recursive : Fun K "recursive" "Reader.recursive" s_r_recursive a_r_recursive d_r_recursive
  B_r_recursive : Binds K d_r_recursive ["self"] []
  M_r_recursive : Meth K C "recursive" a_r_recursive
  a_r_binding : Addr
  d_r_binding : FuncData
  F_r_binding : Fun K "binding" "Reader.binding" s_r_binding a_r_binding d_r_binding
  B_r_binding : Binds K d_r_binding ["self"] []
  M_r_binding : Meth K C "binding" a_r_binding
  a_r_conditional : Addr
  d_r_conditional : FuncData
  F_r_conditional : Fun K "conditional" "Reader.conditional" s_r_conditional a_r_conditional d_r_conditional
  B_r_conditional : Binds K d_r_conditional ["self"] []
  M_r_conditional : Meth K C "conditional" a_r_conditional
  a_r_comparison : Addr
  d_r_comparison : FuncData
  F_r_comparison : Fun K "comparison" "Reader.comparison" s_r_comparison a_r_comparison d_r_comparison
  B_r_comparison : Binds K d_r_comparison ["self"] []
  M_r_comparison : Meth K C "comparison" a_r_comparison
  a_r_total : Addr
  d_r_total : FuncData
  F_r_total : Fun K "total" "Reader.total" s_r_total a_r_total d_r_total
  B_r_total : Binds K d_r_total ["self"] []
  M_r_total : Meth K C "total" a_r_total
  a_r_product : Addr
  d_r_product : FuncData
  F_r_product : Fun K "product" "Reader.product" s_r_product a_r_product d_r_product
  B_r_product : Binds K d_r_product ["self"] []
  M_r_product : Meth K C "product" a_r_product
  a_r_prefix : Addr
  d_r_prefix : FuncData
  F_r_prefix : Fun K "prefix" "Reader.prefix" s_r_prefix a_r_prefix d_r_prefix
  B_r_prefix : Binds K d_r_prefix ["self"] []
  M_r_prefix : Meth K C "prefix" a_r_prefix
  a_r_starts_atom : Addr
  d_r_starts_atom : FuncData
  F_r_starts_atom : Fun K "starts_atom" "Reader.starts_atom" s_r_starts_atom a_r_starts_atom d_r_starts_atom
  B_r_starts_atom : Binds K d_r_starts_atom ["self"] []
  M_r_starts_atom : Meth K C "starts_atom" a_r_starts_atom
  a_r_call : Addr
  d_r_call : FuncData
  F_r_call : Fun K "call" "Reader.call" s_r_call a_r_call d_r_call
  B_r_call : Binds K d_r_call ["self"] []
  M_r_call : Meth K C "call" a_r_call
  a_r_atom : Addr
  d_r_atom : FuncData
  F_r_atom : Fun K "atom" "Reader.atom" s_r_atom a_r_atom d_r_atom
  B_r_atom : Binds K d_r_atom ["self"] []
  M_r_atom : Meth K C "atom" a_r_atom
  a_r_enclosed : Addr
  d_r_enclosed : FuncData
  F_r_enclosed : Fun K "enclosed" "Reader.enclosed" s_r_enclosed a_r_enclosed d_r_enclosed
  B_r_enclosed : Binds K d_r_enclosed ["self"] []
  M_r_enclosed : Meth K C "enclosed" a_r_enclosed
  a_r_finish : Addr
  d_r_finish : FuncData
  F_r_finish : Fun K "finish" "Reader.finish" s_r_finish a_r_finish d_r_finish
  B_r_finish : Binds K d_r_finish ["self"] []
  M_r_finish : Meth K C "finish" a_r_finish
  a_m_read : Addr
  d_m_read : FuncData
  F_m_read : Fun K "read" "read" s_m_read a_m_read d_m_read
  B_m_read : Binds K d_m_read ["text"] []
  G_m_read : mg "read" = some (.ref a_m_read)
  a_m_read_type : Addr
  d_m_read_type : FuncData
  F_m_read_type : Fun K "read_type" "read_type" s_m_read_type a_m_read_type d_m_read_type
  B_m_read_type : Binds K d_m_read_type ["text"] []
  G_m_read_type : mg "read_type" = some (.ref a_m_read_type)
  a_m_show_simple : Addr
  d_m_show_simple : FuncData
  F_m_show_simple : Fun K "show_simple" "show_simple" s_m_show_simple a_m_show_simple d_m_show_simple
  B_m_show_simple : Binds K d_m_show_simple ["known"] []
  G_m_show_simple : mg "show_simple" = some (.ref a_m_show_simple)
  a_m_show_type : Addr
  d_m_show_type : FuncData
  F_m_show_type : Fun K "show_type" "show_type" s_m_show_type a_m_show_type d_m_show_type
  B_m_show_type : Binds K d_m_show_type ["known"] []
  G_m_show_type : mg "show_type" = some (.ref a_m_show_type)
  a_m_show_atom : Addr
  d_m_show_atom : FuncData
  F_m_show_atom : Fun K "show_atom" "show_atom" s_m_show_atom a_m_show_atom d_m_show_atom
  B_m_show_atom : Binds K d_m_show_atom ["expression"] []
  G_m_show_atom : mg "show_atom" = some (.ref a_m_show_atom)
  a_m_show_binder : Addr
  d_m_show_binder : FuncData
  F_m_show_binder : Fun K "show_binder" "show_binder" s_m_show_binder a_m_show_binder d_m_show_binder
  B_m_show_binder : Binds K d_m_show_binder ["expression"] []
  G_m_show_binder : mg "show_binder" = some (.ref a_m_show_binder)
  a_m_show_leaf : Addr
  d_m_show_leaf : FuncData
  F_m_show_leaf : Fun K "show_leaf" "show_leaf" s_m_show_leaf a_m_show_leaf d_m_show_leaf
  B_m_show_leaf : Binds K d_m_show_leaf ["expression"] []
  G_m_show_leaf : mg "show_leaf" = some (.ref a_m_show_leaf)
  a_m_show_atoms : Addr
  d_m_show_atoms : FuncData
  F_m_show_atoms : Fun K "show_atoms" "show_atoms" s_m_show_atoms a_m_show_atoms d_m_show_atoms
  B_m_show_atoms : Binds K d_m_show_atoms ["expression"] []
  G_m_show_atoms : mg "show_atoms" = some (.ref a_m_show_atoms)
  a_m_show : Addr
  d_m_show : FuncData
  F_m_show : Fun K "show" "show" s_m_show a_m_show d_m_show
  B_m_show : Binds K d_m_show ["expression"] []
  G_m_show : mg "show" = some (.ref a_m_show)
  a_m_law_state : Addr
  d_m_law_state : FuncData
  F_m_law_state : Fun K "_law_state" "_law_state" s_m_law_state a_m_law_state d_m_law_state
  B_m_law_state : Binds K d_m_law_state ["_law_script"] []
  G_m_law_state : mg "_law_state" = some (.ref a_m_law_state)
  a_m_law_take : Addr
  d_m_law_take : FuncData
  F_m_law_take : Fun K "_law_take" "_law_take" s_m_law_take a_m_law_take d_m_law_take
  B_m_law_take : Binds K d_m_law_take ["_law_state_here", "_law_most"] []
  G_m_law_take : mg "_law_take" = some (.ref a_m_law_take)
  a_m_law_name : Addr
  d_m_law_name : FuncData
  F_m_law_name : Fun K "_law_name" "_law_name" s_m_law_name a_m_law_name d_m_law_name
  B_m_law_name : Binds K d_m_law_name ["_law_state_here"] []
  G_m_law_name : mg "_law_name" = some (.ref a_m_law_name)
  a_m_law_type : Addr
  d_m_law_type : FuncData
  F_m_law_type : Fun K "_law_type" "_law_type" s_m_law_type a_m_law_type d_m_law_type
  B_m_law_type : Binds K d_m_law_type ["_law_state_here", "_law_depth"] []
  G_m_law_type : mg "_law_type" = some (.ref a_m_law_type)
  a_m_law_number : Addr
  d_m_law_number : FuncData
  F_m_law_number : Fun K "_law_number" "_law_number" s_m_law_number a_m_law_number d_m_law_number
  B_m_law_number : Binds K d_m_law_number ["_law_state_here"] []
  G_m_law_number : mg "_law_number" = some (.ref a_m_law_number)
  a_m_law_leaf : Addr
  d_m_law_leaf : FuncData
  F_m_law_leaf : Fun K "_law_leaf" "_law_leaf" s_m_law_leaf a_m_law_leaf d_m_law_leaf
  B_m_law_leaf : Binds K d_m_law_leaf ["_law_state_here"] []
  G_m_law_leaf : mg "_law_leaf" = some (.ref a_m_law_leaf)
  a_m_law_expr : Addr
  d_m_law_expr : FuncData
  F_m_law_expr : Fun K "_law_expr" "_law_expr" s_m_law_expr a_m_law_expr d_m_law_expr
  B_m_law_expr : Binds K d_m_law_expr ["_law_state_here", "_law_depth"] []
  G_m_law_expr : mg "_law_expr" = some (.ref a_m_law_expr)
  a_m_law_equal : Addr
  d_m_law_equal : FuncData
  F_m_law_equal : Fun K "_law_equal" "_law_equal" s_m_law_equal a_m_law_equal d_m_law_equal
  B_m_law_equal : Binds K d_m_law_equal ["_law_told", "_law_due"] []
  G_m_law_equal : mg "_law_equal" = some (.ref a_m_law_equal)
  a_m_law_spread : Addr
  d_m_law_spread : FuncData
  F_m_law_spread : Fun K "_law_spread" "_law_spread" s_m_law_spread a_m_law_spread d_m_law_spread
  B_m_law_spread : Binds K d_m_law_spread ["_law_state_here", "_law_text"] []
  G_m_law_spread : mg "_law_spread" = some (.ref a_m_law_spread)
  a_m_law : Addr
  d_m_law : FuncData
  F_m_law : Fun K "law" "law" s_m_law a_m_law d_m_law
  B_m_law : Binds K d_m_law ["_law_script"] []
  G_m_law : mg "law" = some (.ref a_m_law)
  mkC : Mk K C a_r_init
  z_len : mg "len" = none
  z_max : mg "max" = none
  z_int : mg "int" = none
  z_str : mg "str" = none
  z_isinstance : mg "isinstance" = none
  z_tuple : mg "tuple" = none
  z_range : mg "range" = none
  z_repr : mg "repr" = none
  z_abs : mg "abs" = none
  z_bool : mg "bool" = none
  t_MAX_TEXT : Tok
  g_MAX_TEXT : mg "MAX_TEXT" = some (.int 10000 t_MAX_TEXT)
  t_MAX_NAME : Tok
  g_MAX_NAME : mg "MAX_NAME" = some (.int 20 t_MAX_NAME)
  a_WORDS : Addr
  g_WORDS : mg "WORDS" = some (.ref a_WORDS)
  k_WORDS : ∀ H : Hp, SqT K H a_WORDS ((["any", "as", "bool", "box", "else", "false", "fst", "fun", "get", "if", "in", "int", "let", "not", "print", "put", "rec", "snd", "then", "true", "unit"] : List Str).map V.str)
  a_SIGNS : Addr
  g_SIGNS : mg "SIGNS" = some (.ref a_SIGNS)
  k_SIGNS : ∀ H : Hp, SqT K H a_SIGNS ((["=>", "->", "==", "(", ")", ",", ":", ";", "=", "+", "-", "*", "<"] : List Str).map V.str)
  t_LETTERS : Tok
  g_LETTERS : mg "LETTERS" = some (.str "abcdefghijklmnopqrstuvwxyz" t_LETTERS)
  t_DIGITS : Tok
  g_DIGITS : mg "DIGITS" = some (.str "0123456789" t_DIGITS)
  t_MAX_DEPTH : Tok
  g_MAX_DEPTH : mg "MAX_DEPTH" = some (.int 60 t_MAX_DEPTH)
  a_SIMPLE_TYPES : Addr
  g_SIMPLE_TYPES : mg "SIMPLE_TYPES" = some (.ref a_SIMPLE_TYPES)
  k_SIMPLE_TYPES : ∀ H : Hp, SqT K H a_SIMPLE_TYPES ((["int", "bool", "unit", "any"] : List Str).map V.str)
  a_PREFIXES : Addr
  g_PREFIXES : mg "PREFIXES" = some (.ref a_PREFIXES)
  k_PREFIXES : ∀ H : Hp, SqT K H a_PREFIXES ((["fst", "snd", "box", "get", "not"] : List Str).map V.str)
end HN
/-! R1: the reader's small methods. -/
namespace HN
open PySem TL L2
section
variable {P : Program} {w : World} {K : PySem.W.Frag} {mg : Str → Option Value} {base : Heap}
def spHere (C : Addr) : Sp := fun vs H Q _ => ∃ (x : Addr) (ts : List Tk) (p o : Nat), vs = [.ref x] ∧ RdAt C H x ts p o ∧ ∀ (r : Addr) (H' : Hp), Same H H' → H' r = some (.tup [.str (kindAt ts p), valAt ts p]) → Q (.ref r) H'
theorem ok_here (E : Env K mg) : FnOk P w K mg base CX0 1 E.a_r_here E.d_r_here ["self"] (spHere E.C) := by
  refine E.F_r_here.ok sc_r_here (fun vs H Q E' h => ?_) (fun cdv A outer s H vs Q E' hr h => ?_)
  · obtain ⟨x, ts, p, o, rfl, _⟩ := h
    rfl
  · obtain ⟨x, ts, p, o, rfl, ⟨L, dx, n, hx, rs, hL, hl, hz, _, ht⟩, q⟩ := h
    refine ⟨_, (pss_cons (ps_if (pt_cmpR op_lt (pe_fld (pv 0) rfl) (pe_callB call_len_seq (by rfl) E.z_len (by decide +kernel) (pa_cons (pe_fld (pv 0) rfl) pa_nil)) (nomark _)) (pss_one (ps_ret (pe_slice sl_tup (pe_ix ix_list (pe_fld (pv 0) rfl) (pe_fld (pv 0) rfl) (fun _ _ => rfl)) po_none (po_some pe_int)))) pss_nil)
      (pss_one (ps_ret (pe_tup (pa_cons pe_str (pa_cons pe_str pa_nil)))))), ?_⟩
    refine ⟨_, rfl, x, _, dx, _, _, rfl, hx, E.cl, E.n_pos, rf_pos _ _ _ _, _, rfl, x, _, dx, _, _, rfl, hx, E.cl, E.n_tok, rf_tok _ _ _ _, L, _, rfl, .inl (SqL.of hL), _, _, rfl, rfl, _, rfl, ?_⟩
    have e1 : (rs.map V.ref).length = ts.length := by rw [List.length_map, hl]
    refine ite2 (fun c => ?_) (fun c => ?_)
    · have c' : (p : Int) < (((rs.map V.ref).length : Nat) : Int) := of_decide_eq_true c
      rw [e1] at c'
      have hp : p < ts.length := by omega
      obtain ⟨r, at_, hr1, hr2⟩ := ht p ts[p] (List.getElem?_eq_getElem hp)
      have hi : atI (rs.map V.ref) ((p : Nat) : Int) = some (.ref r) := atI_nat (by rw [List.getElem?_map, hr1]; rfl)
      refine ⟨_, rfl, x, _, dx, _, _, rfl, hx, E.cl, E.n_tok, rf_tok _ _ _ _, _, rfl, x, _, dx, _, _, rfl, hx, E.cl, E.n_pos, rf_pos _ _ _ _, L, _, _, _, rfl, rfl, SqL.of hL, hi, _, rfl, r, _, rfl, SqT.of hr2, (by show ¬ (HT.sIx 3 0 none = 0 ∧ HT.sIx 3 3 (some 2) = 3); decide), fun a ha => ?_⟩
      refine q a _ (same_new ha) ?_
      rw [upd_same]
      have e2 : kindAt ts p = ts[p].kind := by unfold kindAt; rw [List.getElem?_eq_getElem hp]
      have e3 : valAt ts p = ts[p].val := by unfold valAt; rw [List.getElem?_eq_getElem hp]
      rw [e2, e3]
      rfl
    · have c' : ¬ (p : Int) < (((rs.map V.ref).length : Nat) : Int) := of_decide_eq_false (Bool.eq_false_iff.mpr c)
      rw [e1] at c'
      have hn : ts[p]? = none := List.getElem?_eq_none_iff.mpr (by omega)
      refine ⟨(by show 2 ≤ sizeLine; decide), fun a ha => ?_⟩
      refine q a _ (same_new ha) ?_
      rw [upd_same]
      unfold kindAt valAt
      rw [hn]

theorem nf_here : noF "here" = true := by decide +kernel
theorem nf_sees : noF "sees" = true := by decide +kernel
theorem has_at {H : Hp} (ts : List Tk) (p : Nat) : Has H (datAt ts p) (valAt ts p) := by
  unfold datAt valAt
  cases ts[p]? with
  | none => exact .str _
  | some t => exact has_val t
theorem eqv_at (ts : List Tk) (p : Nat) (k v : Str) : PyData.eqv (.tuple [.str (kindAt ts p), datAt ts p]) (.tuple [.str k, .str v]) = isTk ts[p]? k v := by
  unfold datAt kindAt isTk
  cases ts[p]? with
  | none => simp [PyData.eqv, PyData.eqvAll]
  | some t => simp [PyData.eqv, PyData.eqvAll]
def spSees (C : Addr) : Sp := fun vs H Q _ => ∃ (x : Addr) (ts : List Tk) (p o : Nat) (k v : Str), vs = [.ref x, .str k, .str v] ∧ RdAt C H x ts p o ∧ (PyData.strOk k && PyData.strOk v) = true ∧ ∀ H' : Hp, Same H H' → Q (.bl (isTk ts[p]? k v)) H'
theorem ok_sees (E : Env K mg) : FnOk P w K mg base CX0 2 E.a_r_sees E.d_r_sees ["self", "kind", "value"] (spSees E.C) := by
  refine E.F_r_sees.ok sc_r_sees (fun vs H Q E' h => ?_) (fun cdv A outer s H vs Q E' hr h => ?_)
  · obtain ⟨x, ts, p, o, k, v, rfl, _⟩ := h
    rfl
  · obtain ⟨x, ts, p, o, k, v, rfl, hR, hkv, q⟩ := h
    obtain ⟨hk, hv⟩ := Bool.and_eq_true_iff.mp hkv
    obtain ⟨L, dx, n, hx, hT⟩ := id hR
    have g_r_here := ok_here (P := P) (w := w) (base := base) E
    have h_r_here : Room 1 _ := hr
    refine ⟨_, (pss_one (ps_ret (pe_cmpR (op_eqD hr.units) (pe_meth0 (pv 0) E.cl E.M_r_here g_r_here h_r_here E.B_r_here .nil pass0) (pe_tup (pa_cons (pv 1) (pa_cons (pv 2) pa_nil))) (nomark _)))), ?_⟩
    refine ⟨_, rfl, x, dx, _, rfl, hx, rf_no _ _ _ _ nf_here, x, ts, p, o, rfl, hR, fun r H1 s1 h1 => ?_⟩
    refine ⟨_, rfl, _, rfl, (by show 2 ≤ sizeLine; decide), fun a ha => ?_⟩
    have s2 : Same H1 (upd H1 a (.tup [.str k, .str v])) := same_new ha
    have hL : Has (upd H1 a (.tup [.str k, .str v])) (.tuple [.str (kindAt ts p), datAt ts p]) (.ref r) := .tup (s2 _ _ h1) (.cons (.str _) (.cons (has_at ts p) .nil))
    have hR' : Has (upd H1 a (.tup [.str k, .str v])) (.tuple [.str k, .str v]) (.ref a) := .tup upd_same (.cons (.str _) (.cons (.str _) .nil))
    refine ⟨_, _, hL.dp, hR'.dp, shaped_at _ hR.oks, shaped2 hk hv, ?_⟩
    rw [eqv_at]
    exact q _ (s1.trans s2)

theorem RdAt.step {C : Addr} {H : Hp} {x : Addr} {ts : List Tk} {p o : Nat} {L dx : Addr} {n : Int} (e : H x = some (.ins C dx (rf L n p o))) (t : Toks H L ts) : RdAt C (upd H x (.ins C dx (putF "position" (.int ((p : Int) + 1)) (rf L n p o)))) x ts (p + 1) o := by
  rw [rf_put_pos]
  exact RdAt.put e t (p + 1) o
theorem RdAt.opn {C : Addr} {H : Hp} {x : Addr} {ts : List Tk} {p o : Nat} {L dx : Addr} {n : Int} (e : H x = some (.ins C dx (rf L n p o))) (t : Toks H L ts) : RdAt C (upd H x (.ins C dx (putF "opened" (.int ((o : Int) + 1)) (rf L n p o)))) x ts p (o + 1) := by
  rw [rf_put_opn]
  exact RdAt.put e t p (o + 1)
theorem RdAt.shut {C : Addr} {H : Hp} {x : Addr} {ts : List Tk} {p o : Nat} {L dx : Addr} {n : Int} (e : H x = some (.ins C dx (rf L n p ((o + 1 : Nat) : Int)))) (t : Toks H L ts) : RdAt C (upd H x (.ins C dx (putF "opened" (.int (((o + 1 : Nat) : Int) - 1)) (rf L n p ((o + 1 : Nat) : Int))))) x ts p o := by
  rw [rf_put_opn]
  have q : ((o + 1 : Nat) : Int) - 1 = (o : Int) := by omega
  rw [q]
  exact RdAt.put e t p o
def spTake (C : Addr) : Sp := fun vs H Q _ => ∃ (x : Addr) (ts : List Tk) (p o : Nat) (k v : Str), vs = [.ref x, .str k, .str v] ∧ RdAt C H x ts p o ∧ (PyData.strOk k && PyData.strOk v) = true ∧ isTk ts[p]? k v = true ∧ ∀ H' : Hp, But x H H' → RdAt C H' x ts (p + 1) o → Q .non H'
theorem ok_take (E : Env K mg) : FnOk P w K mg base CX0 3 E.a_r_take E.d_r_take ["self", "kind", "value"] (spTake E.C) := by
  refine E.F_r_take.ok sc_r_take (fun vs H Q E' h => ?_) (fun cdv A outer s H vs Q E' hr h => ?_)
  · obtain ⟨x, ts, p, o, k, v, rfl, _⟩ := h
    rfl
  · obtain ⟨x, ts, p, o, k, v, rfl, hR, hkv, htk, q⟩ := h
    obtain ⟨L, dx, n, hx, hT⟩ := id hR
    have g_r_sees := ok_sees (P := P) (w := w) (base := base) E
    have h_r_sees : Room 2 _ := hr
    refine ⟨_, (pss_cons (ps_if (pt_not (pt_val (pe_meth (pv 0) E.cl E.M_r_sees g_r_sees h_r_sees E.B_r_sees .nil pass0 (pa_cons (pv 1) (pa_cons (pv 2) pa_nil))))) pss_never pss_nil)
      (pss_one (ps_fldaug (pv 0) pe_int in_add))), ?_⟩
    refine ⟨_, rfl, x, dx, _, rfl, hx, rf_no _ _ _ _ nf_sees, _, rfl, _, rfl, x, ts, p, o, k, v, rfl, hR, hkv, fun H1 s1 => ?_⟩
    refine ⟨_, rfl, ?_⟩
    rw [htk]
    refine iteF ?_
    have hx1 := s1 _ _ hx
    refine ⟨_, rfl, x, E.C, dx, _, _, rfl, hx1, E.cl, E.n_pos, rf_pos _ _ _ _, _, _, rfl, rfl, dx, _, hx1, rf_size _ _ _ _, ?_⟩
    exact q _ ((But.of s1).trans But.self) (RdAt.step hx1 (hT.keep hx (But.of s1)))
theorem kind_name {ts : List Tk} {p : Nat} {t : Tk} (h : ts[p]? = some t) : kindAt ts p = t.kind := by unfold kindAt; rw [h]
theorem val_name {ts : List Tk} {p : Nat} {t : Tk} (h : ts[p]? = some t) : valAt ts p = t.val := by unfold valAt; rw [h]
def spName (C : Addr) : Sp := fun vs H Q _ => ∃ (x : Addr) (ts : List Tk) (p o : Nat) (y : Str), vs = [.ref x] ∧ RdAt C H x ts p o ∧ ts[p]? = some (.name y) ∧ ∀ H' : Hp, But x H H' → RdAt C H' x ts (p + 1) o → Q (.str y) H'
theorem ok_name (E : Env K mg) : FnOk P w K mg base CX0 2 E.a_r_name E.d_r_name ["self"] (spName E.C) := by
  refine E.F_r_name.ok sc_r_name (fun vs H Q E' h => ?_) (fun cdv A outer s H vs Q E' hr h => ?_)
  · obtain ⟨x, ts, p, o, y, rfl, _⟩ := h
    rfl
  · obtain ⟨x, ts, p, o, y, rfl, hR, htk, q⟩ := h
    obtain ⟨L, dx, n, hx, hT⟩ := id hR
    have g_r_here := ok_here (P := P) (w := w) (base := base) E
    have h_r_here : Room 1 _ := hr
    refine ⟨_, (pss_cons (ps_asg (pe_meth0 (pv 0) E.cl E.M_r_here g_r_here h_r_here E.B_r_here .nil pass0) (pg_tup rfl (pgs_cons (pg_name (i := 1) sc_r_name.nd rfl (Or.inl rfl)) (pgs_cons (pg_name (i := 2) sc_r_name.nd rfl (Or.inl rfl)) pgs_nil))))
      (pss_cons (ps_if (pt_cmpR op_ne (pv 1) pe_str (nomark _)) pss_never pss_nil)
      (pss_cons (ps_fldaug (pv 0) pe_int in_add)
      (pss_one (ps_ret (pv 2)))))), ?_⟩
    refine ⟨_, rfl, x, dx, _, rfl, hx, rf_no _ _ _ _ nf_here, x, ts, p, o, rfl, hR, fun r H1 s1 h1 => ?_⟩
    rw [kind_name htk, val_name htk] at h1
    have hx1 := s1 _ _ hx
    refine ⟨r, _, rfl, SqT.of h1, rfl, _, _, rfl, _, _, rfl, rfl, ?_⟩
    refine ⟨_, rfl, rfl, _, rfl, ?_⟩
    refine iteNS rfl ?_
    refine ⟨_, rfl, x, E.C, dx, _, _, rfl, hx1, E.cl, E.n_pos, rf_pos _ _ _ _, _, _, rfl, rfl, dx, _, hx1, rf_size _ _ _ _, ?_⟩
    refine ⟨_, rfl, ?_⟩
    exact q _ ((But.of s1).trans But.self) (RdAt.step hx1 (hT.keep hx (But.of s1)))
def spEnter (C : Addr) : Sp := fun vs H Q _ => ∃ (x : Addr) (ts : List Tk) (p o : Nat), vs = [.ref x] ∧ RdAt C H x ts p o ∧ o + 1 ≤ 60 ∧ ∀ H' : Hp, But x H H' → RdAt C H' x ts p (o + 1) → Q .non H'
theorem ok_enter (E : Env K mg) : FnOk P w K mg base CX0 1 E.a_r_enter E.d_r_enter ["self"] (spEnter E.C) := by
  refine E.F_r_enter.ok sc_r_enter (fun vs H Q E' h => ?_) (fun cdv A outer s H vs Q E' hr h => ?_)
  · obtain ⟨x, ts, p, o, rfl, _⟩ := h
    rfl
  · obtain ⟨x, ts, p, o, rfl, hR, ho, q⟩ := h
    obtain ⟨L, dx, n, hx, hT⟩ := id hR
    refine ⟨_, (pss_cons (ps_fldaug (pv 0) pe_int in_add)
      (pss_one (ps_if (pt_cmpR op_gt (pe_fld (pv 0) rfl) (pe_glob (v := .int 60) rfl E.g_MAX_DEPTH ⟨_, rfl⟩) (nomark _)) pss_never pss_nil))), ?_⟩
    refine ⟨_, rfl, x, E.C, dx, _, _, rfl, hx, E.cl, E.n_opn, rf_opn _ _ _ _, _, _, rfl, rfl, dx, _, hx, rf_size _ _ _ _, ?_⟩
    have r1 := RdAt.opn hx hT
    refine ⟨_, rfl, x, E.C, dx, _, _, rfl, upd_same, E.cl, E.n_opn, (by rw [rf_put_opn]; exact rf_opn _ _ _ _), _, _, rfl, rfl, _, rfl, ?_⟩
    have c : decide (((o : Int) + 1) > 60) = false := decide_eq_false (by omega)
    show if decide (((o : Int) + 1) > 60) = true then _ else _
    rw [c]
    refine iteF ?_
    exact q _ But.self r1
/-- an atom begins here -/
def atomB : Option Tk → Bool
  | some (.name _) => true
  | some (.num _) => true
  | some (.sign s) => s == "("
  | some (.word w) => w == "true" || w == "false" || w == "unit"
  | none => false
def spStarts (C : Addr) : Sp := fun vs H Q _ => ∃ (x : Addr) (ts : List Tk) (p o : Nat), vs = [.ref x] ∧ RdAt C H x ts p o ∧ ∀ H' : Hp, Same H H' → Q (.bl (atomB ts[p]?)) H'
def spFinish (C : Addr) : Sp := fun vs H Q _ => ∃ (x : Addr) (ts : List Tk) (p o : Nat), vs = [.ref x] ∧ RdAt C H x ts p o ∧ ts.length ≤ p ∧ Q .non H
theorem ok_finish (E : Env K mg) : FnOk P w K mg base CX0 1 E.a_r_finish E.d_r_finish ["self"] (spFinish E.C) := by
  refine E.F_r_finish.ok sc_r_finish (fun vs H Q E' h => ?_) (fun cdv A outer s H vs Q E' hr h => ?_)
  · obtain ⟨x, ts, p, o, rfl, _⟩ := h
    rfl
  · obtain ⟨x, ts, p, o, rfl, ⟨L, dx, n, hx, rs, hL, hl, hz, _, ht⟩, hp, q⟩ := h
    refine ⟨_, (pss_one (ps_if (pt_cmpR op_lt (pe_fld (pv 0) rfl) (pe_callB call_len_seq (by rfl) E.z_len (by decide +kernel) (pa_cons (pe_fld (pv 0) rfl) pa_nil)) (nomark _)) pss_never pss_nil)), ?_⟩
    refine ⟨_, rfl, x, _, dx, _, _, rfl, hx, E.cl, E.n_pos, rf_pos _ _ _ _, _, rfl, x, _, dx, _, _, rfl, hx, E.cl, E.n_tok, rf_tok _ _ _ _, L, _, rfl, .inl (SqL.of hL), _, _, rfl, rfl, _, rfl, ?_⟩
    have e1 : (rs.map V.ref).length = ts.length := by rw [List.length_map, hl]
    refine ite2 (fun c => ?_) (fun _ => ?_)
    · have c' : (p : Int) < (((rs.map V.ref).length : Nat) : Int) := of_decide_eq_true c
      rw [e1] at c'
      omega
    · exact q
end
end HN
/-! R2: the reader's made and starts_atom. -/
namespace HN
open PySem TL L2
section
variable {P : Program} {w : World} {K : PySem.W.Frag} {mg : Str → Option Value} {base : Heap}
def mx (ds : List Nat) : Nat := ds.foldr max 0
theorem mx_ge : ∀ {ds : List Nat} {d : Nat}, d ∈ ds → d ≤ mx ds
  | _ :: ds, d, h => by
    show d ≤ max _ (mx ds)
    rcases List.mem_cons.mp h with e | e
    · rw [e]; exact Nat.le_max_left _ _
    · exact Nat.le_trans (mx_ge e) (Nat.le_max_right _ _)
theorem mx_in : ∀ ds : List Nat, mx ds = 0 ∨ mx ds ∈ ds
  | [] => .inl rfl
  | d :: ds => by
    show max d (mx ds) = 0 ∨ max d (mx ds) ∈ d :: ds
    rcases Nat.le_total d (mx ds) with h | h
    · rw [Nat.max_eq_right h]
      rcases mx_in ds with e | e
      · exact .inl e
      · exact .inr (List.mem_cons_of_mem _ e)
    · rw [Nat.max_eq_left h]
      exact .inr (List.mem_cons_self ..)
theorem mx_max {ds : List Nat} {m : Int} (h : m ∈ (0 : Int) :: ds.map (fun (d : Nat) => (d : Int))) (hle : ∀ y, y ∈ (0 : Int) :: ds.map (fun (d : Nat) => (d : Int)) → y ≤ m) : m = (mx ds : Int) := by
  have h0 := hle 0 (List.mem_cons_self ..)
  have h1 : (mx ds : Int) ≤ m := by
    rcases mx_in ds with e | e
    · rw [e]; exact h0
    · exact hle _ (List.mem_cons_of_mem _ (List.mem_map.mpr ⟨_, e, rfl⟩))
  have h2 : m ≤ (mx ds : Int) := by
    rcases List.mem_cons.mp h with e | e
    · omega
    · obtain ⟨d, hd, rfl⟩ := List.mem_map.mp e
      exact Int.ofNat_le.mpr (mx_ge hd)
  omega
/-- trees with their depths -/
def Deps (H : Hp) : List Addr → List Nat → Prop
  | [], [] => True
  | r :: rs, d :: ds => (∃ u, H r = some (.tup [u, .int d])) ∧ Deps H rs ds
  | _, _ => False
theorem Deps.get {H : Hp} : ∀ {rs : List Addr} {ds : List Nat} {i : Nat} {r : Addr}, Deps H rs ds → rs[i]? = some r → ∃ (d : Nat) (u : V), ds[i]? = some d ∧ H r = some (.tup [u, .int d])
  | [], [], _, _, _, e => by simp at e
  | [], _ :: _, _, _, h, _ => h.elim
  | _ :: _, [], _, _, h, _ => h.elim
  | _ :: _, d :: _, 0, _, h, e => by
    simp at e
    subst e
    obtain ⟨⟨u, q⟩, _⟩ := h
    exact ⟨d, u, rfl, q⟩
  | _ :: _, _ :: _, i + 1, r, h, e => by
    obtain ⟨d, u, h1, h2⟩ := Deps.get (i := i) (r := r) h.2 (by simpa using e)
    exact ⟨d, u, by simpa using h1, h2⟩
theorem Deps.length {H : Hp} : ∀ {rs : List Addr} {ds : List Nat}, Deps H rs ds → rs.length = ds.length
  | [], [], _ => rfl
  | [], _ :: _, h => h.elim
  | _ :: _, [], h => h.elim
  | _ :: _, _ :: _, h => by rw [List.length_cons, List.length_cons, Deps.length h.2]
theorem Deps.keep {H H' : Hp} (k : Tups H H') : ∀ {rs : List Addr} {ds : List Nat}, Deps H rs ds → Deps H' rs ds
  | [], [], _ => True.intro
  | [], _ :: _, h => h.elim
  | _ :: _, [], h => h.elim
  | _ :: _, _ :: _, ⟨⟨u, q⟩, h⟩ => ⟨⟨u, k _ _ q⟩, Deps.keep k h⟩
@[irreducible] def spMade : Sp := fun vs H Q _ => ∃ (x : Addr) (v : V) (l : Addr) (rs : List Addr) (ds : List Nat), vs = [.ref x, v, .ref l] ∧ H l = some (.lst (rs.map V.ref)) ∧ Deps H rs ds ∧ rs.length ≤ 10 ∧ 1 + mx ds ≤ 60 ∧
  ∀ (r : Addr) (H' : Hp), Same H H' → H' r = some (.tup [v, .int ((1 + mx ds : Nat) : Int)]) → Q (.ref r) H'
theorem ok_made (E : Env K mg) : FnOk P w K mg base CX0 1 E.a_r_made E.d_r_made ["self", "tree", "parts"] spMade := by
  refine E.F_r_made.ok sc_r_made (fun vs H Q E' h => ?_) (fun cdv A outer s H vs Q E' hr h => ?_) <;> unfold spMade at h
  · obtain ⟨x, v, l, rs, ds, rfl, _⟩ := h
    rfl
  · obtain ⟨x, v, l, rs, ds, rfl, hl, hd, h10, h60, q⟩ := h
    have el := hd.length
    refine ⟨_, (pss_cons (ps_set (i := 3) sc_r_made.nd rfl (Or.inl rfl) (pe_op op_add pe_int (pe_callB (cr_max rfl) (by rfl) E.z_max (by decide +kernel) (pa_cons (pe_op op_cat (pe_lst (pa_cons pe_int pa_nil)) (pe_lc (own := [("part", 4)]) (g := gName 4) (tt := tYes) (by rfl) sc_r_made.nd (pi_list (pv 2)) (blkOk_by (own := [("part", 4)]) (N := ["self", "tree", "parts", "depth", "part"]) (sc := defScope s_r_made) (by decide +kernel)) (fun _ _ _ _ _ => pg_name (i := 4) sc_r_made.nd rfl (Or.inl rfl)) (fun _ _ _ _ _ => pts_nil) (fun _ _ _ _ _ => (pe_ix (r := rIxT K) ix_tup (pv 4) pe_int (fun _ _ => rfl))))) pa_nil))))
      (pss_cons (ps_if (pt_cmpR op_gt (pv 3) (pe_glob (v := .int 60) rfl E.g_MAX_DEPTH ⟨_, rfl⟩) (nomark _)) pss_never pss_nil)
      (pss_one (ps_ret (pe_tup (pa_cons (pv 1) (pa_cons (pv 3) pa_nil))))))), ?_⟩
    refine ⟨by show 1 ≤ sizeLine; decide, fun z hz => ?_⟩
    have s1 : Same H (upd H z (.lst [.int 0])) := same_new hz
    refine ⟨_, rfl, l, rfl, ⟨_, SqL.of (s1 _ _ hl)⟩, fun D hD => ?_⟩
    refine lc_list (K := K) (a := l) (xs := rs.map V.ref) (fun i H' => Same (upd H z (.lst [.int 0])) H' ∧ H' D = some (.lst ((ds.take i).map (fun (d : Nat) => V.int (d : Int))))) ⟨same_new hD, upd_same⟩ (fun i H' _ h => SqL.of (h.1 _ _ (s1 _ _ hl))) ?_ ?_
    · rintro i y H' hi ⟨s2, hD'⟩
      rw [List.getElem?_map] at hi
      obtain ⟨r, hr1, rfl⟩ := Option.map_eq_some_iff.mp hi
      obtain ⟨d, u, hd1, hd2⟩ := hd.get hr1
      refine ⟨rfl, ?_⟩
      refine ⟨_, rfl, r, _, _, _, rfl, rfl, SqT.of (s2 _ _ (s1 _ _ hd2)), atI_nat (j := 1) rfl, _, hD', ?_, ?_, ?_⟩
      · rw [List.length_map, List.length_take]
        exact small1000 (by omega)
      · intro b o e
        have nb : b ≠ D := ne_of_none e hD
        rw [upd_ne nb]
        exact s2 b o e
      · rw [upd_same, List.take_add_one, hd1, List.map_append]
        rfl
    · rintro H' ⟨s2, hD'⟩
      have e1 : (rs.map V.ref).length = ds.length := by rw [List.length_map, el]
      rw [e1, List.take_length] at hD'
      refine ⟨z, D, _, _, rfl, rfl, s2 _ _ upd_same, hD', ?_, fun p hp => ?_⟩
      · rw [List.length_map]
        show 1 + ds.length ≤ sizeLine
        exact Nat.le_of_lt (small1000 (by omega))
      have e2 : ([V.int 0] ++ ds.map (fun (d : Nat) => V.int (d : Int))) = ((0 : Int) :: ds.map (fun (d : Nat) => (d : Int))).map V.int := by simp
      refine ⟨p, (0 : Int) :: ds.map (fun (d : Nat) => (d : Int)), rfl, SqL.of (by rw [upd_same, e2]), by simp, fun m hm hle => ?_⟩
      have em := mx_max hm hle
      subst em
      refine ⟨_, _, rfl, rfl, ?_⟩
      refine ⟨_, rfl, _, _, rfl, rfl, _, rfl, ?_⟩
      have c : decide ((1 + (mx ds : Int)) > 60) = false := decide_eq_false (by omega)
      show if decide ((1 + (mx ds : Int)) > 60) = true then _ else _
      rw [c]
      refine iteF ?_
      refine ⟨_, rfl, _, rfl, (by show 2 ≤ sizeLine; decide), fun r hr => ?_⟩
      refine q r _ (s1.trans (s2.trans ((same_new hp).trans (same_new hr)))) ?_
      rw [upd_same]
      have e3 : (1 + (mx ds : Int)) = ((1 + mx ds : Nat) : Int) := by omega
      show some (HO.tup [v, V.int (1 + (mx ds : Int))]) = _
      rw [e3]
/-- made, of a tree just laid -/
theorem made_sp {H : Hp} {x c l : Addr} {xs : List V} {ds : List PyData} {rs : List Addr} {hs : List Nat} {Q : VK} (hc : H c = none) (hl : (upd H c (.tup xs)) l = none) (hd : Deps H rs hs) (hx : HasAll H ds xs) (h10 : rs.length ≤ 10) (h60 : 1 + mx hs ≤ 60)
    (k : ∀ (r : Addr) (H' : Hp), Same H H' → HasP H' (.tuple ds) (1 + mx hs) (.ref r) → Q (.ref r) H') : spMade [.ref x, .ref c, .ref l] (upd (upd H c (.tup xs)) l (.lst (rs.map V.ref))) Q E0 := by
  have s1 := same_new (o := .tup xs) hc
  have s2 := same_new (o := .lst (rs.map V.ref)) hl
  have s12 := s1.trans s2
  unfold spMade
  refine ⟨x, .ref c, l, rs, hs, rfl, upd_same, hd.keep (Tups.of s12), h10, h60, fun r H' s3 h3 => ?_⟩
  exact k r H' (s12.trans s3) ⟨r, _, rfl, h3, .tup (s3 _ _ (s2 _ _ upd_same)) (hx.keep (Tups.of (s12.trans s3)))⟩
theorem k_wn : ¬ (("word" : Str) = "name") := by decide +kernel
theorem k_un : ¬ (("number" : Str) = "name") := by decide +kernel
theorem k_sn : ¬ (("sign" : Str) = "name") := by decide +kernel
theorem k_en : ¬ (("end" : Str) = "name") := by decide +kernel
theorem k_wu : ¬ (("word" : Str) = "number") := by decide +kernel
theorem k_nu : ¬ (("name" : Str) = "number") := by decide +kernel
theorem k_su : ¬ (("sign" : Str) = "number") := by decide +kernel
theorem k_eu : ¬ (("end" : Str) = "number") := by decide +kernel
theorem k_nw : ¬ (("name" : Str) = "word") := by decide +kernel
theorem k_uw : ¬ (("number" : Str) = "word") := by decide +kernel
theorem k_sw : ¬ (("sign" : Str) = "word") := by decide +kernel
theorem k_ew : ¬ (("end" : Str) = "word") := by decide +kernel
theorem k_ws : ¬ (("word" : Str) = "sign") := by decide +kernel
theorem k_es : ¬ (("end" : Str) = "sign") := by decide +kernel
theorem at_word {ts : List Tk} {p : Nat} (h : V.str (kindAt ts p) = .str "word") : ∃ y, ts[p]? = some (.word y) := by
  have h := V.str.inj h
  unfold kindAt at h
  cases e : ts[p]? with
  | none => rw [e] at h; exact absurd h k_ew
  | some t =>
    rw [e] at h
    cases t with
    | word y => exact ⟨y, rfl⟩
    | name y => exact absurd h k_nw
    | num y => exact absurd h k_uw
    | sign y => exact absurd h k_sw
theorem atom_not {ts : List Tk} {p : Nat} (h1 : ¬ V.str (kindAt ts p) = .str "name") (h2 : ¬ V.str (kindAt ts p) = .str "number") (h3 : ¬ V.str (kindAt ts p) = .str "word") (h4 : ¬ isTk ts[p]? "sign" "(" = true) : atomB ts[p]? = false := by
  unfold kindAt at h1 h2 h3
  cases e : ts[p]? with
  | none => rfl
  | some t =>
    rw [e] at h1 h2 h3 h4
    cases t with
    | word y => exact absurd rfl h3
    | name y => exact absurd rfl h1
    | num y => exact absurd rfl h2
    | sign y =>
      show (y == "(") = false
      cases q : (y == ("(" : Str)) with
      | false => rfl
      | true =>
        exfalso
        apply h4
        have e2 : y = "(" := beq_iff_eq.mp q
        subst e2
        decide +kernel
theorem atom_sign {t : Option Tk} (h : isTk t "sign" "(" = true) : atomB t = true := by
  cases t with
  | none => exact absurd h (by decide +kernel)
  | some t =>
    obtain ⟨h1, h2⟩ := Bool.and_eq_true_iff.mp h
    cases t with
    | word y => exact absurd (beq_iff_eq.mp h1) k_ws
    | name y => rfl
    | num y => rfl
    | sign y =>
      show (y == "(") = true
      exact h2
theorem starts_word {x : Str} (h : x ∈ words) : inV (.str x) [.str "true", .str "false", .str "unit"] = atomB (some (.word x)) := by
  simp [inV, eqV, atomB, Bool.or_assoc, BEq.comm (a := x)]
theorem ok_starts (E : Env K mg) : FnOk P w K mg base CX0 2 E.a_r_starts_atom E.d_r_starts_atom ["self"] (spStarts E.C) := by
  refine E.F_r_starts_atom.ok sc_r_starts_atom (fun vs H Q E' h => ?_) (fun cdv A outer s H vs Q E' hr h => ?_)
  · obtain ⟨x, ts, p, o, rfl, _⟩ := h
    rfl
  · obtain ⟨x, ts, p, o, rfl, hR, q⟩ := h
    obtain ⟨L, dx, n, hx, hT⟩ := id hR
    have g_r_here := ok_here (P := P) (w := w) (base := base) E
    have h_r_here : Room 1 _ := hr
    refine ⟨_, (pss_cons (ps_asg (pe_meth0 (pv 0) E.cl E.M_r_here g_r_here h_r_here E.B_r_here .nil pass0) (pg_tup rfl (pgs_cons (pg_name (i := 1) sc_r_starts_atom.nd rfl (Or.inl rfl)) (pgs_cons (pg_name (i := 2) sc_r_starts_atom.nd rfl (Or.inl rfl)) pgs_nil))))
      (pss_cons (ps_if (PW.pt (pw_or (pt_cmpR op_eq (pv 1) pe_str (nomark _)) (pw_or1 (pt_cmpR op_eq (pv 1) pe_str (nomark _))))) (pss_one (ps_ret pe_bl)) pss_nil)
      (pss_one (ps_ret (pe_or (pe_cmpR (op_eqD hr.units) (pe_tup (pa_cons (pv 1) (pa_cons (pv 2) pa_nil))) (pe_tup (pa_cons pe_str (pa_cons pe_str pa_nil))) (nomark _)) (pe_one (pe_and (pe_cmpR op_eq (pv 1) pe_str (nomark _)) (pe_one (pe_cmpR op_in_seq (pv 2) (pe_tup (pa_cons pe_str (pa_cons pe_str (pa_cons pe_str pa_nil)))) (by rfl)))))))))), ?_⟩
    refine ⟨_, rfl, x, dx, _, rfl, hx, rf_no _ _ _ _ nf_here, x, ts, p, o, rfl, hR, fun r H1 s1 h1 => ?_⟩
    refine ⟨r, _, rfl, SqT.of h1, rfl, _, _, rfl, _, _, rfl, rfl, ?_⟩
    refine ⟨_, rfl, rfl, _, rfl, ?_⟩
    refine ite2 (fun c => ?_) (fun c => ?_)
    · -- a name
      have hk : V.str (kindAt ts p) = .str "name" := of_decide_eq_true c
      have hb : atomB ts[p]? = true := by
        unfold kindAt at hk
        cases e : ts[p]? with
        | none => rw [e] at hk; exact absurd (V.str.inj hk) k_en
        | some t =>
          rw [e] at hk
          cases t with
          | name y => rfl
          | word y => exact absurd (V.str.inj hk) k_wn
          | num y => exact absurd (V.str.inj hk) k_un
          | sign y => exact absurd (V.str.inj hk) k_sn
      refine iteT ?_
      rw [hb] at q
      exact q _ s1
    · refine ⟨_, rfl, rfl, _, rfl, ?_⟩
      refine ite2 (fun c2 => ?_) (fun c2 => ?_)
      · have hk : V.str (kindAt ts p) = .str "number" := of_decide_eq_true c2
        have hb : atomB ts[p]? = true := by
          unfold kindAt at hk
          cases e : ts[p]? with
          | none => rw [e] at hk; exact absurd (V.str.inj hk) k_eu
          | some t =>
            rw [e] at hk
            cases t with
            | num y => rfl
            | word y => exact absurd (V.str.inj hk) k_wu
            | name y => exact absurd (V.str.inj hk) k_nu
            | sign y => exact absurd (V.str.inj hk) k_su
        rw [hb] at q
        exact q _ s1
      · have c1' : ¬ V.str (kindAt ts p) = .str "name" := of_decide_eq_false (Bool.eq_false_iff.mpr c)
        have c2' : ¬ V.str (kindAt ts p) = .str "number" := of_decide_eq_false (Bool.eq_false_iff.mpr c2)
        refine ⟨_, rfl, _, rfl, (by show 2 ≤ sizeLine; decide), fun a ha => ⟨(by show 2 ≤ sizeLine; decide), fun b hb => ?_⟩⟩
        have s2 : Same H1 (upd (upd H1 a (.tup [.str (kindAt ts p), valAt ts p])) b (.tup [.str "sign", .str "("])) := (same_new ha).trans (same_new hb)
        have hL : Has (upd (upd H1 a (.tup [.str (kindAt ts p), valAt ts p])) b (.tup [.str "sign", .str "("])) (.tuple [.str (kindAt ts p), datAt ts p]) (.ref a) :=
          .tup (same_new hb _ _ upd_same) (.cons (.str _) (.cons (has_at ts p) .nil))
        have hR' : Has (upd (upd H1 a (.tup [.str (kindAt ts p), valAt ts p])) b (.tup [.str "sign", .str "("])) (.tuple [.str "sign", .str "("]) (.ref b) := .tup upd_same (.cons (.str _) (.cons (.str _) .nil))
        refine ⟨_, _, hL.dp, hR'.dp, shaped_at _ hR.oks, shaped2 so_sign (by decide +kernel), ?_⟩
        rw [eqv_at]
        refine ⟨_, rfl, ?_⟩
        refine ite2 (fun c3 => ?_) (fun c3 => ?_)
        · rw [atom_sign c3] at q
          exact q _ (s1.trans s2)
        · refine ⟨_, rfl, rfl, _, rfl, ?_⟩
          refine ite2 (fun c4 => ?_) (fun c4 => ?_)
          · obtain ⟨y, e⟩ := at_word (of_decide_eq_true c4)
            have hy : y ∈ words := hR.oks _ (List.mem_of_getElem? e)
            rw [e, ← starts_word hy] at q
            have ev : valAt ts p = .str y := val_name e
            rw [ev] at s2 hL ⊢
            refine ⟨_, rfl, (by show 3 ≤ sizeLine; decide), fun d hd => ?_⟩
            refine ⟨d, _, rfl, .inr (SqT.of upd_same), rfl, rfl, ?_⟩
            exact q _ ((s1.trans s2).trans (same_new hd))
          · rw [atom_not c1' c2' (of_decide_eq_false (Bool.eq_false_iff.mpr c4)) c3] at q
            exact q _ (s1.trans s2)
end
end HN
/-! R3: types are read. -/
namespace HN
open PySem TL L2
/-! ### places in a list of tokens -/
theorem drop_app {ts l rest : List Tk} {p : Nat} (h : ts.drop p = l ++ rest) : ts.drop (p + l.length) = rest := by
  rw [← List.drop_drop, h, List.drop_left]
theorem drop_one {ts rest : List Tk} {p : Nat} {t : Tk} (h : ts.drop p = t :: rest) : ts.drop (p + 1) = rest := drop_app (l := [t]) h
theorem at_head {ts : List Tk} {p : Nat} : ts[p]? = (ts.drop p).head? := List.head?_drop.symm
theorem at_cons {ts rest : List Tk} {p : Nat} {t : Tk} (h : ts.drop p = t :: rest) : ts[p]? = some t := by rw [at_head, h]; rfl
theorem k_ns : ¬ (("name" : Str) = "sign") := by decide +kernel
theorem k_us : ¬ (("number" : Str) = "sign") := by decide +kernel
theorem isTk_sign {o : Option Tk} {s : Str} : isTk o "sign" s = decide (o = some (.sign s)) := by
  rw [Bool.eq_iff_iff, decide_eq_true_iff]
  constructor
  · intro h
    cases o with
    | none =>
      have h : (("end" : Str) == "sign" && ("" : Str) == s) = true := h
      exact absurd (beq_iff_eq.mp (Bool.and_eq_true_iff.mp h).1) k_es
    | some t =>
      obtain ⟨h1, h2⟩ := Bool.and_eq_true_iff.mp h
      cases t with
      | word y => exact absurd (beq_iff_eq.mp h1) k_ws
      | name y => exact absurd (beq_iff_eq.mp h1) k_ns
      | num y => exact absurd (beq_iff_eq.mp h1) k_us
      | sign y =>
        have e : y = s := beq_iff_eq.mp h2
        rw [e]
  · rintro rfl
    show ((("sign" : Str) == "sign") && (s == s)) = true
    rw [beq_self_eq_true, beq_self_eq_true]; rfl
theorem isTk_word {o : Option Tk} {s : Str} : isTk o "word" s = decide (o = some (.word s)) := by
  rw [Bool.eq_iff_iff, decide_eq_true_iff]
  constructor
  · intro h
    cases o with
    | none =>
      have h : (("end" : Str) == "word" && ("" : Str) == s) = true := h
      exact absurd (beq_iff_eq.mp (Bool.and_eq_true_iff.mp h).1) k_ew
    | some t =>
      obtain ⟨h1, h2⟩ := Bool.and_eq_true_iff.mp h
      cases t with
      | sign y => exact absurd (beq_iff_eq.mp h1) k_sw
      | name y => exact absurd (beq_iff_eq.mp h1) k_nw
      | num y => exact absurd (beq_iff_eq.mp h1) k_uw
      | word y =>
        have e : y = s := beq_iff_eq.mp h2
        rw [e]
  · rintro rfl
    show ((("word" : Str) == "word") && (s == s)) = true
    rw [beq_self_eq_true, beq_self_eq_true]; rfl
theorem sees_yes {ts rest : List Tk} {p : Nat} {s : Str} (h : ts.drop p = .sign s :: rest) : isTk ts[p]? "sign" s = true := by rw [isTk_sign, at_cons h]; exact decide_eq_true rfl
theorem sees_no {ts rest : List Tk} {p : Nat} {s : Str} (h : ts.drop p = rest) (n : rest.head? ≠ some (.sign s)) : isTk ts[p]? "sign" s = false := by rw [isTk_sign, at_head, h]; exact decide_eq_false n
theorem word_yes {ts rest : List Tk} {p : Nat} {s : Str} (h : ts.drop p = .word s :: rest) : isTk ts[p]? "word" s = true := by rw [isTk_word, at_cons h]; exact decide_eq_true rfl
theorem word_no {ts rest : List Tk} {p : Nat} {s : Str} (h : ts.drop p = rest) (n : rest.head? ≠ some (.word s)) : isTk ts[p]? "word" s = false := by rw [isTk_word, at_head, h]; exact decide_eq_false n
theorem nf_made : noF "made" = true := by decide +kernel
theorem nf_enter : noF "enter" = true := by decide +kernel
theorem nf_take : noF "take" = true := by decide +kernel
theorem nf_type_parts : noF "type_parts" = true := by decide +kernel
theorem nf_simple_type : noF "simple_type" = true := by decide +kernel
theorem so_arrow : (PyData.strOk "sign" && PyData.strOk "->") = true := by decide +kernel
theorem so_comma : (PyData.strOk "sign" && PyData.strOk ",") = true := by decide +kernel
theorem so_lpar : (PyData.strOk "sign" && PyData.strOk "(") = true := by decide +kernel
theorem so_rpar : (PyData.strOk "sign" && PyData.strOk ")") = true := by decide +kernel
theorem so_wbox : (PyData.strOk "word" && PyData.strOk "box") = true := by decide +kernel
theorem mx2 (a b : Nat) : 1 + mx [a, b] = 1 + max a b := by simp [mx]
theorem mx1 (a : Nat) : 1 + mx [a] = 1 + a := by simp [mx]
theorem mx3 (a b c : Nat) : 1 + mx [a, b, c] = 1 + max a (max b c) := by simp [mx]
theorem Ty.stoks_fn {t : Ty} (h : t.isFn = true) : t.stoks = .sign "(" :: (t.toks ++ [.sign ")"]) := by unfold Ty.stoks; rw [if_pos h]
theorem Ty.stoks_no {t : Ty} (h : t.isFn = false) : t.stoks = t.toks := by unfold Ty.stoks; rw [h]; rfl
section
variable {P : Program} {w : World} {K : PySem.W.Frag} {mg : Str → Option Value} {base : Heap}
def spTP (C : Addr) (n : Nat) : Sp := fun vs H Q _ => ∃ (x : Addr) (ts : List Tk) (p o : Nat) (t : Ty) (rest : List Tk), vs = [.ref x] ∧ RdAt C H x ts p o ∧ ts.drop p = t.toks ++ rest ∧ rest.head? ≠ some (.sign "->") ∧
  3 * t.h + 6 ≤ n ∧ o + 2 * t.h ≤ 60 ∧ ∀ (r : V) (H' : Hp), But x H H' → RdAt C H' x ts (p + t.toks.length) o → HasP H' t.d t.h r → Q r H'
def spST (C : Addr) (n : Nat) : Sp := fun vs H Q _ => ∃ (x : Addr) (ts : List Tk) (p o : Nat) (t : Ty) (rest : List Tk), vs = [.ref x] ∧ RdAt C H x ts p o ∧ ts.drop p = t.stoks ++ rest ∧
  3 * t.h + (if t.isFn then 7 else 5) ≤ n ∧ o + 2 * t.h + (if t.isFn then 1 else 0) ≤ 60 ∧ ∀ (r : V) (H' : Hp), But x H H' → RdAt C H' x ts (p + t.stoks.length) o → HasP H' t.d t.h r → Q r H'
theorem ok_tp (E : Env K mg) {n : Nat} (g_r_simple_type : FnOk P w K mg base CX0 n E.a_r_simple_type E.d_r_simple_type ["self"] (spST E.C n)) (g_r_type_parts : FnOk P w K mg base CX0 n E.a_r_type_parts E.d_r_type_parts ["self"] (spTP E.C n)) :
    FnOk P w K mg base CX0 (n + 1) E.a_r_type_parts E.d_r_type_parts ["self"] (spTP E.C (n + 1)) := by
  refine E.F_r_type_parts.ok sc_r_type_parts (fun vs H Q E' h => ?_) (fun cdv A outer s H vs Q E' hr h => ?_)
  · obtain ⟨x, ts, p, o, t, rest, rfl, _⟩ := h
    rfl
  · obtain ⟨x, ts, p, o, t, rest, rfl, hR, hd, hf, hn, ho, q⟩ := h
    have hh := t.h_pos
    have g_r_sees := ok_sees (P := P) (w := w) (base := base) E
    have g_r_made := ok_made (P := P) (w := w) (base := base) E
    have g_r_enter := ok_enter (P := P) (w := w) (base := base) E
    have h_r_simple_type : Room n _ := hr
    have h_r_type_parts : Room n _ := hr
    have h_r_sees : Room 2 _ := hr.mono (by omega)
    have h_r_made : Room 1 _ := hr.mono (by omega)
    have h_r_enter : Room 1 _ := hr.mono (by omega)
    refine ⟨_, (pss_cons (ps_set (i := 1) sc_r_type_parts.nd rfl (Or.inl rfl) (pe_meth0 (pv 0) E.cl E.M_r_simple_type g_r_simple_type h_r_simple_type E.B_r_simple_type .nil pass0))
      (pss_cons (ps_if (pt_not (pt_val (pe_meth (pv 0) E.cl E.M_r_sees g_r_sees h_r_sees E.B_r_sees .nil pass0 (pa_cons pe_str (pa_cons pe_str pa_nil))))) (pss_one (ps_ret (pv 1))) pss_nil)
      (pss_cons (ps_fldaug (pv 0) pe_int in_add)
      (pss_cons (ps_expr (pe_meth0 (pv 0) E.cl E.M_r_enter g_r_enter h_r_enter E.B_r_enter .nil pass0))
      (pss_cons (ps_set (i := 2) sc_r_type_parts.nd rfl (Or.inl rfl) (pe_meth0 (pv 0) E.cl E.M_r_type_parts g_r_type_parts h_r_type_parts E.B_r_type_parts .nil pass0))
      (pss_cons (ps_fldaug (pv 0) pe_int in_sub)
      (pss_one (ps_ret (pe_meth (pv 0) E.cl E.M_r_made g_r_made h_r_made E.B_r_made .nil pass0 (pa_cons (pe_tup (pa_cons pe_str (pa_cons (pe_ix ix_tup (pv 1) pe_int (fun _ _ => rfl)) (pa_cons (pe_ix ix_tup (pv 2) pe_int (fun _ _ => rfl)) pa_nil)))) (pa_cons (pe_lst (pa_cons (pv 1) (pa_cons (pv 2) pa_nil))) pa_nil))))))))))), ?_⟩
    obtain ⟨L, dx, nn, hx, hT⟩ := id hR
    cases hfn : t.isFn with
    | false =>
      refine ⟨_, rfl, x, dx, _, rfl, hx, rf_no _ _ _ _ nf_simple_type, x, ts, p, o, t, rest, rfl, hR, (by rw [Ty.stoks_no hfn]; exact hd), (by rw [hfn]; show 3 * t.h + 5 ≤ n; omega), (by rw [hfn]; show o + 2 * t.h + 0 ≤ 60; omega), fun r H1 b1 R1 P1 => ?_⟩
      rw [Ty.stoks_no hfn] at R1
      obtain ⟨L1, dx1, n1, hx1, hT1⟩ := id R1
      refine ⟨_, rfl, x, dx1, _, rfl, hx1, rf_no _ _ _ _ nf_sees, x, ts, _, o, _, _, rfl, R1, so_arrow, fun H2 s2 => ?_⟩
      rw [sees_no (drop_app hd) hf]
      refine ⟨_, rfl, ?_⟩
      refine iteT ?_
      exact ⟨_, rfl, q r H2 (b1.same s2) (R1.same s2) (P1.keep (Tups.of s2))⟩
    | true =>
      cases t with
      | fn a b =>
        have et : (Ty.fn a b).toks = a.stoks ++ .sign "->" :: b.toks := rfl
        have ed : ts.drop p = a.stoks ++ (.sign "->" :: (b.toks ++ rest)) := by rw [hd, et, List.append_assoc]; rfl
        have hh1 : a.h ≤ max a.h b.h := Nat.le_max_left _ _
        have hh2 : b.h ≤ max a.h b.h := Nat.le_max_right _ _
        have eh : (Ty.fn a b).h = 1 + max a.h b.h := rfl
        have i1 : (if a.isFn = true then 7 else 5) ≤ 7 := by split <;> omega
        have i2 : (if a.isFn = true then 1 else 0) ≤ 1 := by split <;> omega
        refine ⟨_, rfl, x, dx, _, rfl, hx, rf_no _ _ _ _ nf_simple_type, x, ts, p, o, a, _, rfl, hR, ed, (by omega), (by omega), fun r1 H1 b1 R1 P1 => ?_⟩
        have d1 := drop_app ed
        obtain ⟨L1, dx1, n1, hx1, hT1⟩ := id R1
        refine ⟨_, rfl, x, dx1, _, rfl, hx1, rf_no _ _ _ _ nf_sees, x, ts, _, o, _, _, rfl, R1, so_arrow, fun H2 s2 => ?_⟩
        rw [sees_yes d1]
        refine ⟨_, rfl, ?_⟩
        refine iteF ?_
        have hx2 := s2 _ _ hx1
        -- position += 1
        refine ⟨_, rfl, x, E.C, dx1, _, _, rfl, hx2, E.cl, E.n_pos, rf_pos _ _ _ _, _, _, rfl, rfl, dx1, _, hx2, rf_size _ _ _ _, ?_⟩
        have R3 := RdAt.step hx2 (hT1.keep hx1 (But.of s2))
        have b3 := (b1.same s2).trans (But.self (o := .ins E.C dx1 (putF "position" (.int (((p + a.stoks.length : Nat) : Int) + 1)) (rf L1 n1 ((p + a.stoks.length : Nat) : Int) o))))
        have P3 := (P1.keep (Tups.of s2)).keep ((R1.same s2).tups (But.self (o := .ins E.C dx1 (putF "position" (.int (((p + a.stoks.length : Nat) : Int) + 1)) (rf L1 n1 ((p + a.stoks.length : Nat) : Int) o)))))
        obtain ⟨L3, dx3, n3, hx3, hT3⟩ := id R3
        -- enter
        refine ⟨_, rfl, x, dx3, _, rfl, hx3, rf_no _ _ _ _ nf_enter, x, ts, _, o, rfl, R3, (by omega), fun H4 b4 R4 => ?_⟩
        have P4 := P3.keep (R3.tups b4)
        obtain ⟨L4, dx4, n4, hx4, hT4⟩ := id R4
        refine ⟨_, rfl, x, dx4, _, rfl, hx4, rf_no _ _ _ _ nf_type_parts, x, ts, _, o + 1, b, rest, rfl, R4, drop_one d1, hf, (by omega), (by omega), fun r5 H5 b5 R5 P5 => ?_⟩
        have P5' := P4.keep (R4.tups b5)
        obtain ⟨L5, dx5, n5, hx5, hT5⟩ := id R5
        -- opened -= 1
        refine ⟨_, rfl, x, E.C, dx5, _, _, rfl, hx5, E.cl, E.n_opn, rf_opn _ _ _ _, _, _, rfl, rfl, dx5, _, hx5, rf_size _ _ _ _, ?_⟩
        have R6 := RdAt.shut hx5 hT5
        have b6 := (b3.trans (b4.trans b5)).trans (But.self (o := .ins E.C dx5 (putF "opened" (.int (((o + 1 : Nat) : Int) - 1)) (rf L5 n5 ((p + a.stoks.length + 1 + b.toks.length : Nat) : Int) ((o + 1 : Nat) : Int)))))
        have t6 := R5.tups (But.self (o := .ins E.C dx5 (putF "opened" (.int (((o + 1 : Nat) : Int) - 1)) (rf L5 n5 ((p + a.stoks.length + 1 + b.toks.length : Nat) : Int) ((o + 1 : Nat) : Int)))))
        have P6 := P5'.keep t6
        have P6' := P5.keep t6
        obtain ⟨L6, dx6, n6, hx6, hT6⟩ := id R6
        obtain ⟨a1, w1, rfl, e1, v1⟩ := P6
        obtain ⟨a2, w2, rfl, e2, v2⟩ := P6'
        refine ⟨_, rfl, x, dx6, _, rfl, hx6, rf_no _ _ _ _ nf_made, _, rfl, a1, _, _, _, rfl, rfl, SqT.of e1, atI_nat (j := 0) rfl, _, rfl, a2, _, _, _, rfl, rfl, SqT.of e2, atI_nat (j := 0) rfl, (by show 3 ≤ sizeLine; decide), fun c hc => ?_⟩
        refine ⟨_, rfl, _, rfl, (by show 2 ≤ sizeLine; decide), fun l hl => ?_⟩
        refine made_sp (rs := [a1, a2]) (hs := [a.h, b.h]) hc hl ⟨⟨_, e1⟩, ⟨_, e2⟩, True.intro⟩ (.cons (.str _) (.cons v1 (.cons v2 .nil))) (by show 2 ≤ 10; omega) (by rw [mx2]; omega) fun r H7 s67 P7 => ?_
        rw [mx2] at P7
        have el : (p + a.stoks.length + 1 + b.toks.length) = p + (Ty.fn a b).toks.length := by rw [et, List.length_append, List.length_cons]; omega
        rw [← el] at q
        exact q _ H7 (b6.same s67) (R6.same s67) P7
      | int => exact absurd hfn (by decide)
      | bool => exact absurd hfn (by decide)
      | unit => exact absurd hfn (by decide)
      | any => exact absurd hfn (by decide)
      | pair a b => exact absurd hfn (by intro z; cases z)
      | box a => exact absurd hfn (by intro z; cases z)

theorem dT {c A B : Prop} [Decidable c] (hc : c) (h : A) : if decide c = true then A else B := by rw [decide_eq_true hc]; exact iteT h
theorem dF {c A B : Prop} [Decidable c] (hc : ¬ c) (h : B) : if decide c = true then A else B := by rw [decide_eq_false hc]; exact iteF h
theorem bT {b : Bool} {A B : Prop} (hb : b = true) (h : A) : if b = true then A else B := by rw [hb]; exact iteT h
theorem bF {b : Bool} {A B : Prop} (hb : b = false) (h : B) : if b = true then A else B := by rw [hb]; exact iteF h
theorem nT {b : Bool} {A B : Prop} (hb : b = true) (h : B) : if (!b) = true then A else B := by rw [hb]; exact iteF h
theorem nF {b : Bool} {A B : Prop} (hb : b = false) (h : A) : if (!b) = true then A else B := by rw [hb]; exact iteT h
theorem vne {a b : Str} (h : ¬ a = b) : ¬ V.str a = V.str b := fun q => h (V.str.inj q)
/-- position += 1; opened -= 1 -/
theorem RdAt.step3 {C : Addr} {H : Hp} {x : Addr} {ts : List Tk} {p o : Nat} {L dx : Addr} {n : Int} (e : H x = some (.ins C dx (rf L n p o))) (t : Toks H L ts) :
    RdAt C (upd H x (.ins C dx (putF "position" (.int ((p : Int) + 1)) (rf L n p o)))) x ts (p + 1) o ∧ But x H (upd H x (.ins C dx (putF "position" (.int ((p : Int) + 1)) (rf L n p o)))) ∧ Tups H (upd H x (.ins C dx (putF "position" (.int ((p : Int) + 1)) (rf L n p o)))) :=
  ⟨RdAt.step e t, But.self, But.self.tups e fun _ q => nomatch q⟩
theorem RdAt.shut3 {C : Addr} {H : Hp} {x : Addr} {ts : List Tk} {p o : Nat} {L dx : Addr} {n : Int} (e : H x = some (.ins C dx (rf L n p ((o + 1 : Nat) : Int)))) (t : Toks H L ts) :
    RdAt C (upd H x (.ins C dx (putF "opened" (.int (((o + 1 : Nat) : Int) - 1)) (rf L n p ((o + 1 : Nat) : Int))))) x ts p o ∧ But x H (upd H x (.ins C dx (putF "opened" (.int (((o + 1 : Nat) : Int) - 1)) (rf L n p ((o + 1 : Nat) : Int))))) ∧
      Tups H (upd H x (.ins C dx (putF "opened" (.int (((o + 1 : Nat) : Int) - 1)) (rf L n p ((o + 1 : Nat) : Int))))) :=
  ⟨RdAt.shut e t, But.self, But.self.tups e fun _ q => nomatch q⟩
def Ty.word : Ty → Option Str
  | .int => some "int" | .bool => some "bool" | .unit => some "unit" | .any => some "any"
  | _ => none
theorem Ty.leaf {t : Ty} {w : Str} (h : t.word = some w) : t.stoks = [.word w] ∧ t.d = .tuple [.str w] ∧ t.h = 1 ∧ t.isFn = false ∧ inV (.str w) (["int", "bool", "unit", "any"].map (fun s : String => V.str s)) = true ∧ w ∈ words := by
  cases t <;> first
    | (cases h; exact ⟨rfl, rfl, rfl, rfl, by decide +kernel, by decide +kernel⟩)
    | cases h
theorem simple_no : inV (.str "box") ((["int", "bool", "unit", "any"] : List Str).map V.str) = false := by decide +kernel
theorem ok_st (E : Env K mg) {n : Nat} (g_r_simple_type : FnOk P w K mg base CX0 n E.a_r_simple_type E.d_r_simple_type ["self"] (spST E.C n)) (g_r_type_parts : FnOk P w K mg base CX0 n E.a_r_type_parts E.d_r_type_parts ["self"] (spTP E.C n)) :
    FnOk P w K mg base CX0 (n + 1) E.a_r_simple_type E.d_r_simple_type ["self"] (spST E.C (n + 1)) := by
  refine E.F_r_simple_type.ok sc_r_simple_type (fun vs H Q E' h => ?_) (fun cdv A outer s H vs Q E' hr h => ?_)
  · obtain ⟨x, ts, p, o, t, rest, rfl, _⟩ := h
    rfl
  · obtain ⟨x, ts, p, o, t, rest, rfl, hR, hd, hn, ho, q⟩ := h
    have hh := t.h_pos
    have hn' : 3 * t.h + 5 ≤ n + 1 := by
      revert hn
      split <;> omega
    have ho' : o + 2 * t.h ≤ 60 := by
      revert ho
      split <;> omega
    have g_r_sees := ok_sees (P := P) (w := w) (base := base) E
    have g_r_made := ok_made (P := P) (w := w) (base := base) E
    have g_r_enter := ok_enter (P := P) (w := w) (base := base) E
    have g_r_here := ok_here (P := P) (w := w) (base := base) E
    have g_r_take := ok_take (P := P) (w := w) (base := base) E
    have h_r_simple_type : Room n _ := hr
    have h_r_type_parts : Room n _ := hr
    have h_r_sees : Room 2 _ := hr.mono (by omega)
    have h_r_made : Room 1 _ := hr.mono (by omega)
    have h_r_enter : Room 1 _ := hr.mono (by omega)
    have h_r_here : Room 1 _ := hr.mono (by omega)
    have h_r_take : Room 3 _ := hr.mono (by omega)
    refine ⟨_, (pss_cons (ps_expr (pe_meth0 (pv 0) E.cl E.M_r_enter g_r_enter h_r_enter E.B_r_enter .nil pass0))
      (pss_cons (ps_asg (pe_meth0 (pv 0) E.cl E.M_r_here g_r_here h_r_here E.B_r_here .nil pass0) (pg_tup rfl (pgs_cons (pg_name (i := 1) sc_r_simple_type.nd rfl (Or.inl rfl)) (pgs_cons (pg_name (i := 2) sc_r_simple_type.nd rfl (Or.inl rfl)) pgs_nil))))
      (pss_cons (ps_if (PW.pt (pw_and (pt_cmpR op_eq (pv 1) pe_str (nomark _)) (pw_and1 (pt_cmpR op_in_seq (pv 2) (pe_glob (v := .ref E.a_SIMPLE_TYPES) rfl E.g_SIMPLE_TYPES rfl) (by rfl))))) (pss_cons (ps_fldaug (pv 0) pe_int in_add)
      (pss_one (ps_set (i := 3) sc_r_simple_type.nd rfl (Or.inl rfl) (pe_meth (pv 0) E.cl E.M_r_made g_r_made h_r_made E.B_r_made .nil pass0 (pa_cons (pe_tup (pa_cons (pv 2) pa_nil)) (pa_cons (pe_lst pa_nil) pa_nil)))))) (pss_one (ps_if (pt_val (pe_meth (pv 0) E.cl E.M_r_sees g_r_sees h_r_sees E.B_r_sees .nil pass0 (pa_cons pe_str (pa_cons pe_str pa_nil)))) (pss_cons (ps_fldaug (pv 0) pe_int in_add)
      (pss_cons (ps_set (i := 4) sc_r_simple_type.nd rfl (Or.inl rfl) (pe_meth0 (pv 0) E.cl E.M_r_simple_type g_r_simple_type h_r_simple_type E.B_r_simple_type .nil pass0))
      (pss_one (ps_set (i := 3) sc_r_simple_type.nd rfl (Or.inl rfl) (pe_meth (pv 0) E.cl E.M_r_made g_r_made h_r_made E.B_r_made .nil pass0 (pa_cons (pe_tup (pa_cons pe_str (pa_cons (pe_ix ix_tup (pv 4) pe_int (fun _ _ => rfl)) pa_nil))) (pa_cons (pe_lst (pa_cons (pv 4) pa_nil)) pa_nil))))))) (pss_cons (ps_expr (pe_meth (pv 0) E.cl E.M_r_take g_r_take h_r_take E.B_r_take .nil pass0 (pa_cons pe_str (pa_cons pe_str pa_nil))))
      (pss_cons (ps_set (i := 3) sc_r_simple_type.nd rfl (Or.inl rfl) (pe_meth0 (pv 0) E.cl E.M_r_type_parts g_r_type_parts h_r_type_parts E.B_r_type_parts .nil pass0))
      (pss_cons (ps_if (pt_val (pe_meth (pv 0) E.cl E.M_r_sees g_r_sees h_r_sees E.B_r_sees .nil pass0 (pa_cons pe_str (pa_cons pe_str pa_nil)))) (pss_cons (ps_fldaug (pv 0) pe_int in_add)
      (pss_cons (ps_set (i := 5) sc_r_simple_type.nd rfl (Or.inl rfl) (pe_meth0 (pv 0) E.cl E.M_r_type_parts g_r_type_parts h_r_type_parts E.B_r_type_parts .nil pass0))
      (pss_one (ps_set (i := 3) sc_r_simple_type.nd rfl (Or.inl rfl) (pe_meth (pv 0) E.cl E.M_r_made g_r_made h_r_made E.B_r_made .nil pass0 (pa_cons (pe_tup (pa_cons pe_str (pa_cons (pe_ix ix_tup (pv 3) pe_int (fun _ _ => rfl)) (pa_cons (pe_ix ix_tup (pv 5) pe_int (fun _ _ => rfl)) pa_nil)))) (pa_cons (pe_lst (pa_cons (pv 3) (pa_cons (pv 5) pa_nil))) pa_nil))))))) pss_nil)
      (pss_one (ps_expr (pe_meth (pv 0) E.cl E.M_r_take g_r_take h_r_take E.B_r_take .nil pass0 (pa_cons pe_str (pa_cons pe_str pa_nil)))))))))))
      (pss_cons (ps_fldaug (pv 0) pe_int in_sub)
      (pss_one (ps_ret (pv 3))))))), ?_⟩
    obtain ⟨L, dx, nn, hx, hT⟩ := id hR
    refine ⟨_, rfl, x, dx, _, rfl, hx, rf_no _ _ _ _ nf_enter, x, ts, _, o, rfl, hR, (by omega), fun H1 b1 R1 => ?_⟩
    obtain ⟨L1, dx1, n1, hx1, hT1⟩ := id R1
    refine ⟨_, rfl, x, dx1, _, rfl, hx1, rf_no _ _ _ _ nf_here, x, ts, p, o + 1, rfl, R1, fun r2 H2 s2 h2 => ?_⟩
    refine ⟨r2, _, rfl, SqT.of h2, rfl, _, _, rfl, _, _, rfl, rfl, ?_⟩
    have R2 := R1.same s2
    have b2 := b1.same s2
    obtain ⟨L2, dx2, n2, hx2, hT2⟩ := id R2
    -- what stands at the end: opened -= 1, return result
    have fin : ∀ (H' : Hp) (r : V), But x H2 H' → RdAt E.C H' x ts (p + t.stoks.length) (o + 1) → HasP H' t.d t.h r → ∀ (k v pa ot : Option V),
        (tSeq (sFldAug K (tVar 0) (tC (.int 1)) rSub "opened") (tRet (tVar 3))) { nx := fun _ H' => Q .non H', rt := Q } [some (.ref x), k, v, some r, pa, ot] H' := by
      intro H' r b' R' P' k v pa ot
      obtain ⟨L', dx', n', hx', hT'⟩ := id R'
      refine ⟨_, rfl, x, E.C, dx', _, _, rfl, hx', E.cl, E.n_opn, rf_opn _ _ _ _, _, _, rfl, rfl, dx', _, hx', rf_size _ _ _ _, ?_⟩
      obtain ⟨R3, b3, t3⟩ := RdAt.shut3 hx' hT'
      exact ⟨_, rfl, q r _ ((b2.trans b').trans b3) R3 (P'.keep t3)⟩
    cases hw : t.word with
    | some w =>
      obtain ⟨l1, l2, l3, l4, l5, l6⟩ := Ty.leaf hw
      rw [l1] at hd fin
      have e2 := at_cons hd
      refine ⟨_, rfl, rfl, _, rfl, ?_⟩
      refine dT (congrArg V.str (kind_name e2)) ?_
      refine ⟨_, rfl, E.a_SIMPLE_TYPES, _, rfl, .inr (E.k_SIMPLE_TYPES _), ?_⟩
      have ev : valAt ts p = .str w := val_name e2
      rw [ev]
      refine ⟨rfl, rfl, _, rfl, ?_⟩
      refine bT l5 ?_
      refine ⟨_, rfl, x, E.C, dx2, _, _, rfl, hx2, E.cl, E.n_pos, rf_pos _ _ _ _, _, _, rfl, rfl, dx2, _, hx2, rf_size _ _ _ _, ?_⟩
      obtain ⟨R3, b3, t3⟩ := RdAt.step3 hx2 hT2
      obtain ⟨L3, dx3, n3, hx3, hT3⟩ := id R3
      refine ⟨_, rfl, x, dx3, _, rfl, hx3, rf_no _ _ _ _ nf_made, _, rfl, (by show 1 ≤ sizeLine; decide), fun c hc => ⟨(by show 0 ≤ sizeLine; decide), fun l hl => ?_⟩⟩
      refine made_sp (rs := []) (hs := []) hc hl True.intro (.cons (.str _) .nil) (by show 0 ≤ 10; omega) (by show 1 ≤ 60; omega) fun r H4 s34 P4 => ?_
      rw [l2, l3] at fin
      exact fin H4 _ (b3.same s34) (R3.same s34) P4 _ _ _ _
    | none =>
      cases ht : t with
      | int => rw [ht] at hw; cases hw
      | bool => rw [ht] at hw; cases hw
      | unit => rw [ht] at hw; cases hw
      | any => rw [ht] at hw; cases hw
      | box a =>
        have et : t.stoks = .word "box" :: a.stoks := by rw [ht]; rfl
        have eh : t.h = 1 + a.h := by rw [ht]; rfl
        have edd : t.d = .tuple [.str "box", a.d] := by rw [ht]; rfl
        rw [et] at hd fin
        rw [eh] at fin
        rw [edd] at fin
        have e2 := at_cons hd
        have i1 : (if a.isFn = true then 7 else 5) ≤ 7 := by split <;> omega
        have i2 : (if a.isFn = true then 1 else 0) ≤ 1 := by split <;> omega
        have ev : valAt ts p = .str "box" := val_name e2
        refine ⟨_, rfl, rfl, _, rfl, ?_⟩
        refine dT (congrArg V.str (kind_name e2)) ?_
        refine ⟨_, rfl, E.a_SIMPLE_TYPES, _, rfl, .inr (E.k_SIMPLE_TYPES _), ?_⟩
        rw [ev]
        refine ⟨rfl, rfl, _, rfl, ?_⟩
        refine bF simple_no ?_
        refine ⟨_, rfl, x, dx2, _, rfl, hx2, rf_no _ _ _ _ nf_sees, x, ts, _, o + 1, _, _, rfl, R2, so_wbox, fun H3 s3 => ?_⟩
        rw [word_yes hd]
        refine ⟨_, rfl, ?_⟩
        refine iteT ?_
        have hx3 := s3 _ _ hx2
        have R3' := R2.same s3
        refine ⟨_, rfl, x, E.C, dx2, _, _, rfl, hx3, E.cl, E.n_pos, rf_pos _ _ _ _, _, _, rfl, rfl, dx2, _, hx3, rf_size _ _ _ _, ?_⟩
        obtain ⟨R4, b4, t4⟩ := RdAt.step3 hx3 (hT2.keep hx2 (But.of s3))
        obtain ⟨L4, dx4, n4, hx4, hT4⟩ := id R4
        refine ⟨_, rfl, x, dx4, _, rfl, hx4, rf_no _ _ _ _ nf_simple_type, x, ts, _, o + 1, a, rest, rfl, R4, drop_one hd, (by omega), (by omega), fun r5 H5 b5 R5 P5 => ?_⟩
        obtain ⟨L5, dx5, n5, hx5, hT5⟩ := id R5
        obtain ⟨a1, w1, rfl, e1, v1⟩ := P5
        refine ⟨_, rfl, x, dx5, _, rfl, hx5, rf_no _ _ _ _ nf_made, _, rfl, a1, _, _, _, rfl, rfl, SqT.of e1, atI_nat (j := 0) rfl, (by show 2 ≤ sizeLine; decide), fun c hc => ?_⟩
        refine ⟨_, rfl, (by show 1 ≤ sizeLine; decide), fun l hl => ?_⟩
        refine made_sp (rs := [a1]) (hs := [a.h]) hc hl ⟨⟨_, e1⟩, True.intro⟩ (.cons (.str _) (.cons v1 .nil)) (by show 1 ≤ 10; omega) (by rw [mx1]; omega) fun r H7 s67 P7 => ?_
        rw [mx1] at P7
        have el : p + 1 + a.stoks.length = p + (.word "box" :: a.stoks : List Tk).length := by rw [List.length_cons]; omega
        rw [← el] at fin
        exact fin H7 _ ((((But.of s3).trans b4).trans b5).same s67) (R5.same s67) P7 _ _ _ _
      | pair a b =>
        have et : t.stoks = .sign "(" :: (a.toks ++ .sign "," :: (b.toks ++ [.sign ")"])) := by rw [ht]; rfl
        have eh : t.h = 1 + max a.h b.h := by rw [ht]; rfl
        have edd : t.d = .tuple [.str "pair", a.d, b.d] := by rw [ht]; rfl
        have hh1 : a.h ≤ max a.h b.h := Nat.le_max_left _ _
        have hh2 : b.h ≤ max a.h b.h := Nat.le_max_right _ _
        rw [et] at hd fin
        rw [eh] at fin
        rw [edd] at fin
        have hd : ts.drop p = .sign "(" :: (a.toks ++ (.sign "," :: (b.toks ++ (.sign ")" :: rest)))) := by rw [hd]; simp
        have e2 := at_cons hd
        have ek : kindAt ts p = "sign" := kind_name e2
        refine ⟨_, rfl, rfl, _, rfl, ?_⟩
        rw [ek]
        refine dF (vne k_sw) ?_
        refine iteF ?_
        refine ⟨_, rfl, x, dx2, _, rfl, hx2, rf_no _ _ _ _ nf_sees, x, ts, _, o + 1, _, _, rfl, R2, so_wbox, fun H3 s3 => ?_⟩
        rw [word_no hd (by intro z; cases z)]
        refine ⟨_, rfl, ?_⟩
        refine iteF ?_
        have R3 := R2.same s3
        obtain ⟨L3, dx3, n3, hx3, hT3⟩ := id R3
        refine ⟨_, rfl, x, dx3, _, rfl, hx3, rf_no _ _ _ _ nf_take, x, ts, _, o + 1, _, _, rfl, R3, so_lpar, sees_yes hd, fun H4 b4 R4 => ?_⟩
        obtain ⟨L4, dx4, n4, hx4, hT4⟩ := id R4
        have d4 := drop_one hd
        refine ⟨_, rfl, x, dx4, _, rfl, hx4, rf_no _ _ _ _ nf_type_parts, x, ts, _, o + 1, a, _, rfl, R4, d4, (by intro z; cases z), (by omega), (by omega), fun r5 H5 b5 R5 P5 => ?_⟩
        obtain ⟨L5, dx5, n5, hx5, hT5⟩ := id R5
        have d5 := drop_app d4
        refine ⟨_, rfl, x, dx5, _, rfl, hx5, rf_no _ _ _ _ nf_sees, x, ts, _, o + 1, _, _, rfl, R5, so_comma, fun H6 s6 => ?_⟩
        rw [sees_yes d5]
        refine ⟨_, rfl, ?_⟩
        refine iteT ?_
        have hx6 := s6 _ _ hx5
        refine ⟨_, rfl, x, E.C, dx5, _, _, rfl, hx6, E.cl, E.n_pos, rf_pos _ _ _ _, _, _, rfl, rfl, dx5, _, hx6, rf_size _ _ _ _, ?_⟩
        obtain ⟨R7, b7, t7⟩ := RdAt.step3 hx6 (hT5.keep hx5 (But.of s6))
        obtain ⟨L7, dx7, n7, hx7, hT7⟩ := id R7
        have d7 := drop_one d5
        refine ⟨_, rfl, x, dx7, _, rfl, hx7, rf_no _ _ _ _ nf_type_parts, x, ts, _, o + 1, b, _, rfl, R7, d7, (by intro z; cases z), (by omega), (by omega), fun r8 H8 b8 R8 P8 => ?_⟩
        have P5' := ((P5.keep (Tups.of s6)).keep t7).keep (R7.tups b8)
        have d8 := drop_app d7
        obtain ⟨L8, dx8, n8, hx8, hT8⟩ := id R8
        obtain ⟨a1, w1, rfl, e1, v1⟩ := P5'
        obtain ⟨a2, w2, rfl, e2', v2⟩ := P8
        refine ⟨_, rfl, x, dx8, _, rfl, hx8, rf_no _ _ _ _ nf_made, _, rfl, a1, _, _, _, rfl, rfl, SqT.of e1, atI_nat (j := 0) rfl, _, rfl, a2, _, _, _, rfl, rfl, SqT.of e2', atI_nat (j := 0) rfl, (by show 3 ≤ sizeLine; decide), fun c hc => ?_⟩
        refine ⟨_, rfl, _, rfl, (by show 2 ≤ sizeLine; decide), fun l hl => ?_⟩
        refine made_sp (rs := [a1, a2]) (hs := [a.h, b.h]) hc hl ⟨⟨_, e1⟩, ⟨_, e2'⟩, True.intro⟩ (.cons (.str _) (.cons v1 (.cons v2 .nil))) (by show 2 ≤ 10; omega) (by rw [mx2]; omega) fun r H9 s89 HP => ?_
        rw [mx2] at HP
        have R9 := R8.same s89
        obtain ⟨L9, dx9, n9, hx9, hT9⟩ := id R9
        refine ⟨_, rfl, x, dx9, _, rfl, hx9, rf_no _ _ _ _ nf_take, x, ts, _, o + 1, _, _, rfl, R9, so_rpar, sees_yes d8, fun H10 b10 R10 => ?_⟩
        have el : p + 1 + a.toks.length + 1 + b.toks.length + 1 = p + (.sign "(" :: (a.toks ++ .sign "," :: (b.toks ++ [.sign ")"])) : List Tk).length := by
          simp only [List.length_cons, List.length_append, List.length_nil]; omega
        rw [← el] at fin
        exact fin H10 _ (((((((But.of s3).trans b4).trans b5).same s6).trans b7).trans b8).same s89 |>.trans b10) R10 (HP.keep (R9.tups b10)) _ _ _ _
      | fn a b =>
        have hfn : t.isFn = true := by rw [ht]; rfl
        have et : t.stoks = .sign "(" :: (t.toks ++ [.sign ")"]) := Ty.stoks_fn hfn
        rw [hfn] at hn ho
        have hn : 3 * t.h + 7 ≤ n + 1 := hn
        have ho : o + 2 * t.h + 1 ≤ 60 := ho
        rw [et] at hd fin
        have hd : ts.drop p = .sign "(" :: (t.toks ++ (.sign ")" :: rest)) := by rw [hd]; simp
        have e2 := at_cons hd
        have ek : kindAt ts p = "sign" := kind_name e2
        refine ⟨_, rfl, rfl, _, rfl, ?_⟩
        rw [ek]
        refine dF (vne k_sw) ?_
        refine iteF ?_
        refine ⟨_, rfl, x, dx2, _, rfl, hx2, rf_no _ _ _ _ nf_sees, x, ts, _, o + 1, _, _, rfl, R2, so_wbox, fun H3 s3 => ?_⟩
        rw [word_no hd (by intro z; cases z)]
        refine ⟨_, rfl, ?_⟩
        refine iteF ?_
        have R3 := R2.same s3
        obtain ⟨L3, dx3, n3, hx3, hT3⟩ := id R3
        refine ⟨_, rfl, x, dx3, _, rfl, hx3, rf_no _ _ _ _ nf_take, x, ts, _, o + 1, _, _, rfl, R3, so_lpar, sees_yes hd, fun H4 b4 R4 => ?_⟩
        obtain ⟨L4, dx4, n4, hx4, hT4⟩ := id R4
        have d4 := drop_one hd
        refine ⟨_, rfl, x, dx4, _, rfl, hx4, rf_no _ _ _ _ nf_type_parts, x, ts, _, o + 1, t, _, rfl, R4, d4, (by intro z; cases z), (by omega), (by omega), fun r5 H5 b5 R5 P5 => ?_⟩
        obtain ⟨L5, dx5, n5, hx5, hT5⟩ := id R5
        have d5 := drop_app d4
        refine ⟨_, rfl, x, dx5, _, rfl, hx5, rf_no _ _ _ _ nf_sees, x, ts, _, o + 1, _, _, rfl, R5, so_comma, fun H6 s6 => ?_⟩
        rw [sees_no d5 (by intro z; have z := Option.some.inj z; injection z with z; exact absurd z (by decide +kernel))]
        refine ⟨_, rfl, ?_⟩
        refine iteF ?_
        have R6 := R5.same s6
        obtain ⟨L6, dx6, n6, hx6, hT6⟩ := id R6
        refine ⟨_, rfl, x, dx6, _, rfl, hx6, rf_no _ _ _ _ nf_take, x, ts, _, o + 1, _, _, rfl, R6, so_rpar, sees_yes d5, fun H7 b7 R7 => ?_⟩
        have el : p + 1 + t.toks.length + 1 = p + (.sign "(" :: (t.toks ++ [.sign ")"]) : List Tk).length := by
          simp only [List.length_cons, List.length_append, List.length_nil]; omega
        rw [← el] at fin
        exact fin H7 _ (((((But.of s3).trans b4).trans b5).same s6).trans b7) R7 ((P5.keep (Tups.of s6)).keep (R6.tups b7)) _ _ _ _
theorem tp_all (E : Env K mg) : ∀ n : Nat, FnOk P w K mg base CX0 n E.a_r_type_parts E.d_r_type_parts ["self"] (spTP E.C n) ∧ FnOk P w K mg base CX0 n E.a_r_simple_type E.d_r_simple_type ["self"] (spST E.C n)
  | 0 => by
    have no1 : ∀ vs H Q E', ¬ spTP E.C 0 vs H Q E' := fun vs H Q E' h => by
      obtain ⟨_, _, _, _, _, _, _, _, _, _, h1, _⟩ := h
      omega
    have no2 : ∀ vs H Q E', ¬ spST E.C 0 vs H Q E' := fun vs H Q E' h => by
      obtain ⟨_, _, _, _, _, _, _, _, _, h1, _⟩ := h
      revert h1
      split <;> omega
    exact ⟨⟨fun vs H Q E' h => absurd h (no1 vs H Q E'), fun A outer s H args us vs Q E' _ _ _ _ h => absurd h (no1 vs H Q E')⟩,
      ⟨fun vs H Q E' h => absurd h (no2 vs H Q E'), fun A outer s H args us vs Q E' _ _ _ _ h => absurd h (no2 vs H Q E')⟩⟩
  | n + 1 => by
    have ih := tp_all E n
    exact ⟨ok_tp E ih.2 ih.1, ok_st E ih.2 ih.1⟩
end
end HN
/-! R4: expressions are read: what each method promises; atoms, what stands in parentheses, calls. -/
namespace HN
open PySem TL L2
def Ex.lvl : Ex → Nat
  | .num _ | .flag _ | .unit | .name _ | .pair _ _ | .asT _ _ => 0
  | .call _ _ => 1
  | .un _ _ | .put _ _ => 2
  | .op .times _ _ => 3
  | .op .plus _ _ | .op .minus _ _ => 4
  | .op .lt _ _ | .op .eq _ _ => 5
  | .fn _ _ _ | .recf _ _ _ _ _ | .letx _ _ _ | .ite _ _ _ | .print _ _ => 6
def rk : Tk → Nat
  | .name _ | .num _ => 0
  | .word w => if (w == "true" || w == "false" || w == "unit") = true then 0 else 6
  | .sign s => if (s == "(") = true then 0 else if (s == "*") = true then 3 else if (s == "+" || s == "-") = true then 4 else if (s == "<" || s == "==") = true then 5 else 6
/-- the tokens behind do not go on with a part of level L -/
def Follow (L : Nat) (rest : List Tk) : Prop := ∀ t, rest.head? = some t → L < rk t
theorem Follow.le {L M : Nat} {rest : List Tk} (h : Follow L rest) (l : M ≤ L) : Follow M rest := fun t e => Nat.lt_of_le_of_lt l (h t e)
theorem Follow.mk {L : Nat} {t : Tk} {r : List Tk} (h : L < rk t) : Follow L (t :: r) := fun u e => by cases e; exact h
theorem Follow.atom {L : Nat} {rest : List Tk} (h : Follow L rest) : atomB rest.head? = false := by
  cases e : rest.head? with
  | none => rfl
  | some t =>
    have q := h t e
    cases t with
    | name x => exact absurd q (Nat.not_lt_zero _)
    | num x => exact absurd q (Nat.not_lt_zero _)
    | word x =>
      show (x == "true" || x == "false" || x == "unit") = false
      cases z : (x == ("true" : Str) || x == ("false" : Str) || x == ("unit" : Str)) with
      | false => rfl
      | true =>
        simp only [rk, z, if_true] at q
        exact absurd q (Nat.not_lt_zero _)
    | sign x =>
      show (x == "(") = false
      cases z : (x == ("(" : Str)) with
      | false => rfl
      | true =>
        simp only [rk, z, if_true] at q
        exact absurd q (Nat.not_lt_zero _)
def nA (e : Ex) : Nat := if e.isAt then 3 * e.h - 3 else 3 * e.h
def kA (e : Ex) : Nat := if e.isAt then 10 * e.h - 2 else 10 * e.h + 8
theorem nA_at {e : Ex} (h : e.isAt = true) : nA e = 3 * e.h - 3 := by unfold nA; rw [h]; rfl
theorem kA_at {e : Ex} (h : e.isAt = true) : kA e = 10 * e.h - 2 := by unfold kA; rw [h]; rfl
theorem nA_no {e : Ex} (h : e.isAt = false) : nA e = 3 * e.h := by unfold nA; rw [h]; rfl
theorem kA_no {e : Ex} (h : e.isAt = false) : kA e = 10 * e.h + 8 := by unfold kA; rw [h]; rfl
theorem nA_le (e : Ex) : nA e ≤ 3 * e.h := by unfold nA; split <;> omega
theorem kA_le (e : Ex) : kA e ≤ 10 * e.h + 8 := by unfold kA; split <;> omega
theorem kA_ge (e : Ex) : 8 ≤ kA e := by have := e.h_pos; unfold kA; split <;> omega
/-- e, at level L: as an atom, or as it stands -/
def Form (L : Nat) (fts : List Tk) (e : Ex) (need lv : Nat) : Prop :=
  (fts = e.atoks ∧ need = 1 + nA e ∧ lv = kA e) ∨ (fts = e.toks ∧ 1 ≤ e.lvl ∧ e.lvl ≤ L ∧ need = 3 * e.h - 1 ∧ lv = 10 * e.h - 1)
theorem Form.at_ (L : Nat) (e : Ex) : Form L e.atoks e (1 + nA e) (kA e) := .inl ⟨rfl, rfl, rfl⟩
theorem Form.down {L : Nat} {fts : List Tk} {e : Ex} {need lv : Nat} (h : Form (L + 1) fts e need lv) : Form L fts e need lv ∨ (fts = e.toks ∧ e.lvl = L + 1 ∧ need = 3 * e.h - 1 ∧ lv = 10 * e.h - 1) := by
  rcases h with h | ⟨h1, h2, h3, h4, h5⟩
  · exact .inl (.inl h)
  · by_cases q : e.lvl = L + 1
    · exact .inr ⟨h1, q, h4, h5⟩
    · exact .inl (.inr ⟨h1, h2, by omega, h4, h5⟩)
theorem isAt_lvl (e : Ex) : e.isAt = true ↔ e.lvl = 0 := by
  cases e with
  | op s a b => cases s <;> simp [Ex.isAt, Ex.lvl]
  | _ => simp [Ex.isAt, Ex.lvl]
theorem atoks_at {e : Ex} (h : e.isAt = true) : e.atoks = e.toks := by unfold Ex.atoks; rw [h]; rfl
theorem atoks_no {e : Ex} (h : e.isAt = false) : e.atoks = .sign "(" :: (e.toks ++ [.sign ")"]) := by unfold Ex.atoks; rw [h]; rfl
/-- an expression of level at most L, read as an expression -/
theorem Form.of {e : Ex} (h : e.lvl ≤ 5) : ∃ need lv, Form 5 e.toks e need lv ∧ need + 1 ≤ 3 * e.h ∧ lv + 1 ≤ 10 * e.h := by
  have hh := e.h_pos
  by_cases q : e.lvl = 0
  · have ha := (isAt_lvl e).mpr q
    refine ⟨_, _, .inl ⟨(atoks_at ha).symm, rfl, rfl⟩, ?_, ?_⟩
    · rw [nA_at ha]; omega
    · rw [kA_at ha]; omega
  · exact ⟨_, _, .inr ⟨rfl, by omega, h, rfl, rfl⟩, by omega, by omega⟩

section
variable {P : Program} {w : World} {K : PySem.W.Frag} {mg : Str → Option Value} {base : Heap}
abbrev Ok1 (P : Program) (w : World) (K : PySem.W.Frag) (mg : Str → Option Value) (base : Heap) (n : Nat) (a : Addr) (d : FuncData) (sp : Sp) : Prop := FnOk P w K mg base CX0 n a d ["self"] sp
/-- what is promised of an expression read from k tokens -/
def Back (C : Addr) (x : Addr) (ts : List Tk) (p o k : Nat) (e : Ex) (H : Hp) (Q : VK) : Prop := ∀ (r : V) (H' : Hp), But x H H' → RdAt C H' x ts (p + k) o → HasP H' e.d e.h r → Q r H'
def spExpr (C : Addr) (n : Nat) : Sp := fun vs H Q _ => ∃ (x : Addr) (ts : List Tk) (p o : Nat) (e : Ex) (rest : List Tk), vs = [.ref x] ∧ RdAt C H x ts p o ∧ ts.drop p = e.toks ++ rest ∧ Follow 5 rest ∧
  10 * e.h + 6 ≤ n ∧ o + 3 * e.h ≤ 60 ∧ Back C x ts p o e.toks.length e H Q
def spKw (kd : Ex → Bool) (C : Addr) (n : Nat) : Sp := fun vs H Q _ => ∃ (x : Addr) (ts : List Tk) (p o : Nat) (e : Ex) (rest : List Tk), vs = [.ref x] ∧ RdAt C H x ts p o ∧ ts.drop p = e.toks ++ rest ∧ Follow 5 rest ∧ kd e = true ∧
  10 * e.h + 5 ≤ n ∧ o + 3 * e.h ≤ 61 ∧ Back C x ts p o e.toks.length e H Q
def spLv (L : Nat) (C : Addr) (n : Nat) : Sp := fun vs H Q _ => ∃ (x : Addr) (ts : List Tk) (p o : Nat) (e : Ex) (fts rest : List Tk) (need lv : Nat), vs = [.ref x] ∧ RdAt C H x ts p o ∧ ts.drop p = fts ++ rest ∧ Form L fts e need lv ∧ Follow L rest ∧
  lv + L ≤ n ∧ o + need ≤ 60 ∧ Back C x ts p o fts.length e H Q
def spCall (C : Addr) (n : Nat) : Sp := fun vs H Q _ => ∃ (x : Addr) (ts : List Tk) (p o : Nat) (e : Ex) (fts rest : List Tk) (need lv : Nat), vs = [.ref x] ∧ RdAt C H x ts p o ∧ ts.drop p = fts ++ rest ∧ Form 1 fts e need lv ∧ Follow 1 rest ∧
  lv + 1 ≤ n ∧ o + need ≤ 61 ∧ Back C x ts p o fts.length e H Q
def spAtom (C : Addr) (n : Nat) : Sp := fun vs H Q _ => ∃ (x : Addr) (ts : List Tk) (p o : Nat) (e : Ex) (rest : List Tk), vs = [.ref x] ∧ RdAt C H x ts p o ∧ ts.drop p = e.atoks ++ rest ∧
  kA e ≤ n ∧ o + nA e ≤ 60 ∧ Back C x ts p o e.atoks.length e H Q
def spEnc (C : Addr) (n : Nat) : Sp := fun vs H Q _ => ∃ (x : Addr) (ts : List Tk) (p o : Nat) (e : Ex) (inner rest : List Tk), vs = [.ref x] ∧ RdAt C H x ts p o ∧ e.atoks = .sign "(" :: inner ∧ ts.drop p = inner ++ rest ∧
  kA e ≤ n + 1 ∧ o + nA e ≤ 60 ∧ Back C x ts p o inner.length e H Q
def isFun : Ex → Bool | .fn _ _ _ => true | _ => false
def isRec : Ex → Bool | .recf _ _ _ _ _ => true | _ => false
def isLet : Ex → Bool | .letx _ _ _ => true | _ => false
def isIf : Ex → Bool | .ite _ _ _ => true | _ => false
theorem nf_starts : noF "starts_atom" = true := by decide +kernel
theorem nf_enclosed : noF "enclosed" = true := by decide +kernel
theorem nf_atom : noF "atom" = true := by decide +kernel
theorem nf_expression : noF "expression" = true := by decide +kernel
theorem nf_call : noF "call" = true := by decide +kernel
theorem nf_prefix : noF "prefix" = true := by decide +kernel
theorem nf_product : noF "product" = true := by decide +kernel
theorem nf_total : noF "total" = true := by decide +kernel
theorem nf_comparison : noF "comparison" = true := by decide +kernel
theorem nf_function : noF "function" = true := by decide +kernel
theorem nf_recursive : noF "recursive" = true := by decide +kernel
theorem nf_binding : noF "binding" = true := by decide +kernel
theorem nf_conditional : noF "conditional" = true := by decide +kernel
theorem nf_name : noF "name" = true := by decide +kernel
/-- how the tokens of an atom begin -/
theorem atoks_cases (e : Ex) : (∃ n, e = .num n) ∨ (∃ y, e = .name y) ∨ e = .unit ∨ (∃ b, e = .flag b) ∨ ∃ inner, e.atoks = .sign "(" :: inner := by
  cases e with
  | num n => exact .inl ⟨n, rfl⟩
  | name y => exact .inr (.inl ⟨y, rfl⟩)
  | unit => exact .inr (.inr (.inl rfl))
  | flag b => exact .inr (.inr (.inr (.inl ⟨b, rfl⟩)))
  | _ => exact .inr (.inr (.inr (.inr ⟨_, rfl⟩)))
theorem w_ut : decide (V.str "unit" = V.str "unit") = true := decide_eq_true rfl
theorem w_tt : decide (V.str "true" = V.str "true") = true := decide_eq_true rfl
theorem w_ft : decide (V.str "false" = V.str "true") = false := by decide +kernel
theorem w_tu : ¬ (("true" : Str) = "unit") := by decide +kernel
theorem w_fu : ¬ (("false" : Str) = "unit") := by decide +kernel
theorem ok_atom (E : Env K mg) {n : Nat} (g_r_enclosed : Ok1 P w K mg base n E.a_r_enclosed E.d_r_enclosed (spEnc E.C n)) : Ok1 P w K mg base (n + 1) E.a_r_atom E.d_r_atom (spAtom E.C (n + 1)) := by
  refine E.F_r_atom.ok sc_r_atom (fun vs H Q E' h => ?_) (fun cdv A outer s H vs Q E' hr h => ?_)
  · obtain ⟨x, ts, p, o, e, rest, rfl, _⟩ := h
    rfl
  · obtain ⟨x, ts, p, o, e, rest, rfl, hR, hd, hn, ho, q⟩ := h
    have hk := kA_ge e
    have g_r_starts_atom := ok_starts (P := P) (w := w) (base := base) E
    have g_r_made := ok_made (P := P) (w := w) (base := base) E
    have g_r_here := ok_here (P := P) (w := w) (base := base) E
    have h_r_enclosed : Room n _ := hr
    have h_r_starts_atom : Room 2 _ := hr.mono (by omega)
    have h_r_made : Room 1 _ := hr.mono (by omega)
    have h_r_here : Room 1 _ := hr.mono (by omega)
    refine ⟨_, (pss_cons (ps_if (pt_not (pt_val (pe_meth0 (pv 0) E.cl E.M_r_starts_atom g_r_starts_atom h_r_starts_atom E.B_r_starts_atom .nil pass0))) pss_never pss_nil)
      (pss_cons (ps_asg (pe_meth0 (pv 0) E.cl E.M_r_here g_r_here h_r_here E.B_r_here .nil pass0) (pg_tup rfl (pgs_cons (pg_name (i := 1) sc_r_atom.nd rfl (Or.inl rfl)) (pgs_cons (pg_name (i := 2) sc_r_atom.nd rfl (Or.inl rfl)) pgs_nil))))
      (pss_cons (ps_fldaug (pv 0) pe_int in_add)
      (pss_cons (ps_if (pt_cmpR op_eq (pv 1) pe_str (nomark _)) (pss_one (ps_ret (pe_meth (pv 0) E.cl E.M_r_made g_r_made h_r_made E.B_r_made .nil pass0 (pa_cons (pe_tup (pa_cons pe_str (pa_cons (pv 2) pa_nil))) (pa_cons (pe_lst pa_nil) pa_nil))))) pss_nil)
      (pss_cons (ps_if (pt_cmpR op_eq (pv 1) pe_str (nomark _)) (pss_one (ps_ret (pe_meth (pv 0) E.cl E.M_r_made g_r_made h_r_made E.B_r_made .nil pass0 (pa_cons (pe_tup (pa_cons pe_str (pa_cons (pv 2) pa_nil))) (pa_cons (pe_lst pa_nil) pa_nil))))) pss_nil)
      (pss_cons (ps_if (pt_cmpR op_eq (pv 1) pe_str (nomark _)) (pss_one (ps_ret (pe_meth0 (pv 0) E.cl E.M_r_enclosed g_r_enclosed h_r_enclosed E.B_r_enclosed .nil pass0))) pss_nil)
      (pss_cons (ps_if (pt_cmpR op_eq (pv 2) pe_str (nomark _)) (pss_one (ps_ret (pe_meth (pv 0) E.cl E.M_r_made g_r_made h_r_made E.B_r_made .nil pass0 (pa_cons (pe_tup (pa_cons pe_str pa_nil)) (pa_cons (pe_lst pa_nil) pa_nil))))) pss_nil)
      (pss_one (ps_ret (pe_meth (pv 0) E.cl E.M_r_made g_r_made h_r_made E.B_r_made .nil pass0 (pa_cons (pe_tup (pa_cons pe_str (pa_cons (pe_cmpR op_eq (pv 2) pe_str (nomark _)) pa_nil))) (pa_cons (pe_lst pa_nil) pa_nil)))))))))))), ?_⟩
    obtain ⟨L, dx, nn, hx, hT⟩ := id hR
    refine ⟨_, rfl, x, dx, _, rfl, hx, rf_no _ _ _ _ nf_starts, x, ts, p, o, rfl, hR, fun H1 s1 => ⟨_, rfl, ?_⟩⟩
    have R1 := hR.same s1
    obtain ⟨L1, dx1, n1, hx1, hT1⟩ := id R1
    rcases atoks_cases e with ⟨m, rfl⟩ | ⟨y, rfl⟩ | rfl | ⟨b, rfl⟩ | ⟨inner, ei⟩
    · have hd : ts.drop p = .num m :: rest := hd
      have e2 := at_cons hd
      refine nT (by rw [e2]; rfl) ?_
      refine ⟨_, rfl, x, dx1, _, rfl, hx1, rf_no _ _ _ _ nf_here, x, ts, p, o, rfl, R1, fun r2 H2 s2 h2 => ?_⟩
      rw [kind_name e2, val_name e2] at h2
      refine ⟨r2, _, rfl, SqT.of h2, rfl, _, _, rfl, _, _, rfl, rfl, ?_⟩
      have R2 := R1.same s2
      obtain ⟨L2, dx2, n2, hx2, hT2⟩ := id R2
      refine ⟨_, rfl, x, E.C, dx2, _, _, rfl, hx2, E.cl, E.n_pos, rf_pos _ _ _ _, _, _, rfl, rfl, dx2, _, hx2, rf_size _ _ _ _, ?_⟩
      obtain ⟨R3, b3, t3⟩ := RdAt.step3 hx2 hT2
      obtain ⟨L3, dx3, n3, hx3, hT3⟩ := id R3
      refine ⟨_, rfl, rfl, _, rfl, ?_⟩
      refine dF (vne k_un) ?_
      refine ⟨_, rfl, rfl, _, rfl, ?_⟩
      refine dT rfl ?_
      refine ⟨_, rfl, x, dx3, _, rfl, hx3, rf_no _ _ _ _ nf_made, _, rfl, (by show 2 ≤ sizeLine; decide), fun c hc => ⟨(by show 0 ≤ sizeLine; decide), fun l hl => ?_⟩⟩
      refine made_sp (rs := []) (hs := []) hc hl True.intro (.cons (.str _) (.cons (.int _) .nil)) (by show 0 ≤ 10; omega) (by show 1 ≤ 60; omega) fun r H4 s4 P4 => ?_
      exact q _ _ (((But.of (s1.trans s2)).trans b3).same s4) (R3.same s4) P4
    · have hd : ts.drop p = .name y :: rest := hd
      have e2 := at_cons hd
      refine nT (by rw [e2]; rfl) ?_
      refine ⟨_, rfl, x, dx1, _, rfl, hx1, rf_no _ _ _ _ nf_here, x, ts, p, o, rfl, R1, fun r2 H2 s2 h2 => ?_⟩
      rw [kind_name e2, val_name e2] at h2
      refine ⟨r2, _, rfl, SqT.of h2, rfl, _, _, rfl, _, _, rfl, rfl, ?_⟩
      have R2 := R1.same s2
      obtain ⟨L2, dx2, n2, hx2, hT2⟩ := id R2
      refine ⟨_, rfl, x, E.C, dx2, _, _, rfl, hx2, E.cl, E.n_pos, rf_pos _ _ _ _, _, _, rfl, rfl, dx2, _, hx2, rf_size _ _ _ _, ?_⟩
      obtain ⟨R3, b3, t3⟩ := RdAt.step3 hx2 hT2
      obtain ⟨L3, dx3, n3, hx3, hT3⟩ := id R3
      refine ⟨_, rfl, rfl, _, rfl, ?_⟩
      refine dT rfl ?_
      refine ⟨_, rfl, x, dx3, _, rfl, hx3, rf_no _ _ _ _ nf_made, _, rfl, (by show 2 ≤ sizeLine; decide), fun c hc => ⟨(by show 0 ≤ sizeLine; decide), fun l hl => ?_⟩⟩
      refine made_sp (rs := []) (hs := []) hc hl True.intro (.cons (.str _) (.cons (.str _) .nil)) (by show 0 ≤ 10; omega) (by show 1 ≤ 60; omega) fun r H4 s4 P4 => ?_
      exact q _ _ (((But.of (s1.trans s2)).trans b3).same s4) (R3.same s4) P4
    · have hd : ts.drop p = .word "unit" :: rest := hd
      have e2 := at_cons hd
      refine nT (by rw [e2]; decide +kernel) ?_
      refine ⟨_, rfl, x, dx1, _, rfl, hx1, rf_no _ _ _ _ nf_here, x, ts, p, o, rfl, R1, fun r2 H2 s2 h2 => ?_⟩
      rw [kind_name e2, val_name e2] at h2
      refine ⟨r2, _, rfl, SqT.of h2, rfl, _, _, rfl, _, _, rfl, rfl, ?_⟩
      have R2 := R1.same s2
      obtain ⟨L2, dx2, n2, hx2, hT2⟩ := id R2
      refine ⟨_, rfl, x, E.C, dx2, _, _, rfl, hx2, E.cl, E.n_pos, rf_pos _ _ _ _, _, _, rfl, rfl, dx2, _, hx2, rf_size _ _ _ _, ?_⟩
      obtain ⟨R3, b3, t3⟩ := RdAt.step3 hx2 hT2
      obtain ⟨L3, dx3, n3, hx3, hT3⟩ := id R3
      refine ⟨_, rfl, rfl, _, rfl, ?_⟩
      refine dF (vne k_wn) ?_
      refine ⟨_, rfl, rfl, _, rfl, ?_⟩
      refine dF (vne k_wu) ?_
      refine ⟨_, rfl, rfl, _, rfl, ?_⟩
      refine dF (vne k_ws) ?_
      refine ⟨_, rfl, rfl, _, rfl, ?_⟩
      refine dT rfl ?_
      refine ⟨_, rfl, x, dx3, _, rfl, hx3, rf_no _ _ _ _ nf_made, (by show 1 ≤ sizeLine; decide), fun c hc => ⟨(by show 0 ≤ sizeLine; decide), fun l hl => ?_⟩⟩
      refine made_sp (rs := []) (hs := []) hc hl True.intro (.cons (.str _) .nil) (by show 0 ≤ 10; omega) (by show 1 ≤ 60; omega) fun r H4 s4 P4 => ?_
      exact q _ _ (((But.of (s1.trans s2)).trans b3).same s4) (R3.same s4) P4
    · have hd : ts.drop p = .word (if b then "true" else "false") :: rest := hd
      have e2 := at_cons hd
      refine nT (by rw [e2]; cases b <;> decide +kernel) ?_
      refine ⟨_, rfl, x, dx1, _, rfl, hx1, rf_no _ _ _ _ nf_here, x, ts, p, o, rfl, R1, fun r2 H2 s2 h2 => ?_⟩
      rw [kind_name e2, val_name e2] at h2
      refine ⟨r2, _, rfl, SqT.of h2, rfl, _, _, rfl, _, _, rfl, rfl, ?_⟩
      have R2 := R1.same s2
      obtain ⟨L2, dx2, n2, hx2, hT2⟩ := id R2
      refine ⟨_, rfl, x, E.C, dx2, _, _, rfl, hx2, E.cl, E.n_pos, rf_pos _ _ _ _, _, _, rfl, rfl, dx2, _, hx2, rf_size _ _ _ _, ?_⟩
      obtain ⟨R3, b3, t3⟩ := RdAt.step3 hx2 hT2
      obtain ⟨L3, dx3, n3, hx3, hT3⟩ := id R3
      refine ⟨_, rfl, rfl, _, rfl, ?_⟩
      refine dF (vne k_wn) ?_
      refine ⟨_, rfl, rfl, _, rfl, ?_⟩
      refine dF (vne k_wu) ?_
      refine ⟨_, rfl, rfl, _, rfl, ?_⟩
      refine dF (vne k_ws) ?_
      refine ⟨_, rfl, rfl, _, rfl, ?_⟩
      refine dF (by cases b; exact vne w_fu; exact vne w_tu) ?_
      refine ⟨_, rfl, x, dx3, _, rfl, hx3, rf_no _ _ _ _ nf_made, _, rfl, rfl, (by show 2 ≤ sizeLine; decide), fun c hc => ⟨(by show 0 ≤ sizeLine; decide), fun l hl => ?_⟩⟩
      have eb : decide (V.str (if b = true then "true" else "false") = V.str "true") = b := by cases b; exact w_ft; exact w_tt
      refine made_sp (rs := []) (hs := []) (ds := [.str "flag", .bool b]) hc hl True.intro (.cons (.str _) (.cons ?_ .nil)) (by show 0 ≤ 10; omega) (by show 1 ≤ 60; omega) fun r H4 s4 P4 => ?_
      · show Has _ (.bool b) (V.bl (decide (V.str (if b = true then "true" else "false") = V.str "true")))
        rw [eb]
        exact .bl b
      exact q _ _ (((But.of (s1.trans s2)).trans b3).same s4) (R3.same s4) P4
    · have hd : ts.drop p = .sign "(" :: (inner ++ rest) := by rw [hd, ei]; rfl
      have e2 := at_cons hd
      refine nT (by rw [e2]; decide +kernel) ?_
      refine ⟨_, rfl, x, dx1, _, rfl, hx1, rf_no _ _ _ _ nf_here, x, ts, p, o, rfl, R1, fun r2 H2 s2 h2 => ?_⟩
      rw [kind_name e2, val_name e2] at h2
      refine ⟨r2, _, rfl, SqT.of h2, rfl, _, _, rfl, _, _, rfl, rfl, ?_⟩
      have R2 := R1.same s2
      obtain ⟨L2, dx2, n2, hx2, hT2⟩ := id R2
      refine ⟨_, rfl, x, E.C, dx2, _, _, rfl, hx2, E.cl, E.n_pos, rf_pos _ _ _ _, _, _, rfl, rfl, dx2, _, hx2, rf_size _ _ _ _, ?_⟩
      obtain ⟨R3, b3, t3⟩ := RdAt.step3 hx2 hT2
      obtain ⟨L3, dx3, n3, hx3, hT3⟩ := id R3
      refine ⟨_, rfl, rfl, _, rfl, ?_⟩
      refine dF (vne k_sn) ?_
      refine ⟨_, rfl, rfl, _, rfl, ?_⟩
      refine dF (vne k_su) ?_
      refine ⟨_, rfl, rfl, _, rfl, ?_⟩
      refine dT rfl ?_
      refine ⟨_, rfl, x, dx3, _, rfl, hx3, rf_no _ _ _ _ nf_enclosed, x, ts, p + 1, o, e, inner, rest, rfl, R3, ei, drop_one hd, hn, ho, fun r H4 b4 R4 P4 => ?_⟩
      have el : p + 1 + inner.length = p + e.atoks.length := by rw [ei, List.length_cons]; omega
      rw [el] at R4
      exact q _ _ (((But.of (s1.trans s2)).trans b3).trans b4) R4 P4
end
end HN
/-! R5: what stands in parentheses, calls, prefixes, products, sums, comparisons. -/
namespace HN
open PySem TL L2
theorem so_colon : (PyData.strOk "sign" && PyData.strOk ":") = true := by decide +kernel
theorem so_star : (PyData.strOk "sign" && PyData.strOk "*") = true := by decide +kernel
theorem so_put : (PyData.strOk "word" && PyData.strOk "put") = true := by decide +kernel
theorem sg_ne {a b : Str} {o : List Tk} (h : ¬ a = b) : (Tk.sign a :: o).head? ≠ some (.sign b) := by
  intro z
  have z := Option.some.inj z
  injection z with z
  exact h z
theorem g1 : ¬ ((")" : Str) = ":") := by decide +kernel
theorem g2 : ¬ ((")" : Str) = ",") := by decide +kernel
theorem g3 : ¬ (("," : Str) = ":") := by decide +kernel
theorem g4 : ¬ ((")" : Str) = "->") := by decide +kernel
theorem rk_rp : rk (.sign ")") = 6 := by decide +kernel
theorem rk_cm : rk (.sign ",") = 6 := by decide +kernel
theorem rk_cl : rk (.sign ":") = 6 := by decide +kernel
section
variable {P : Program} {w : World} {K : PySem.W.Frag} {mg : Str → Option Value} {base : Heap}
theorem ok_enclosed (E : Env K mg) {n : Nat} (g_r_expression : Ok1 P w K mg base n E.a_r_expression E.d_r_expression (spExpr E.C n)) : Ok1 P w K mg base (n + 1) E.a_r_enclosed E.d_r_enclosed (spEnc E.C (n + 1)) := by
  refine E.F_r_enclosed.ok sc_r_enclosed (fun vs H Q E' h => ?_) (fun cdv A outer s H vs Q E' hr h => ?_)
  · obtain ⟨x, ts, p, o, e, inner, rest, rfl, _⟩ := h
    rfl
  · obtain ⟨x, ts, p, o, e, inner, rest, rfl, hR, ei, hd, hn, ho, q⟩ := h
    have hk := kA_ge e
    have hh := e.h_pos
    have g_r_type_parts := (tp_all (P := P) (w := w) (base := base) E n).1
    have g_r_sees := ok_sees (P := P) (w := w) (base := base) E
    have g_r_made := ok_made (P := P) (w := w) (base := base) E
    have g_r_take := ok_take (P := P) (w := w) (base := base) E
    have h_r_expression : Room n _ := hr
    have h_r_type_parts : Room n _ := hr
    have h_r_sees : Room 2 _ := hr.mono (by omega)
    have h_r_made : Room 1 _ := hr.mono (by omega)
    have h_r_take : Room 3 _ := hr.mono (by omega)
    refine ⟨_, (pss_cons (ps_set (i := 1) sc_r_enclosed.nd rfl (Or.inl rfl) (pe_meth0 (pv 0) E.cl E.M_r_expression g_r_expression h_r_expression E.B_r_expression .nil pass0))
      (pss_cons (ps_if (pt_val (pe_meth (pv 0) E.cl E.M_r_sees g_r_sees h_r_sees E.B_r_sees .nil pass0 (pa_cons pe_str (pa_cons pe_str pa_nil)))) (pss_cons (ps_fldaug (pv 0) pe_int in_add)
      (pss_cons (ps_set (i := 2) sc_r_enclosed.nd rfl (Or.inl rfl) (pe_meth0 (pv 0) E.cl E.M_r_type_parts g_r_type_parts h_r_type_parts E.B_r_type_parts .nil pass0))
      (pss_one (ps_set (i := 1) sc_r_enclosed.nd rfl (Or.inl rfl) (pe_meth (pv 0) E.cl E.M_r_made g_r_made h_r_made E.B_r_made .nil pass0 (pa_cons (pe_tup (pa_cons pe_str (pa_cons (pe_ix ix_tup (pv 1) pe_int (fun _ _ => rfl)) (pa_cons (pe_ix ix_tup (pv 2) pe_int (fun _ _ => rfl)) pa_nil)))) (pa_cons (pe_lst (pa_cons (pv 1) (pa_cons (pv 2) pa_nil))) pa_nil))))))) (pss_one (ps_if (pt_val (pe_meth (pv 0) E.cl E.M_r_sees g_r_sees h_r_sees E.B_r_sees .nil pass0 (pa_cons pe_str (pa_cons pe_str pa_nil)))) (pss_cons (ps_fldaug (pv 0) pe_int in_add)
      (pss_cons (ps_set (i := 3) sc_r_enclosed.nd rfl (Or.inl rfl) (pe_meth0 (pv 0) E.cl E.M_r_expression g_r_expression h_r_expression E.B_r_expression .nil pass0))
      (pss_one (ps_set (i := 1) sc_r_enclosed.nd rfl (Or.inl rfl) (pe_meth (pv 0) E.cl E.M_r_made g_r_made h_r_made E.B_r_made .nil pass0 (pa_cons (pe_tup (pa_cons pe_str (pa_cons (pe_ix ix_tup (pv 1) pe_int (fun _ _ => rfl)) (pa_cons (pe_ix ix_tup (pv 3) pe_int (fun _ _ => rfl)) pa_nil)))) (pa_cons (pe_lst (pa_cons (pv 1) (pa_cons (pv 3) pa_nil))) pa_nil))))))) pss_nil)))
      (pss_cons (ps_expr (pe_meth (pv 0) E.cl E.M_r_take g_r_take h_r_take E.B_r_take .nil pass0 (pa_cons pe_str (pa_cons pe_str pa_nil))))
      (pss_one (ps_ret (pv 1)))))), ?_⟩
    obtain ⟨L, dx, nn, hx, hT⟩ := id hR
    cases hat : e.isAt with
    | false =>
      rw [atoks_no hat] at ei
      injection ei with _ ei
      subst ei
      rw [kA_no hat] at hn
      rw [nA_no hat] at ho
      have hd : ts.drop p = e.toks ++ (.sign ")" :: rest) := by rw [hd, List.append_assoc]; rfl
      refine ⟨_, rfl, x, dx, _, rfl, hx, rf_no _ _ _ _ nf_expression, x, ts, p, o, e, _, rfl, hR, hd, Follow.mk (by rw [rk_rp]; decide), (by omega), (by omega), fun r1 H1 b1 R1 P1 => ?_⟩
      obtain ⟨L1, dx1, n1, hx1, hT1⟩ := id R1
      have d1 := drop_app hd
      refine ⟨_, rfl, x, dx1, _, rfl, hx1, rf_no _ _ _ _ nf_sees, x, ts, _, o, _, _, rfl, R1, so_colon, fun H2 s2 => ⟨_, rfl, ?_⟩⟩
      refine bF (sees_no d1 (sg_ne g1)) ?_
      have R2 := R1.same s2
      obtain ⟨L2, dx2, n2, hx2, hT2⟩ := id R2
      refine ⟨_, rfl, x, dx2, _, rfl, hx2, rf_no _ _ _ _ nf_sees, x, ts, _, o, _, _, rfl, R2, so_comma, fun H3 s3 => ⟨_, rfl, ?_⟩⟩
      refine bF (sees_no d1 (sg_ne g2)) ?_
      have R3 := R2.same s3
      obtain ⟨L3, dx3, n3, hx3, hT3⟩ := id R3
      refine ⟨_, rfl, x, dx3, _, rfl, hx3, rf_no _ _ _ _ nf_take, x, ts, _, o, _, _, rfl, R3, so_rpar, sees_yes d1, fun H4 b4 R4 => ?_⟩
      have el : p + (e.toks ++ [Tk.sign ")"]).length = p + e.toks.length + 1 := by rw [List.length_append]; rfl
      rw [← el] at R4
      exact ⟨_, rfl, q _ H4 ((b1.same (s2.trans s3)).trans b4) R4 ((P1.keep (Tups.of (s2.trans s3))).keep (R3.tups b4))⟩
    | true =>
      rw [kA_at hat] at hn
      rw [nA_at hat] at ho
      cases e with
      | num m => exact absurd ei (by intro z; cases z)
      | name y => exact absurd ei (by intro z; cases z)
      | unit => exact absurd ei (by intro z; cases z)
      | flag b => exact absurd ei (by intro z; cases z)
      | pair a b =>
        have ei : Tk.sign "(" :: (a.toks ++ .sign "," :: (b.toks ++ [.sign ")"])) = Tk.sign "(" :: inner := ei
        injection ei with _ ei
        subst ei
        have hd : ts.drop p = a.toks ++ (.sign "," :: (b.toks ++ (.sign ")" :: rest))) := by rw [hd]; simp
        have eh : (Ex.pair a b).h = 1 + max a.h b.h := rfl
        have h1 : a.h ≤ max a.h b.h := Nat.le_max_left _ _
        have h2 : b.h ≤ max a.h b.h := Nat.le_max_right _ _
        refine ⟨_, rfl, x, dx, _, rfl, hx, rf_no _ _ _ _ nf_expression, x, ts, p, o, a, _, rfl, hR, hd, Follow.mk (by rw [rk_cm]; decide), (by omega), (by omega), fun r1 H1 b1 R1 P1 => ?_⟩
        obtain ⟨L1, dx1, n1, hx1, hT1⟩ := id R1
        have d1 := drop_app hd
        refine ⟨_, rfl, x, dx1, _, rfl, hx1, rf_no _ _ _ _ nf_sees, x, ts, _, o, _, _, rfl, R1, so_colon, fun H2 s2 => ⟨_, rfl, ?_⟩⟩
        refine bF (sees_no d1 (sg_ne g3)) ?_
        have R2 := R1.same s2
        obtain ⟨L2, dx2, n2, hx2, hT2⟩ := id R2
        refine ⟨_, rfl, x, dx2, _, rfl, hx2, rf_no _ _ _ _ nf_sees, x, ts, _, o, _, _, rfl, R2, so_comma, fun H3 s3 => ⟨_, rfl, ?_⟩⟩
        refine bT (sees_yes d1) ?_
        have R3 := R2.same s3
        obtain ⟨L3, dx3, n3, hx3, hT3⟩ := id R3
        refine ⟨_, rfl, x, E.C, dx3, _, _, rfl, hx3, E.cl, E.n_pos, rf_pos _ _ _ _, _, _, rfl, rfl, dx3, _, hx3, rf_size _ _ _ _, ?_⟩
        obtain ⟨R4, b4, t4⟩ := RdAt.step3 hx3 hT3
        obtain ⟨L4, dx4, n4, hx4, hT4⟩ := id R4
        have d4 := drop_one d1
        refine ⟨_, rfl, x, dx4, _, rfl, hx4, rf_no _ _ _ _ nf_expression, x, ts, _, o, b, _, rfl, R4, d4, Follow.mk (by rw [rk_rp]; decide), (by omega), (by omega), fun r5 H5 b5 R5 P5 => ?_⟩
        have P1' := ((P1.keep (Tups.of (s2.trans s3))).keep t4).keep (R4.tups b5)
        have d5 := drop_app d4
        obtain ⟨L5, dx5, n5, hx5, hT5⟩ := id R5
        obtain ⟨a1, w1, rfl, e1, v1⟩ := P1'
        obtain ⟨a2, w2, rfl, e2, v2⟩ := P5
        refine ⟨_, rfl, x, dx5, _, rfl, hx5, rf_no _ _ _ _ nf_made, _, rfl, a1, _, _, _, rfl, rfl, SqT.of e1, atI_nat (j := 0) rfl, _, rfl, a2, _, _, _, rfl, rfl, SqT.of e2, atI_nat (j := 0) rfl, (by show 3 ≤ sizeLine; decide), fun c hc => ?_⟩
        refine ⟨_, rfl, _, rfl, (by show 2 ≤ sizeLine; decide), fun l hl => ?_⟩
        refine made_sp (rs := [a1, a2]) (hs := [a.h, b.h]) hc hl ⟨⟨_, e1⟩, ⟨_, e2⟩, True.intro⟩ (.cons (.str _) (.cons v1 (.cons v2 .nil))) (by show 2 ≤ 10; omega) (by rw [mx2]; omega) fun r H6 s6 P6 => ?_
        have R6 := R5.same s6
        obtain ⟨L6, dx6, n6, hx6, hT6⟩ := id R6
        refine ⟨_, rfl, x, dx6, _, rfl, hx6, rf_no _ _ _ _ nf_take, x, ts, _, o, _, _, rfl, R6, so_rpar, sees_yes d5, fun H7 b7 R7 => ?_⟩
        have el : p + (a.toks ++ Tk.sign "," :: (b.toks ++ [.sign ")"])).length = p + a.toks.length + 1 + b.toks.length + 1 := by
          simp only [List.length_cons, List.length_append, List.length_nil]; omega
        rw [← el] at R7
        rw [mx2] at P6
        exact ⟨_, rfl, q _ H7 (((((b1.same (s2.trans s3)).trans b4).trans b5).same s6).trans b7) R7 (P6.keep (R6.tups b7))⟩
      | asT a t =>
        have ei : Tk.sign "(" :: (a.toks ++ .sign ":" :: (t.toks ++ [.sign ")"])) = Tk.sign "(" :: inner := ei
        injection ei with _ ei
        subst ei
        have hd : ts.drop p = a.toks ++ (.sign ":" :: (t.toks ++ (.sign ")" :: rest))) := by rw [hd]; simp
        have eh : (Ex.asT a t).h = 1 + max a.h t.h := rfl
        have h1 : a.h ≤ max a.h t.h := Nat.le_max_left _ _
        have h2 : t.h ≤ max a.h t.h := Nat.le_max_right _ _
        refine ⟨_, rfl, x, dx, _, rfl, hx, rf_no _ _ _ _ nf_expression, x, ts, p, o, a, _, rfl, hR, hd, Follow.mk (by rw [rk_cl]; decide), (by omega), (by omega), fun r1 H1 b1 R1 P1 => ?_⟩
        obtain ⟨L1, dx1, n1, hx1, hT1⟩ := id R1
        have d1 := drop_app hd
        refine ⟨_, rfl, x, dx1, _, rfl, hx1, rf_no _ _ _ _ nf_sees, x, ts, _, o, _, _, rfl, R1, so_colon, fun H2 s2 => ⟨_, rfl, ?_⟩⟩
        refine bT (sees_yes d1) ?_
        have R3 := R1.same s2
        obtain ⟨L3, dx3, n3, hx3, hT3⟩ := id R3
        refine ⟨_, rfl, x, E.C, dx3, _, _, rfl, hx3, E.cl, E.n_pos, rf_pos _ _ _ _, _, _, rfl, rfl, dx3, _, hx3, rf_size _ _ _ _, ?_⟩
        obtain ⟨R4, b4, t4⟩ := RdAt.step3 hx3 hT3
        obtain ⟨L4, dx4, n4, hx4, hT4⟩ := id R4
        have d4 := drop_one d1
        refine ⟨_, rfl, x, dx4, _, rfl, hx4, rf_no _ _ _ _ nf_type_parts, x, ts, _, o, t, _, rfl, R4, d4, (by exact sg_ne g4), (by omega), (by omega), fun r5 H5 b5 R5 P5 => ?_⟩
        have P1' := ((P1.keep (Tups.of s2)).keep t4).keep (R4.tups b5)
        have d5 := drop_app d4
        obtain ⟨L5, dx5, n5, hx5, hT5⟩ := id R5
        obtain ⟨a1, w1, rfl, e1, v1⟩ := P1'
        obtain ⟨a2, w2, rfl, e2, v2⟩ := P5
        refine ⟨_, rfl, x, dx5, _, rfl, hx5, rf_no _ _ _ _ nf_made, _, rfl, a1, _, _, _, rfl, rfl, SqT.of e1, atI_nat (j := 0) rfl, _, rfl, a2, _, _, _, rfl, rfl, SqT.of e2, atI_nat (j := 0) rfl, (by show 3 ≤ sizeLine; decide), fun c hc => ?_⟩
        refine ⟨_, rfl, _, rfl, (by show 2 ≤ sizeLine; decide), fun l hl => ?_⟩
        refine made_sp (rs := [a1, a2]) (hs := [a.h, t.h]) hc hl ⟨⟨_, e1⟩, ⟨_, e2⟩, True.intro⟩ (.cons (.str _) (.cons v1 (.cons v2 .nil))) (by show 2 ≤ 10; omega) (by rw [mx2]; omega) fun r H6 s6 P6 => ?_
        have R6 := R5.same s6
        obtain ⟨L6, dx6, n6, hx6, hT6⟩ := id R6
        refine ⟨_, rfl, x, dx6, _, rfl, hx6, rf_no _ _ _ _ nf_take, x, ts, _, o, _, _, rfl, R6, so_rpar, sees_yes d5, fun H7 b7 R7 => ?_⟩
        have el : p + (a.toks ++ Tk.sign ":" :: (t.toks ++ [.sign ")"])).length = p + a.toks.length + 1 + t.toks.length + 1 := by
          simp only [List.length_cons, List.length_append, List.length_nil]; omega
        rw [← el] at R7
        rw [mx2] at P6
        exact ⟨_, rfl, q _ H7 (((((b1.same s2).trans b4).trans b5).same s6).trans b7) R7 (P6.keep (R6.tups b7))⟩
      | _ => exact absurd hat (by intro z; cases z)

theorem raw_call {e : Ex} {L : Nat} (h : e.lvl = 1) : ∃ f a, e = .call f a := by
  cases e with
  | call f a => exact ⟨f, a, rfl⟩
  | op s a b => cases s <;> cases h
  | _ => cases h
theorem ok_call (E : Env K mg) {n : Nat} (g_r_atom : Ok1 P w K mg base n E.a_r_atom E.d_r_atom (spAtom E.C n)) : Ok1 P w K mg base (n + 1) E.a_r_call E.d_r_call (spCall E.C (n + 1)) := by
  refine E.F_r_call.ok sc_r_call (fun vs H Q E' h => ?_) (fun cdv A outer s H vs Q E' hr h => ?_)
  · obtain ⟨x, ts, p, o, e, fts, rest, need, lv, rfl, _⟩ := h
    rfl
  · obtain ⟨x, ts, p, o, e, fts, rest, need, lv, rfl, hR, hd, hF, hW, hn, ho, q⟩ := h
    have hh := e.h_pos
    have hk := kA_ge e
    have n8 : 8 ≤ lv := by
      rcases hF with ⟨_, _, h3⟩ | ⟨_, _, _, _, h3⟩ <;> omega
    have g_r_starts_atom := ok_starts (P := P) (w := w) (base := base) E
    have g_r_made := ok_made (P := P) (w := w) (base := base) E
    have h_r_atom : Room n _ := hr
    have h_r_starts_atom : Room 2 _ := hr.mono (by omega)
    have h_r_made : Room 1 _ := hr.mono (by omega)
    refine ⟨_, (pss_cons (ps_set (i := 1) sc_r_call.nd rfl (Or.inl rfl) (pe_meth0 (pv 0) E.cl E.M_r_atom g_r_atom h_r_atom E.B_r_atom .nil pass0))
      (pss_cons (ps_while PassesOwn.never (pt_val (pe_meth0 (pv 0) E.cl E.M_r_starts_atom g_r_starts_atom h_r_starts_atom E.B_r_starts_atom .nil pass0)) (pss_cons (ps_set (i := 2) sc_r_call.nd rfl (Or.inl rfl) (pe_meth0 (pv 0) E.cl E.M_r_atom g_r_atom h_r_atom E.B_r_atom .nil pass0))
      (pss_one (ps_set (i := 1) sc_r_call.nd rfl (Or.inl rfl) (pe_meth (pv 0) E.cl E.M_r_made g_r_made h_r_made E.B_r_made .nil pass0 (pa_cons (pe_tup (pa_cons pe_str (pa_cons (pe_ix ix_tup (pv 1) pe_int (fun _ _ => rfl)) (pa_cons (pe_ix ix_tup (pv 2) pe_int (fun _ _ => rfl)) pa_nil)))) (pa_cons (pe_lst (pa_cons (pv 1) (pa_cons (pv 2) pa_nil))) pa_nil)))))))
      (pss_one (ps_ret (pv 1))))), ?_⟩
    obtain ⟨L, dx, nn, hx, hT⟩ := id hR
    rcases hF.down with h0 | ⟨e1, e2, e3, e4⟩
    · rcases h0 with ⟨e1, e2, e3⟩ | ⟨_, e2, e3, _⟩
      · subst e1 e2 e3
        refine ⟨_, rfl, x, dx, _, rfl, hx, rf_no _ _ _ _ nf_atom, x, ts, p, o, e, rest, rfl, hR, hd, (by omega), (by omega), fun r1 H1 b1 R1 P1 => ?_⟩
        refine ⟨fun m σ H' => σ = [some (.ref x), some r1, none] ∧ H' = H1, ⟨0, rfl, rfl⟩, ?_⟩
        rintro m σ H' ⟨rfl, rfl⟩
        obtain ⟨L1, dx1, n1, hx1, hT1⟩ := id R1
        refine ⟨_, rfl, x, dx1, _, rfl, hx1, rf_no _ _ _ _ nf_starts, x, ts, _, o, rfl, R1, fun H2 s2 => ⟨_, rfl, ?_⟩⟩
        refine bF (by rw [at_head, drop_app hd]; exact hW.atom) ?_
        exact ⟨_, rfl, q _ H2 (b1.same s2) (R1.same s2) (P1.keep (Tups.of s2))⟩
      · omega
    · obtain ⟨f, a, rfl⟩ := raw_call (L := 0) e2
      subst e1 e3 e4
      have eh : (Ex.call f a).h = 1 + max f.h a.h := rfl
      have h1 : f.h ≤ max f.h a.h := Nat.le_max_left _ _
      have h2 : a.h ≤ max f.h a.h := Nat.le_max_right _ _
      have k1 := kA_le f
      have k2 := kA_le a
      have k3 := nA_le f
      have k4 := nA_le a
      have et : (Ex.call f a).toks = f.atoks ++ a.atoks := rfl
      rw [et] at hd q
      have hd : ts.drop p = f.atoks ++ (a.atoks ++ rest) := by rw [hd, List.append_assoc]
      have d1 := drop_app hd
      have d2 := drop_app d1
      refine ⟨_, rfl, x, dx, _, rfl, hx, rf_no _ _ _ _ nf_atom, x, ts, p, o, f, _, rfl, hR, hd, (by omega), (by omega), fun r1 H1 b1 R1 P1 => ?_⟩
      refine ⟨fun m σ H' => (m = 1 ∧ σ = [some (.ref x), some r1, none] ∧ H' = H1) ∨ (m = 0 ∧ ∃ r rr, σ = [some (.ref x), some r, rr] ∧ But x H H' ∧ RdAt E.C H' x ts (p + (f.atoks ++ a.atoks).length) o ∧ HasP H' (Ex.call f a).d (Ex.call f a).h r), ⟨1, .inl ⟨rfl, rfl, rfl⟩⟩, ?_⟩
      rintro m σ H' (⟨rfl, rfl, rfl⟩ | ⟨rfl, r, rr, rfl, b', R', P'⟩)
      · obtain ⟨L1, dx1, n1, hx1, hT1⟩ := id R1
        refine ⟨_, rfl, x, dx1, _, rfl, hx1, rf_no _ _ _ _ nf_starts, x, ts, _, o, rfl, R1, fun H2 s2 => ⟨_, rfl, ?_⟩⟩
        have ea : atomB ts[p + f.atoks.length]? = true := by
          rw [at_head, d1]
          rcases atoks_cases a with ⟨m, rfl⟩ | ⟨y, rfl⟩ | rfl | ⟨b, rfl⟩ | ⟨inner, ei⟩
          · rfl
          · rfl
          · show atomB (some (.word "unit")) = true
            decide +kernel
          · show atomB (some (.word (if b then "true" else "false"))) = true
            cases b <;> decide +kernel
          · rw [ei]
            show atomB (some (.sign "(")) = true
            decide +kernel
        refine bT ea ?_
        refine ⟨fun σ' H' => ∃ r rr, σ' = [some (.ref x), some r, rr] ∧ But x H H' ∧ RdAt E.C H' x ts (p + (f.atoks ++ a.atoks).length) o ∧ HasP H' (Ex.call f a).d (Ex.call f a).h r, fun σ' H' z => ⟨0, by omega, .inr ⟨rfl, z⟩⟩, ?_⟩
        have R2 := R1.same s2
        obtain ⟨L2, dx2, n2, hx2, hT2⟩ := id R2
        refine ⟨_, rfl, x, dx2, _, rfl, hx2, rf_no _ _ _ _ nf_atom, x, ts, _, o, a, rest, rfl, R2, d1, (by omega), (by omega), fun r3 H3 b3 R3 P3 => ?_⟩
        have P1' := (P1.keep (Tups.of s2)).keep (R2.tups b3)
        obtain ⟨L3, dx3, n3, hx3, hT3⟩ := id R3
        obtain ⟨a1, w1, rfl, e1, v1⟩ := P1'
        obtain ⟨a2, w2, rfl, e2, v2⟩ := P3
        refine ⟨_, rfl, x, dx3, _, rfl, hx3, rf_no _ _ _ _ nf_made, _, rfl, a1, _, _, _, rfl, rfl, SqT.of e1, atI_nat (j := 0) rfl, _, rfl, a2, _, _, _, rfl, rfl, SqT.of e2, atI_nat (j := 0) rfl, (by show 3 ≤ sizeLine; decide), fun c hc => ?_⟩
        refine ⟨_, rfl, _, rfl, (by show 2 ≤ sizeLine; decide), fun l hl => ?_⟩
        refine made_sp (rs := [a1, a2]) (hs := [f.h, a.h]) hc hl ⟨⟨_, e1⟩, ⟨_, e2⟩, True.intro⟩ (.cons (.str _) (.cons v1 (.cons v2 .nil))) (by show 2 ≤ 10; omega) (by rw [mx2]; omega) fun r H6 s6 P6 => ?_
        rw [mx2] at P6
        refine ⟨_, _, rfl, ((b1.same s2).trans b3).same s6, ?_, P6⟩
        rw [List.length_append, ← Nat.add_assoc]
        exact R3.same s6
      · obtain ⟨L1, dx1, n1, hx1, hT1⟩ := id R'
        refine ⟨_, rfl, x, dx1, _, rfl, hx1, rf_no _ _ _ _ nf_starts, x, ts, _, o, rfl, R', fun H2 s2 => ⟨_, rfl, ?_⟩⟩
        refine bF (by rw [List.length_append, ← Nat.add_assoc, at_head, d2]; exact hW.atom) ?_
        exact ⟨_, rfl, q _ H2 (b'.same s2) (R'.same s2) (P'.keep (Tups.of s2))⟩
end
end HN
/-! R6: prefixes, products, sums, comparisons. -/
namespace HN
open PySem TL L2
theorem at_sign {ts : List Tk} {p : Nat} (h : V.str (kindAt ts p) = .str "sign") : ∃ y, ts[p]? = some (.sign y) := by
  have h := V.str.inj h
  unfold kindAt at h
  cases e : ts[p]? with
  | none => rw [e] at h; exact absurd h k_es
  | some t =>
    rw [e] at h
    cases t with
    | sign y => exact ⟨y, rfl⟩
    | name y => exact absurd h k_ns
    | num y => exact absurd h k_us
    | word y => exact absurd h k_ws
theorem in2 (s a b : Str) : inV (.str s) [.str a, .str b] = (s == a || s == b) := by
  simp [inV, eqV, BEq.comm (a := s)]
/-- an atom's tokens begin with one that starts an atom -/
theorem first_at (e : Ex) : ∃ t r, e.atoks = t :: r ∧ atomB (some t) = true := by
  rcases atoks_cases e with ⟨m, rfl⟩ | ⟨y, rfl⟩ | rfl | ⟨b, rfl⟩ | ⟨inner, ei⟩
  · exact ⟨_, _, rfl, rfl⟩
  · exact ⟨_, _, rfl, rfl⟩
  · exact ⟨_, _, rfl, by decide +kernel⟩
  · exact ⟨_, _, rfl, by cases b <;> decide +kernel⟩
  · exact ⟨_, _, ei, by decide +kernel⟩
theorem first_form {fts : List Tk} {e : Ex} {need lv : Nat} (h : Form 1 fts e need lv) : ∃ t r, fts = t :: r ∧ atomB (some t) = true := by
  rcases h with ⟨h1, _⟩ | ⟨h1, h2, h3, _⟩
  · rw [h1]; exact first_at e
  · obtain ⟨f, a, rfl⟩ := raw_call (L := 0) (e := e) (by omega)
    obtain ⟨t, r, e1, e2⟩ := first_at f
    have et : (Ex.call f a).toks = f.atoks ++ a.atoks := rfl
    exact ⟨t, r ++ a.atoks, by rw [h1, et, e1]; rfl, e2⟩
theorem raw_prefix {e : Ex} (h : e.lvl = 2) : (∃ k a, e = .un k a) ∨ ∃ a b, e = .put a b := by
  cases e with
  | un k a => exact .inl ⟨k, a, rfl⟩
  | put a b => exact .inr ⟨a, b, rfl⟩
  | op s a b => cases s <;> cases h
  | _ => cases h
theorem prefixes_no {w : Str} (h : atomB (some (.word w)) = true) : inV (.str w) ((["fst", "snd", "box", "get", "not"] : List Str).map V.str) = false ∧ w ≠ "put" := by
  have h : (w == "true" || w == "false" || w == "unit") = true := h
  rw [Bool.or_eq_true, Bool.or_eq_true, beq_iff_eq, beq_iff_eq, beq_iff_eq] at h
  rcases h with (rfl | rfl) | rfl <;> decide +kernel
theorem prefixes_yes (k : Un) : inV (.str k.s) ((["fst", "snd", "box", "get", "not"] : List Str).map V.str) = true := by cases k <;> decide +kernel
theorem prefixes_put : inV (.str "put") ((["fst", "snd", "box", "get", "not"] : List Str).map V.str) = false := by decide +kernel
section
variable {P : Program} {w : World} {K : PySem.W.Frag} {mg : Str → Option Value} {base : Heap}
theorem ok_prefix (E : Env K mg) {n : Nat} (g_r_atom : Ok1 P w K mg base n E.a_r_atom E.d_r_atom (spAtom E.C n)) (g_r_call : Ok1 P w K mg base n E.a_r_call E.d_r_call (spCall E.C n)) (g_r_prefix : Ok1 P w K mg base n E.a_r_prefix E.d_r_prefix (spLv 2 E.C n)) :
    Ok1 P w K mg base (n + 1) E.a_r_prefix E.d_r_prefix (spLv 2 E.C (n + 1)) := by
  refine E.F_r_prefix.ok sc_r_prefix (fun vs H Q E' h => ?_) (fun cdv A outer s H vs Q E' hr h => ?_)
  · obtain ⟨x, ts, p, o, e, fts, rest, need, lv, rfl, _⟩ := h
    rfl
  · obtain ⟨x, ts, p, o, e, fts, rest, need, lv, rfl, hR, hd, hF, hW, hn, ho, q⟩ := h
    have hh := e.h_pos
    have hk := kA_ge e
    have n8 : 8 ≤ lv := by
      rcases hF with ⟨_, _, h3⟩ | ⟨_, _, _, _, h3⟩ <;> omega
    have o1 : 1 ≤ need := by
      rcases hF with ⟨_, h3, _⟩ | ⟨_, _, _, h3, _⟩ <;> omega
    have g_r_sees := ok_sees (P := P) (w := w) (base := base) E
    have g_r_made := ok_made (P := P) (w := w) (base := base) E
    have g_r_enter := ok_enter (P := P) (w := w) (base := base) E
    have g_r_here := ok_here (P := P) (w := w) (base := base) E
    have h_r_atom : Room n _ := hr
    have h_r_call : Room n _ := hr
    have h_r_prefix : Room n _ := hr
    have h_r_sees : Room 2 _ := hr.mono (by omega)
    have h_r_made : Room 1 _ := hr.mono (by omega)
    have h_r_enter : Room 1 _ := hr.mono (by omega)
    have h_r_here : Room 1 _ := hr.mono (by omega)
    refine ⟨_, (pss_cons (ps_expr (pe_meth0 (pv 0) E.cl E.M_r_enter g_r_enter h_r_enter E.B_r_enter .nil pass0))
      (pss_cons (ps_asg (pe_meth0 (pv 0) E.cl E.M_r_here g_r_here h_r_here E.B_r_here .nil pass0) (pg_tup rfl (pgs_cons (pg_name (i := 1) sc_r_prefix.nd rfl (Or.inl rfl)) (pgs_cons (pg_name (i := 2) sc_r_prefix.nd rfl (Or.inl rfl)) pgs_nil))))
      (pss_cons (ps_if (PW.pt (pw_and (pt_cmpR op_eq (pv 1) pe_str (nomark _)) (pw_and1 (pt_cmpR op_in_seq (pv 2) (pe_glob (v := .ref E.a_PREFIXES) rfl E.g_PREFIXES rfl) (by rfl))))) (pss_cons (ps_fldaug (pv 0) pe_int in_add)
      (pss_cons (ps_set (i := 3) sc_r_prefix.nd rfl (Or.inl rfl) (pe_meth0 (pv 0) E.cl E.M_r_prefix g_r_prefix h_r_prefix E.B_r_prefix .nil pass0))
      (pss_one (ps_set (i := 4) sc_r_prefix.nd rfl (Or.inl rfl) (pe_meth (pv 0) E.cl E.M_r_made g_r_made h_r_made E.B_r_made .nil pass0 (pa_cons (pe_tup (pa_cons (pv 2) (pa_cons (pe_ix ix_tup (pv 3) pe_int (fun _ _ => rfl)) pa_nil))) (pa_cons (pe_lst (pa_cons (pv 3) pa_nil)) pa_nil))))))) (pss_one (ps_if (pt_val (pe_meth (pv 0) E.cl E.M_r_sees g_r_sees h_r_sees E.B_r_sees .nil pass0 (pa_cons pe_str (pa_cons pe_str pa_nil)))) (pss_cons (ps_fldaug (pv 0) pe_int in_add)
      (pss_cons (ps_set (i := 5) sc_r_prefix.nd rfl (Or.inl rfl) (pe_meth0 (pv 0) E.cl E.M_r_atom g_r_atom h_r_atom E.B_r_atom .nil pass0))
      (pss_cons (ps_set (i := 6) sc_r_prefix.nd rfl (Or.inl rfl) (pe_meth0 (pv 0) E.cl E.M_r_atom g_r_atom h_r_atom E.B_r_atom .nil pass0))
      (pss_one (ps_set (i := 4) sc_r_prefix.nd rfl (Or.inl rfl) (pe_meth (pv 0) E.cl E.M_r_made g_r_made h_r_made E.B_r_made .nil pass0 (pa_cons (pe_tup (pa_cons pe_str (pa_cons (pe_ix ix_tup (pv 5) pe_int (fun _ _ => rfl)) (pa_cons (pe_ix ix_tup (pv 6) pe_int (fun _ _ => rfl)) pa_nil)))) (pa_cons (pe_lst (pa_cons (pv 5) (pa_cons (pv 6) pa_nil))) pa_nil)))))))) (pss_one (ps_set (i := 4) sc_r_prefix.nd rfl (Or.inl rfl) (pe_meth0 (pv 0) E.cl E.M_r_call g_r_call h_r_call E.B_r_call .nil pass0))))))
      (pss_cons (ps_fldaug (pv 0) pe_int in_sub)
      (pss_one (ps_ret (pv 4))))))), ?_⟩
    obtain ⟨L, dx, nn, hx, hT⟩ := id hR
    refine ⟨_, rfl, x, dx, _, rfl, hx, rf_no _ _ _ _ nf_enter, x, ts, _, o, rfl, hR, (by omega), fun H1 b1 R1 => ?_⟩
    obtain ⟨L1, dx1, n1, hx1, hT1⟩ := id R1
    refine ⟨_, rfl, x, dx1, _, rfl, hx1, rf_no _ _ _ _ nf_here, x, ts, p, o + 1, rfl, R1, fun r2 H2 s2 h2 => ?_⟩
    refine ⟨r2, _, rfl, SqT.of h2, rfl, _, _, rfl, _, _, rfl, rfl, ?_⟩
    have R2 := R1.same s2
    have b2 := b1.same s2
    obtain ⟨L2', dx2, n2, hx2, hT2⟩ := id R2
    have fin : ∀ (H' : Hp) (r : V), But x H2 H' → RdAt E.C H' x ts (p + fts.length) (o + 1) → HasP H' e.d e.h r → ∀ (k v pa f1 f2 : Option V),
        (tSeq (sFldAug K (tVar 0) (tC (.int 1)) rSub "opened") (tRet (tVar 4))) { nx := fun _ H' => Q .non H', rt := Q } [some (.ref x), k, v, pa, some r, f1, f2] H' := by
      intro H' r b' R' P' k v pa f1 f2
      obtain ⟨L', dx', n', hx', hT'⟩ := id R'
      refine ⟨_, rfl, x, E.C, dx', _, _, rfl, hx', E.cl, E.n_opn, rf_opn _ _ _ _, _, _, rfl, rfl, dx', _, hx', rf_size _ _ _ _, ?_⟩
      obtain ⟨R3, b3, t3⟩ := RdAt.shut3 hx' hT'
      exact ⟨_, rfl, q r _ ((b2.trans b').trans b3) R3 (P'.keep t3)⟩
    rcases hF.down with h0 | ⟨e1, e2, e3, e4⟩
    · obtain ⟨t, r, et, ht⟩ := first_form h0
      have hd' : ts.drop p = t :: (r ++ rest) := by rw [hd, et]; rfl
      have e2 := at_cons hd'
      have ns : isTk ts[p]? "word" "put" = false := by
        rw [isTk_word, e2]
        refine decide_eq_false fun z => ?_
        have z := Option.some.inj z
        subst z
        exact (prefixes_no ht).2 rfl
      refine ⟨_, rfl, rfl, _, rfl, ?_⟩
      refine ite2 (fun c => ?_) (fun _ => ?_)
      · obtain ⟨y, ey⟩ := at_word (of_decide_eq_true c)
        have ev : valAt ts p = .str y := val_name ey
        rw [e2] at ey
        have ey := Option.some.inj ey
        subst ey
        refine ⟨_, rfl, E.a_PREFIXES, _, rfl, .inr (E.k_PREFIXES _), ?_⟩
        rw [ev]
        refine ⟨rfl, rfl, _, rfl, ?_⟩
        refine bF (prefixes_no ht).1 ?_
        refine ⟨_, rfl, x, dx2, _, rfl, hx2, rf_no _ _ _ _ nf_sees, x, ts, _, o + 1, _, _, rfl, R2, so_put, fun H3 s3 => ⟨_, rfl, ?_⟩⟩
        refine bF ns ?_
        have R3 := R2.same s3
        obtain ⟨L3, dx3, n3, hx3, hT3⟩ := id R3
        refine ⟨_, rfl, x, dx3, _, rfl, hx3, rf_no _ _ _ _ nf_call, x, ts, p, o + 1, e, fts, rest, need, lv, rfl, R3, hd, h0, hW.le (by omega), (by omega), (by omega), fun r4 H4 b4 R4 P4 => ?_⟩
        exact fin H4 _ ((But.of s3).trans b4) R4 P4 _ _ _ _ _
      · refine iteF ?_
        refine ⟨_, rfl, x, dx2, _, rfl, hx2, rf_no _ _ _ _ nf_sees, x, ts, _, o + 1, _, _, rfl, R2, so_put, fun H3 s3 => ⟨_, rfl, ?_⟩⟩
        refine bF ns ?_
        have R3 := R2.same s3
        obtain ⟨L3, dx3, n3, hx3, hT3⟩ := id R3
        refine ⟨_, rfl, x, dx3, _, rfl, hx3, rf_no _ _ _ _ nf_call, x, ts, p, o + 1, e, fts, rest, need, lv, rfl, R3, hd, h0, hW.le (by omega), (by omega), (by omega), fun r4 H4 b4 R4 P4 => ?_⟩
        exact fin H4 _ ((But.of s3).trans b4) R4 P4 _ _ _ _ _
    · rcases raw_prefix e2 with ⟨k, a, rfl⟩ | ⟨a, b, rfl⟩
      · subst e1 e3 e4
        have et : (Ex.un k a).toks = .word k.s :: a.atoks := rfl
        have eh : (Ex.un k a).h = 1 + a.h := rfl
        rw [et] at hd fin
        have hd : ts.drop p = .word k.s :: (a.atoks ++ rest) := hd
        have e2 := at_cons hd
        have k1 := kA_le a
        have k2 := nA_le a
        have ev : valAt ts p = .str k.s := val_name e2
        refine ⟨_, rfl, rfl, _, rfl, ?_⟩
        refine dT (congrArg V.str (kind_name e2)) ?_
        refine ⟨_, rfl, E.a_PREFIXES, _, rfl, .inr (E.k_PREFIXES _), ?_⟩
        rw [ev]
        refine ⟨rfl, rfl, _, rfl, ?_⟩
        refine bT (prefixes_yes k) ?_
        refine ⟨_, rfl, x, E.C, dx2, _, _, rfl, hx2, E.cl, E.n_pos, rf_pos _ _ _ _, _, _, rfl, rfl, dx2, _, hx2, rf_size _ _ _ _, ?_⟩
        obtain ⟨R4, b4, t4⟩ := RdAt.step3 hx2 hT2
        obtain ⟨L4, dx4, n4, hx4, hT4⟩ := id R4
        refine ⟨_, rfl, x, dx4, _, rfl, hx4, rf_no _ _ _ _ nf_prefix, x, ts, _, o + 1, a, a.atoks, rest, _, _, rfl, R4, drop_one hd, Form.at_ 2 a, hW, (by omega), (by omega), fun r5 H5 b5 R5 P5 => ?_⟩
        obtain ⟨L5, dx5, n5, hx5, hT5⟩ := id R5
        obtain ⟨a1, w1, rfl, e1, v1⟩ := P5
        refine ⟨_, rfl, x, dx5, _, rfl, hx5, rf_no _ _ _ _ nf_made, _, rfl, _, rfl, a1, _, _, _, rfl, rfl, SqT.of e1, atI_nat (j := 0) rfl, (by show 2 ≤ sizeLine; decide), fun c hc => ?_⟩
        refine ⟨_, rfl, (by show 1 ≤ sizeLine; decide), fun l hl => ?_⟩
        refine made_sp (rs := [a1]) (hs := [a.h]) hc hl ⟨⟨_, e1⟩, True.intro⟩ (.cons (.str _) (.cons v1 .nil)) (by show 1 ≤ 10; omega) (by rw [mx1]; omega) fun r H7 s67 P7 => ?_
        rw [mx1] at P7
        have el : p + 1 + a.atoks.length = p + (Tk.word k.s :: a.atoks).length := by rw [List.length_cons]; omega
        rw [← el] at fin
        exact fin H7 _ ((b4.trans b5).same s67) (R5.same s67) P7 _ _ _ _ _
      · subst e1 e3 e4
        have et : (Ex.put a b).toks = .word "put" :: (a.atoks ++ b.atoks) := rfl
        have eh : (Ex.put a b).h = 1 + max a.h b.h := rfl
        have h1 : a.h ≤ max a.h b.h := Nat.le_max_left _ _
        have h2' : b.h ≤ max a.h b.h := Nat.le_max_right _ _
        rw [et] at hd fin
        have hd : ts.drop p = .word "put" :: (a.atoks ++ (b.atoks ++ rest)) := by rw [hd]; simp
        have e2 := at_cons hd
        have k1 := kA_le a
        have k2 := nA_le a
        have k3 := kA_le b
        have k4 := nA_le b
        have ev : valAt ts p = .str "put" := val_name e2
        refine ⟨_, rfl, rfl, _, rfl, ?_⟩
        refine dT (congrArg V.str (kind_name e2)) ?_
        refine ⟨_, rfl, E.a_PREFIXES, _, rfl, .inr (E.k_PREFIXES _), ?_⟩
        rw [ev]
        refine ⟨rfl, rfl, _, rfl, ?_⟩
        refine bF prefixes_put ?_
        refine ⟨_, rfl, x, dx2, _, rfl, hx2, rf_no _ _ _ _ nf_sees, x, ts, _, o + 1, _, _, rfl, R2, so_put, fun H3 s3 => ⟨_, rfl, ?_⟩⟩
        refine bT (word_yes hd) ?_
        have R3 := R2.same s3
        obtain ⟨L3, dx3, n3, hx3, hT3⟩ := id R3
        refine ⟨_, rfl, x, E.C, dx3, _, _, rfl, hx3, E.cl, E.n_pos, rf_pos _ _ _ _, _, _, rfl, rfl, dx3, _, hx3, rf_size _ _ _ _, ?_⟩
        obtain ⟨R4, b4, t4⟩ := RdAt.step3 hx3 hT3
        obtain ⟨L4, dx4, n4, hx4, hT4⟩ := id R4
        have d4 := drop_one hd
        have d5 := drop_app d4
        refine ⟨_, rfl, x, dx4, _, rfl, hx4, rf_no _ _ _ _ nf_atom, x, ts, _, o + 1, a, _, rfl, R4, d4, (by omega), (by omega), fun r5 H5 b5 R5 P5 => ?_⟩
        obtain ⟨L5, dx5, n5, hx5, hT5⟩ := id R5
        refine ⟨_, rfl, x, dx5, _, rfl, hx5, rf_no _ _ _ _ nf_atom, x, ts, _, o + 1, b, _, rfl, R5, d5, (by omega), (by omega), fun r6 H6 b6 R6 P6 => ?_⟩
        have P5' := P5.keep (R5.tups b6)
        obtain ⟨L6, dx6, n6, hx6, hT6⟩ := id R6
        obtain ⟨a1, w1, rfl, e1, v1⟩ := P5'
        obtain ⟨a2, w2, rfl, e2', v2⟩ := P6
        refine ⟨_, rfl, x, dx6, _, rfl, hx6, rf_no _ _ _ _ nf_made, _, rfl, a1, _, _, _, rfl, rfl, SqT.of e1, atI_nat (j := 0) rfl, _, rfl, a2, _, _, _, rfl, rfl, SqT.of e2', atI_nat (j := 0) rfl, (by show 3 ≤ sizeLine; decide), fun c hc => ?_⟩
        refine ⟨_, rfl, _, rfl, (by show 2 ≤ sizeLine; decide), fun l hl => ?_⟩
        refine made_sp (rs := [a1, a2]) (hs := [a.h, b.h]) hc hl ⟨⟨_, e1⟩, ⟨_, e2'⟩, True.intro⟩ (.cons (.str _) (.cons v1 (.cons v2 .nil))) (by show 2 ≤ 10; omega) (by rw [mx2]; omega) fun r H7 s67 P7 => ?_
        rw [mx2] at P7
        have el : p + 1 + a.atoks.length + b.atoks.length = p + (Tk.word "put" :: (a.atoks ++ b.atoks)).length := by rw [List.length_cons, List.length_append]; omega
        rw [← el] at fin
        exact fin H7 _ (((((But.of s3).trans b4).trans b5).trans b6).same s67) (R6.same s67) P7 _ _ _ _ _
end
end HN
/-! R7: products, sums, comparisons. -/
namespace HN
open PySem TL L2
theorem Follow.no {L : Nat} {rest : List Tk} {s : Str} (h : Follow L rest) (hs : rk (.sign s) ≤ L) : rest.head? ≠ some (.sign s) := fun e => by
  have q := h _ e
  omega
theorem rk_star : rk (.sign "*") = 3 := by decide +kernel
theorem rk_plus : rk (.sign "+") = 4 := by decide +kernel
theorem rk_minus : rk (.sign "-") = 4 := by decide +kernel
theorem rk_lt : rk (.sign "<") = 5 := by decide +kernel
theorem rk_eq : rk (.sign "==") = 5 := by decide +kernel
theorem raw_product {e : Ex} (h : e.lvl = 3) : ∃ a b, e = .op .times a b := by
  cases e with
  | op s a b => cases s <;> first | exact ⟨a, b, rfl⟩ | cases h
  | _ => cases h
theorem raw_total {e : Ex} (h : e.lvl = 4) : ∃ s a b, e = .op s a b ∧ (s = .plus ∨ s = .minus) := by
  cases e with
  | op s a b => cases s <;> first | exact ⟨_, a, b, rfl, .inl rfl⟩ | exact ⟨_, a, b, rfl, .inr rfl⟩ | cases h
  | _ => cases h
theorem raw_comparison {e : Ex} (h : e.lvl = 5) : ∃ s a b, e = .op s a b ∧ (s = .lt ∨ s = .eq) := by
  cases e with
  | op s a b => cases s <;> first | exact ⟨_, a, b, rfl, .inl rfl⟩ | exact ⟨_, a, b, rfl, .inr rfl⟩ | cases h
  | _ => cases h
theorem Follow.two {L : Nat} {rest : List Tk} {s a b : Str} (h : Follow L rest) (e : rest.head? = some (.sign s)) (ha : rk (.sign a) ≤ L) (hb : rk (.sign b) ≤ L) : (s == a || s == b) = false := by
  cases z : (s == a || s == b) with
  | false => rfl
  | true =>
    exfalso
    rw [Bool.or_eq_true, beq_iff_eq, beq_iff_eq] at z
    rcases z with rfl | rfl
    · exact h.no ha e
    · exact h.no hb e
section
variable {P : Program} {w : World} {K : PySem.W.Frag} {mg : Str → Option Value} {base : Heap}
theorem form_lv {L : Nat} {fts : List Tk} {e : Ex} {need lv : Nat} (hF : Form L fts e need lv) : 8 ≤ lv ∧ 1 ≤ need := by
  have hh := e.h_pos
  have hk := kA_ge e
  rcases hF with ⟨_, h3, h4⟩ | ⟨_, _, _, h3, h4⟩ <;> omega
theorem ok_product (E : Env K mg) {n : Nat} (g_r_prefix : Ok1 P w K mg base n E.a_r_prefix E.d_r_prefix (spLv 2 E.C n)) : Ok1 P w K mg base (n + 1) E.a_r_product E.d_r_product (spLv 3 E.C (n + 1)) := by
  refine E.F_r_product.ok sc_r_product (fun vs H Q E' h => ?_) (fun cdv A outer s H vs Q E' hr h => ?_)
  · obtain ⟨x, ts, p, o, e, fts, rest, need, lv, rfl, _⟩ := h
    rfl
  · obtain ⟨x, ts, p, o, e, fts, rest, need, lv, rfl, hR, hd, hF, hW, hn, ho, q⟩ := h
    have hh := e.h_pos
    obtain ⟨n8, o1⟩ := form_lv hF
    have g_r_sees := ok_sees (P := P) (w := w) (base := base) E
    have g_r_made := ok_made (P := P) (w := w) (base := base) E
    have h_r_prefix : Room n _ := hr
    have h_r_sees : Room 2 _ := hr.mono (by omega)
    have h_r_made : Room 1 _ := hr.mono (by omega)
    refine ⟨_, (pss_cons (ps_set (i := 1) sc_r_product.nd rfl (Or.inl rfl) (pe_meth0 (pv 0) E.cl E.M_r_prefix g_r_prefix h_r_prefix E.B_r_prefix .nil pass0))
      (pss_cons (ps_while PassesOwn.never (pt_val (pe_meth (pv 0) E.cl E.M_r_sees g_r_sees h_r_sees E.B_r_sees .nil pass0 (pa_cons pe_str (pa_cons pe_str pa_nil)))) (pss_cons (ps_fldaug (pv 0) pe_int in_add)
      (pss_cons (ps_set (i := 2) sc_r_product.nd rfl (Or.inl rfl) (pe_meth0 (pv 0) E.cl E.M_r_prefix g_r_prefix h_r_prefix E.B_r_prefix .nil pass0))
      (pss_one (ps_set (i := 1) sc_r_product.nd rfl (Or.inl rfl) (pe_meth (pv 0) E.cl E.M_r_made g_r_made h_r_made E.B_r_made .nil pass0 (pa_cons (pe_tup (pa_cons pe_str (pa_cons pe_str (pa_cons (pe_ix ix_tup (pv 1) pe_int (fun _ _ => rfl)) (pa_cons (pe_ix ix_tup (pv 2) pe_int (fun _ _ => rfl)) pa_nil))))) (pa_cons (pe_lst (pa_cons (pv 1) (pa_cons (pv 2) pa_nil))) pa_nil))))))))
      (pss_one (ps_ret (pv 1))))), ?_⟩
    obtain ⟨L, dx, nn, hx, hT⟩ := id hR
    have nostar : rest.head? ≠ some (.sign "*") := hW.no (by rw [rk_star]; decide)
    rcases hF.down with h0 | ⟨e1, e2, e3, e4⟩
    · refine ⟨_, rfl, x, dx, _, rfl, hx, rf_no _ _ _ _ nf_prefix, x, ts, p, o, e, fts, rest, need, lv, rfl, hR, hd, h0, hW.le (by omega), (by omega), ho, fun r1 H1 b1 R1 P1 => ?_⟩
      refine ⟨fun m σ H' => σ = [some (.ref x), some r1, none] ∧ H' = H1, ⟨0, rfl, rfl⟩, ?_⟩
      rintro m σ H' ⟨rfl, rfl⟩
      obtain ⟨L1, dx1, n1, hx1, hT1⟩ := id R1
      refine ⟨_, rfl, x, dx1, _, rfl, hx1, rf_no _ _ _ _ nf_sees, x, ts, _, o, _, _, rfl, R1, so_star, fun H2 s2 => ⟨_, rfl, ?_⟩⟩
      refine bF (sees_no (drop_app hd) nostar) ?_
      exact ⟨_, rfl, q _ H2 (b1.same s2) (R1.same s2) (P1.keep (Tups.of s2))⟩
    · obtain ⟨f, a, rfl⟩ := raw_product e2
      subst e1 e3 e4
      have eh : (Ex.op .times f a).h = 1 + max f.h a.h := rfl
      have h1 : f.h ≤ max f.h a.h := Nat.le_max_left _ _
      have h2 : a.h ≤ max f.h a.h := Nat.le_max_right _ _
      have k1 := kA_le f
      have k2 := kA_le a
      have k3 := nA_le f
      have k4 := nA_le a
      have et : (Ex.op .times f a).toks = f.atoks ++ .sign "*" :: a.atoks := rfl
      rw [et] at hd q
      have hd : ts.drop p = f.atoks ++ (.sign "*" :: (a.atoks ++ rest)) := by rw [hd, List.append_assoc]; rfl
      have d1 := drop_app hd
      have d2 := drop_one d1
      have d3 := drop_app d2
      have el : p + f.atoks.length + 1 + a.atoks.length = p + (f.atoks ++ Tk.sign "*" :: a.atoks).length := by rw [List.length_append, List.length_cons]; omega
      refine ⟨_, rfl, x, dx, _, rfl, hx, rf_no _ _ _ _ nf_prefix, x, ts, p, o, f, f.atoks, _, _, _, rfl, hR, hd, Form.at_ 2 f, Follow.mk (by rw [rk_star]; decide), (by omega), (by omega), fun r1 H1 b1 R1 P1 => ?_⟩
      refine ⟨fun m σ H' => (m = 1 ∧ σ = [some (.ref x), some r1, none] ∧ H' = H1) ∨ (m = 0 ∧ ∃ r rr, σ = [some (.ref x), some r, rr] ∧ But x H H' ∧ RdAt E.C H' x ts (p + f.atoks.length + 1 + a.atoks.length) o ∧ HasP H' (Ex.op .times f a).d (Ex.op .times f a).h r), ⟨1, .inl ⟨rfl, rfl, rfl⟩⟩, ?_⟩
      rintro m σ H' (⟨rfl, rfl, rfl⟩ | ⟨rfl, r, rr, rfl, b', R', P'⟩)
      · obtain ⟨L1, dx1, n1, hx1, hT1⟩ := id R1
        refine ⟨_, rfl, x, dx1, _, rfl, hx1, rf_no _ _ _ _ nf_sees, x, ts, _, o, _, _, rfl, R1, so_star, fun H2 s2 => ⟨_, rfl, ?_⟩⟩
        refine bT (sees_yes d1) ?_
        refine ⟨fun σ' H' => ∃ r rr, σ' = [some (.ref x), some r, rr] ∧ But x H H' ∧ RdAt E.C H' x ts (p + f.atoks.length + 1 + a.atoks.length) o ∧ HasP H' (Ex.op .times f a).d (Ex.op .times f a).h r, fun σ' H' z => ⟨0, by omega, .inr ⟨rfl, z⟩⟩, ?_⟩
        have R2 := R1.same s2
        obtain ⟨L2', dx2, n2, hx2, hT2⟩ := id R2
        refine ⟨_, rfl, x, E.C, dx2, _, _, rfl, hx2, E.cl, E.n_pos, rf_pos _ _ _ _, _, _, rfl, rfl, dx2, _, hx2, rf_size _ _ _ _, ?_⟩
        obtain ⟨R4, b4, t4⟩ := RdAt.step3 hx2 hT2
        obtain ⟨L4, dx4, n4, hx4, hT4⟩ := id R4
        refine ⟨_, rfl, x, dx4, _, rfl, hx4, rf_no _ _ _ _ nf_prefix, x, ts, _, o, a, a.atoks, rest, _, _, rfl, R4, d2, Form.at_ 2 a, hW.le (by omega), (by omega), (by omega), fun r3 H3 b3 R3 P3 => ?_⟩
        have P1' := ((P1.keep (Tups.of s2)).keep t4).keep (R4.tups b3)
        obtain ⟨L3, dx3, n3, hx3, hT3⟩ := id R3
        obtain ⟨a1, w1, rfl, e1, v1⟩ := P1'
        obtain ⟨a2, w2, rfl, e2, v2⟩ := P3
        refine ⟨_, rfl, x, dx3, _, rfl, hx3, rf_no _ _ _ _ nf_made, _, rfl, a1, _, _, _, rfl, rfl, SqT.of e1, atI_nat (j := 0) rfl, _, rfl, a2, _, _, _, rfl, rfl, SqT.of e2, atI_nat (j := 0) rfl, (by show 4 ≤ sizeLine; decide), fun c hc => ?_⟩
        refine ⟨_, rfl, _, rfl, (by show 2 ≤ sizeLine; decide), fun l hl => ?_⟩
        refine made_sp (rs := [a1, a2]) (hs := [f.h, a.h]) hc hl ⟨⟨_, e1⟩, ⟨_, e2⟩, True.intro⟩ (.cons (.str _) (.cons (.str _) (.cons v1 (.cons v2 .nil)))) (by show 2 ≤ 10; omega) (by rw [mx2]; omega) fun r H6 s6 P6 => ?_
        rw [mx2] at P6
        exact ⟨_, _, rfl, (((b1.same s2).trans b4).trans b3).same s6, R3.same s6, P6⟩
      · obtain ⟨L1, dx1, n1, hx1, hT1⟩ := id R'
        refine ⟨_, rfl, x, dx1, _, rfl, hx1, rf_no _ _ _ _ nf_sees, x, ts, _, o, _, _, rfl, R', so_star, fun H2 s2 => ⟨_, rfl, ?_⟩⟩
        refine bF (sees_no d3 nostar) ?_
        rw [el] at R'
        exact ⟨_, rfl, q _ H2 (b'.same s2) (R'.same s2) (P'.keep (Tups.of s2))⟩

theorem ok_total (E : Env K mg) {n : Nat} (g_r_product : Ok1 P w K mg base n E.a_r_product E.d_r_product (spLv 3 E.C n)) : Ok1 P w K mg base (n + 1) E.a_r_total E.d_r_total (spLv 4 E.C (n + 1)) := by
  refine E.F_r_total.ok sc_r_total (fun vs H Q E' h => ?_) (fun cdv A outer s H vs Q E' hr h => ?_)
  · obtain ⟨x, ts, p, o, e, fts, rest, need, lv, rfl, _⟩ := h
    rfl
  · obtain ⟨x, ts, p, o, e, fts, rest, need, lv, rfl, hR, hd, hF, hW, hn, ho, q⟩ := h
    have hh := e.h_pos
    obtain ⟨n8, o1⟩ := form_lv hF
    have g_r_here := ok_here (P := P) (w := w) (base := base) E
    have g_r_made := ok_made (P := P) (w := w) (base := base) E
    have h_r_product : Room n _ := hr
    have h_r_here : Room 1 _ := hr.mono (by omega)
    have h_r_made : Room 1 _ := hr.mono (by omega)
    refine ⟨_, (pss_cons (ps_set (i := 1) sc_r_total.nd rfl (Or.inl rfl) (pe_meth0 (pv 0) E.cl E.M_r_product g_r_product h_r_product E.B_r_product .nil pass0))
      (pss_cons (ps_asg (pe_meth0 (pv 0) E.cl E.M_r_here g_r_here h_r_here E.B_r_here .nil pass0) (pg_tup rfl (pgs_cons (pg_name (i := 2) sc_r_total.nd rfl (Or.inl rfl)) (pgs_cons (pg_name (i := 3) sc_r_total.nd rfl (Or.inl rfl)) pgs_nil))))
      (pss_cons (ps_while PassesOwn.never (PW.pt (pw_and (pt_cmpR op_eq (pv 2) pe_str (nomark _)) (pw_and1 (pt_cmpR op_in_seq (pv 3) (pe_tup (pa_cons pe_str (pa_cons pe_str pa_nil))) (by rfl))))) (pss_cons (ps_fldaug (pv 0) pe_int in_add)
      (pss_cons (ps_set (i := 4) sc_r_total.nd rfl (Or.inl rfl) (pe_meth0 (pv 0) E.cl E.M_r_product g_r_product h_r_product E.B_r_product .nil pass0))
      (pss_cons (ps_set (i := 1) sc_r_total.nd rfl (Or.inl rfl) (pe_meth (pv 0) E.cl E.M_r_made g_r_made h_r_made E.B_r_made .nil pass0 (pa_cons (pe_tup (pa_cons pe_str (pa_cons (pv 3) (pa_cons (pe_ix ix_tup (pv 1) pe_int (fun _ _ => rfl)) (pa_cons (pe_ix ix_tup (pv 4) pe_int (fun _ _ => rfl)) pa_nil))))) (pa_cons (pe_lst (pa_cons (pv 1) (pa_cons (pv 4) pa_nil))) pa_nil))))
      (pss_one (ps_asg (pe_meth0 (pv 0) E.cl E.M_r_here g_r_here h_r_here E.B_r_here .nil pass0) (pg_tup rfl (pgs_cons (pg_name (i := 2) sc_r_total.nd rfl (Or.inl rfl)) (pgs_cons (pg_name (i := 3) sc_r_total.nd rfl (Or.inl rfl)) pgs_nil)))))))))
      (pss_one (ps_ret (pv 1)))))), ?_⟩
    obtain ⟨L, dx, nn, hx, hT⟩ := id hR
    rcases hF.down with h0 | ⟨e1, e2, e3, e4⟩
    · refine ⟨_, rfl, x, dx, _, rfl, hx, rf_no _ _ _ _ nf_product, x, ts, p, o, e, fts, rest, need, lv, rfl, hR, hd, h0, hW.le (by omega), (by omega), ho, fun r1 H1 b1 R1 P1 => ?_⟩
      obtain ⟨L1, dx1, n1, hx1, hT1⟩ := id R1
      have d1 := drop_app hd
      refine ⟨_, rfl, x, dx1, _, rfl, hx1, rf_no _ _ _ _ nf_here, x, ts, _, o, rfl, R1, fun r2 H2 s2 h2 => ?_⟩
      refine ⟨r2, _, rfl, SqT.of h2, rfl, _, _, rfl, _, _, rfl, rfl, ?_⟩
      refine ⟨fun m σ H' => σ = [some (.ref x), some r1, some (.str (kindAt ts (p + fts.length))), some (valAt ts (p + fts.length)), none] ∧ H' = H2, ⟨0, rfl, rfl⟩, ?_⟩
      rintro m σ H' ⟨rfl, rfl⟩
      refine ⟨_, rfl, rfl, _, rfl, ?_⟩
      refine ite2 (fun c => ?_) (fun _ => ?_)
      · obtain ⟨y, ey⟩ := at_sign (of_decide_eq_true c)
        have ev : valAt ts (p + fts.length) = .str y := val_name ey
        rw [ev]
        refine ⟨_, rfl, (by show 2 ≤ sizeLine; decide), fun a ha => ⟨a, _, rfl, .inr (SqT.of upd_same), rfl, rfl, _, rfl, ?_⟩⟩
        rw [at_head, d1] at ey
        refine bF ((in2 y "+" "-").trans (hW.two ey (by rw [rk_plus]; decide) (by rw [rk_minus]; decide))) ?_
        have s3 := s2.trans (same_new (o := .tup [.str "+", .str "-"]) ha)
        exact ⟨_, rfl, q _ _ (b1.same s3) (R1.same s3) (P1.keep (Tups.of s3))⟩
      · refine iteF ?_
        exact ⟨_, rfl, q _ _ (b1.same s2) (R1.same s2) (P1.keep (Tups.of s2))⟩
    · obtain ⟨sg, f, a, rfl, hsg⟩ := raw_total e2
      subst e1 e3 e4
      have eh : (Ex.op sg f a).h = 1 + max f.h a.h := rfl
      have h1 : f.h ≤ max f.h a.h := Nat.le_max_left _ _
      have h2 : a.h ≤ max f.h a.h := Nat.le_max_right _ _
      have k1 := kA_le f
      have k2 := kA_le a
      have k3 := nA_le f
      have k4 := nA_le a
      have et : (Ex.op sg f a).toks = f.atoks ++ .sign sg.s :: a.atoks := rfl
      have rs : rk (.sign sg.s) = 4 := by rcases hsg with rfl | rfl; exact rk_plus; exact rk_minus
      have ys : (sg.s == "+" || sg.s == "-") = true := by rcases hsg with rfl | rfl <;> decide +kernel
      rw [et] at hd q
      have hd : ts.drop p = f.atoks ++ (.sign sg.s :: (a.atoks ++ rest)) := by rw [hd, List.append_assoc]; rfl
      have d1 := drop_app hd
      have d2 := drop_one d1
      have d3 := drop_app d2
      have el : p + f.atoks.length + 1 + a.atoks.length = p + (f.atoks ++ Tk.sign sg.s :: a.atoks).length := by rw [List.length_append, List.length_cons]; omega
      refine ⟨_, rfl, x, dx, _, rfl, hx, rf_no _ _ _ _ nf_product, x, ts, p, o, f, f.atoks, _, _, _, rfl, hR, hd, Form.at_ 3 f, Follow.mk (by rw [rs]; decide), (by omega), (by omega), fun r1 H1 b1 R1 P1 => ?_⟩
      obtain ⟨L1, dx1, n1, hx1, hT1⟩ := id R1
      refine ⟨_, rfl, x, dx1, _, rfl, hx1, rf_no _ _ _ _ nf_here, x, ts, _, o, rfl, R1, fun r2 H2 s2 h2 => ?_⟩
      rw [kind_name (at_cons d1), val_name (at_cons d1)] at h2
      refine ⟨r2, _, rfl, SqT.of h2, rfl, _, _, rfl, _, _, rfl, rfl, ?_⟩
      have W0 : ∀ (P0 : Prop), P0 → P0 := fun _ h => h
      refine ⟨fun m σ H' => (m = 1 ∧ σ = [some (.ref x), some r1, some (.str "sign"), some (.str sg.s), none] ∧ H' = H2) ∨
        (m = 0 ∧ ∃ r rr, σ = [some (.ref x), some r, some (.str (kindAt ts (p + f.atoks.length + 1 + a.atoks.length))), some (valAt ts (p + f.atoks.length + 1 + a.atoks.length)), rr] ∧ But x H H' ∧ RdAt E.C H' x ts (p + f.atoks.length + 1 + a.atoks.length) o ∧ HasP H' (Ex.op sg f a).d (Ex.op sg f a).h r), ⟨1, .inl ⟨rfl, rfl, rfl⟩⟩, ?_⟩
      rintro m σ H' (⟨rfl, rfl, rfl⟩ | ⟨rfl, r, rr, rfl, b', R', P'⟩)
      · refine ⟨_, rfl, rfl, _, rfl, ?_⟩
        refine dT rfl ?_
        refine ⟨_, rfl, (by show 2 ≤ sizeLine; decide), fun z hz => ⟨z, _, rfl, .inr (SqT.of upd_same), rfl, rfl, _, rfl, ?_⟩⟩
        refine bT ((in2 sg.s "+" "-").trans ys) ?_
        have s3 := s2.trans (same_new (o := .tup [.str "+", .str "-"]) hz)
        refine ⟨fun σ' H' => ∃ r rr, σ' = [some (.ref x), some r, some (.str (kindAt ts (p + f.atoks.length + 1 + a.atoks.length))), some (valAt ts (p + f.atoks.length + 1 + a.atoks.length)), rr] ∧ But x H H' ∧ RdAt E.C H' x ts (p + f.atoks.length + 1 + a.atoks.length) o ∧ HasP H' (Ex.op sg f a).d (Ex.op sg f a).h r, fun σ' H' z => ⟨0, by omega, .inr ⟨rfl, z⟩⟩, ?_⟩
        have R2 := R1.same s3
        obtain ⟨L2', dx2, n2, hx2, hT2⟩ := id R2
        refine ⟨_, rfl, x, E.C, dx2, _, _, rfl, hx2, E.cl, E.n_pos, rf_pos _ _ _ _, _, _, rfl, rfl, dx2, _, hx2, rf_size _ _ _ _, ?_⟩
        obtain ⟨R4, b4, t4⟩ := RdAt.step3 hx2 hT2
        obtain ⟨L4, dx4, n4, hx4, hT4⟩ := id R4
        refine ⟨_, rfl, x, dx4, _, rfl, hx4, rf_no _ _ _ _ nf_product, x, ts, _, o, a, a.atoks, rest, _, _, rfl, R4, d2, Form.at_ 3 a, hW.le (by omega), (by omega), (by omega), fun r3 H3 b3 R3 P3 => ?_⟩
        have P1' := ((P1.keep (Tups.of s3)).keep t4).keep (R4.tups b3)
        obtain ⟨L3, dx3, n3, hx3, hT3⟩ := id R3
        obtain ⟨a1, w1, rfl, e1, v1⟩ := P1'
        obtain ⟨a2, w2, rfl, e2, v2⟩ := P3
        refine ⟨_, rfl, x, dx3, _, rfl, hx3, rf_no _ _ _ _ nf_made, _, rfl, _, rfl, a1, _, _, _, rfl, rfl, SqT.of e1, atI_nat (j := 0) rfl, _, rfl, a2, _, _, _, rfl, rfl, SqT.of e2, atI_nat (j := 0) rfl, (by show 4 ≤ sizeLine; decide), fun c hc => ?_⟩
        refine ⟨_, rfl, _, rfl, (by show 2 ≤ sizeLine; decide), fun l hl => ?_⟩
        refine made_sp (rs := [a1, a2]) (hs := [f.h, a.h]) hc hl ⟨⟨_, e1⟩, ⟨_, e2⟩, True.intro⟩ (.cons (.str _) (.cons (.str _) (.cons v1 (.cons v2 .nil)))) (by show 2 ≤ 10; omega) (by rw [mx2]; omega) fun r H6 s6 P6 => ?_
        rw [mx2] at P6
        have R6 := R3.same s6
        obtain ⟨L6, dx6, n6, hx6, hT6⟩ := id R6
        refine ⟨_, rfl, x, dx6, _, rfl, hx6, rf_no _ _ _ _ nf_here, x, ts, _, o, rfl, R6, fun r7 H7 s7 h7 => ?_⟩
        refine ⟨r7, _, rfl, SqT.of h7, rfl, _, _, rfl, _, _, rfl, rfl, ?_⟩
        exact ⟨_, _, rfl, ((((b1.same s3).trans b4).trans b3).same s6).same s7, R6.same s7, P6.keep (Tups.of s7)⟩
      · rw [el] at R'
        refine ⟨_, rfl, rfl, _, rfl, ?_⟩
        refine ite2 (fun c => ?_) (fun _ => ?_)
        · obtain ⟨y, ey⟩ := at_sign (of_decide_eq_true c)
          have ev : valAt ts (p + f.atoks.length + 1 + a.atoks.length) = .str y := val_name ey
          rw [ev]
          refine ⟨_, rfl, (by show 2 ≤ sizeLine; decide), fun a' ha => ⟨a', _, rfl, .inr (SqT.of upd_same), rfl, rfl, _, rfl, ?_⟩⟩
          rw [at_head, d3] at ey
          refine bF ((in2 y "+" "-").trans (hW.two ey (by rw [rk_plus]; decide) (by rw [rk_minus]; decide))) ?_
          have s3 := same_new (o := .tup [.str "+", .str "-"]) ha
          exact ⟨_, rfl, q _ _ (b'.same s3) (R'.same s3) (P'.keep (Tups.of s3))⟩
        · refine iteF ?_
          exact ⟨_, rfl, q _ _ b' R' P'⟩

theorem ok_comparison (E : Env K mg) {n : Nat} (g_r_total : Ok1 P w K mg base n E.a_r_total E.d_r_total (spLv 4 E.C n)) : Ok1 P w K mg base (n + 1) E.a_r_comparison E.d_r_comparison (spLv 5 E.C (n + 1)) := by
  refine E.F_r_comparison.ok sc_r_comparison (fun vs H Q E' h => ?_) (fun cdv A outer s H vs Q E' hr h => ?_)
  · obtain ⟨x, ts, p, o, e, fts, rest, need, lv, rfl, _⟩ := h
    rfl
  · obtain ⟨x, ts, p, o, e, fts, rest, need, lv, rfl, hR, hd, hF, hW, hn, ho, q⟩ := h
    have hh := e.h_pos
    obtain ⟨n8, o1⟩ := form_lv hF
    have g_r_here := ok_here (P := P) (w := w) (base := base) E
    have g_r_made := ok_made (P := P) (w := w) (base := base) E
    have h_r_total : Room n _ := hr
    have h_r_here : Room 1 _ := hr.mono (by omega)
    have h_r_made : Room 1 _ := hr.mono (by omega)
    refine ⟨_, (pss_cons (ps_set (i := 1) sc_r_comparison.nd rfl (Or.inl rfl) (pe_meth0 (pv 0) E.cl E.M_r_total g_r_total h_r_total E.B_r_total .nil pass0))
      (pss_cons (ps_asg (pe_meth0 (pv 0) E.cl E.M_r_here g_r_here h_r_here E.B_r_here .nil pass0) (pg_tup rfl (pgs_cons (pg_name (i := 2) sc_r_comparison.nd rfl (Or.inl rfl)) (pgs_cons (pg_name (i := 3) sc_r_comparison.nd rfl (Or.inl rfl)) pgs_nil))))
      (pss_cons (ps_if (PW.pt (pw_and (pt_cmpR op_eq (pv 2) pe_str (nomark _)) (pw_and1 (pt_cmpR op_in_seq (pv 3) (pe_tup (pa_cons pe_str (pa_cons pe_str pa_nil))) (by rfl))))) (pss_cons (ps_fldaug (pv 0) pe_int in_add)
      (pss_cons (ps_set (i := 4) sc_r_comparison.nd rfl (Or.inl rfl) (pe_meth0 (pv 0) E.cl E.M_r_total g_r_total h_r_total E.B_r_total .nil pass0))
      (pss_one (ps_ret (pe_meth (pv 0) E.cl E.M_r_made g_r_made h_r_made E.B_r_made .nil pass0 (pa_cons (pe_tup (pa_cons pe_str (pa_cons (pv 3) (pa_cons (pe_ix ix_tup (pv 1) pe_int (fun _ _ => rfl)) (pa_cons (pe_ix ix_tup (pv 4) pe_int (fun _ _ => rfl)) pa_nil))))) (pa_cons (pe_lst (pa_cons (pv 1) (pa_cons (pv 4) pa_nil))) pa_nil))))))) pss_nil)
      (pss_one (ps_ret (pv 1)))))), ?_⟩
    obtain ⟨L, dx, nn, hx, hT⟩ := id hR
    rcases hF.down with h0 | ⟨e1, e2, e3, e4⟩
    · refine ⟨_, rfl, x, dx, _, rfl, hx, rf_no _ _ _ _ nf_total, x, ts, p, o, e, fts, rest, need, lv, rfl, hR, hd, h0, hW.le (by omega), (by omega), ho, fun r1 H1 b1 R1 P1 => ?_⟩
      obtain ⟨L1, dx1, n1, hx1, hT1⟩ := id R1
      have d1 := drop_app hd
      refine ⟨_, rfl, x, dx1, _, rfl, hx1, rf_no _ _ _ _ nf_here, x, ts, _, o, rfl, R1, fun r2 H2 s2 h2 => ?_⟩
      refine ⟨r2, _, rfl, SqT.of h2, rfl, _, _, rfl, _, _, rfl, rfl, ?_⟩
      refine ⟨_, rfl, rfl, _, rfl, ?_⟩
      refine ite2 (fun c => ?_) (fun _ => ?_)
      · obtain ⟨y, ey⟩ := at_sign (of_decide_eq_true c)
        have ev : valAt ts (p + fts.length) = .str y := val_name ey
        rw [ev]
        refine ⟨_, rfl, (by show 2 ≤ sizeLine; decide), fun a ha => ⟨a, _, rfl, .inr (SqT.of upd_same), rfl, rfl, _, rfl, ?_⟩⟩
        rw [at_head, d1] at ey
        refine bF ((in2 y "<" "==").trans (hW.two ey (by rw [rk_lt]; decide) (by rw [rk_eq]; decide))) ?_
        have s3 := s2.trans (same_new (o := .tup [.str "<", .str "=="]) ha)
        exact ⟨_, rfl, q _ _ (b1.same s3) (R1.same s3) (P1.keep (Tups.of s3))⟩
      · refine iteF ?_
        exact ⟨_, rfl, q _ _ (b1.same s2) (R1.same s2) (P1.keep (Tups.of s2))⟩
    · obtain ⟨sg, f, a, rfl, hsg⟩ := raw_comparison e2
      subst e1 e3 e4
      have eh : (Ex.op sg f a).h = 1 + max f.h a.h := rfl
      have h1 : f.h ≤ max f.h a.h := Nat.le_max_left _ _
      have h2 : a.h ≤ max f.h a.h := Nat.le_max_right _ _
      have k1 := kA_le f
      have k2 := kA_le a
      have k3 := nA_le f
      have k4 := nA_le a
      have et : (Ex.op sg f a).toks = f.atoks ++ .sign sg.s :: a.atoks := rfl
      have rs : rk (.sign sg.s) = 5 := by rcases hsg with rfl | rfl; exact rk_lt; exact rk_eq
      have ys : (sg.s == "<" || sg.s == "==") = true := by rcases hsg with rfl | rfl <;> decide +kernel
      rw [et] at hd q
      have hd : ts.drop p = f.atoks ++ (.sign sg.s :: (a.atoks ++ rest)) := by rw [hd, List.append_assoc]; rfl
      have d1 := drop_app hd
      have d2 := drop_one d1
      have d3 := drop_app d2
      have el : p + f.atoks.length + 1 + a.atoks.length = p + (f.atoks ++ Tk.sign sg.s :: a.atoks).length := by rw [List.length_append, List.length_cons]; omega
      refine ⟨_, rfl, x, dx, _, rfl, hx, rf_no _ _ _ _ nf_total, x, ts, p, o, f, f.atoks, _, _, _, rfl, hR, hd, Form.at_ 4 f, Follow.mk (by rw [rs]; decide), (by omega), (by omega), fun r1 H1 b1 R1 P1 => ?_⟩
      obtain ⟨L1, dx1, n1, hx1, hT1⟩ := id R1
      refine ⟨_, rfl, x, dx1, _, rfl, hx1, rf_no _ _ _ _ nf_here, x, ts, _, o, rfl, R1, fun r2 H2 s2 h2 => ?_⟩
      rw [kind_name (at_cons d1), val_name (at_cons d1)] at h2
      refine ⟨r2, _, rfl, SqT.of h2, rfl, _, _, rfl, _, _, rfl, rfl, ?_⟩
      refine ⟨_, rfl, rfl, _, rfl, ?_⟩
      refine dT rfl ?_
      refine ⟨_, rfl, (by show 2 ≤ sizeLine; decide), fun z hz => ⟨z, _, rfl, .inr (SqT.of upd_same), rfl, rfl, _, rfl, ?_⟩⟩
      refine bT ((in2 sg.s "<" "==").trans ys) ?_
      have s3 := s2.trans (same_new (o := .tup [.str "<", .str "=="]) hz)
      have R2 := R1.same s3
      obtain ⟨L2', dx2, n2, hx2, hT2⟩ := id R2
      refine ⟨_, rfl, x, E.C, dx2, _, _, rfl, hx2, E.cl, E.n_pos, rf_pos _ _ _ _, _, _, rfl, rfl, dx2, _, hx2, rf_size _ _ _ _, ?_⟩
      obtain ⟨R4, b4, t4⟩ := RdAt.step3 hx2 hT2
      obtain ⟨L4, dx4, n4, hx4, hT4⟩ := id R4
      refine ⟨_, rfl, x, dx4, _, rfl, hx4, rf_no _ _ _ _ nf_total, x, ts, _, o, a, a.atoks, rest, _, _, rfl, R4, d2, Form.at_ 4 a, hW.le (by omega), (by omega), (by omega), fun r3 H3 b3 R3 P3 => ?_⟩
      have P1' := ((P1.keep (Tups.of s3)).keep t4).keep (R4.tups b3)
      obtain ⟨L3, dx3, n3, hx3, hT3⟩ := id R3
      obtain ⟨a1, w1, rfl, e1, v1⟩ := P1'
      obtain ⟨a2, w2, rfl, e2, v2⟩ := P3
      refine ⟨_, rfl, x, dx3, _, rfl, hx3, rf_no _ _ _ _ nf_made, _, rfl, _, rfl, a1, _, _, _, rfl, rfl, SqT.of e1, atI_nat (j := 0) rfl, _, rfl, a2, _, _, _, rfl, rfl, SqT.of e2, atI_nat (j := 0) rfl, (by show 4 ≤ sizeLine; decide), fun c hc => ?_⟩
      refine ⟨_, rfl, _, rfl, (by show 2 ≤ sizeLine; decide), fun l hl => ?_⟩
      refine made_sp (rs := [a1, a2]) (hs := [f.h, a.h]) hc hl ⟨⟨_, e1⟩, ⟨_, e2⟩, True.intro⟩ (.cons (.str _) (.cons (.str _) (.cons v1 (.cons v2 .nil)))) (by show 2 ≤ 10; omega) (by rw [mx2]; omega) fun r H6 s6 P6 => ?_
      rw [mx2] at P6
      rw [el] at R3
      exact q _ _ ((((b1.same s3).trans b4).trans b3).same s6) (R3.same s6) P6
end
end HN
/-! R8: functions, bindings, conditionals, expressions; the induction. -/
namespace HN
open PySem TL L2
theorem so_darrow : (PyData.strOk "sign" && PyData.strOk "=>") = true := by decide +kernel
theorem so_eq : (PyData.strOk "sign" && PyData.strOk "=") = true := by decide +kernel
theorem so_semi : (PyData.strOk "sign" && PyData.strOk ";") = true := by decide +kernel
theorem so_in : (PyData.strOk "word" && PyData.strOk "in") = true := by decide +kernel
theorem so_then : (PyData.strOk "word" && PyData.strOk "then") = true := by decide +kernel
theorem so_else : (PyData.strOk "word" && PyData.strOk "else") = true := by decide +kernel
theorem g5 : ¬ (("=>" : Str) = "->") := by decide +kernel
theorem rk_in : rk (.word "in") = 6 := by decide +kernel
theorem rk_then : rk (.word "then") = 6 := by decide +kernel
theorem rk_else : rk (.word "else") = 6 := by decide +kernel
theorem rk_semi : rk (.sign ";") = 6 := by decide +kernel
section
variable {P : Program} {w : World} {K : PySem.W.Frag} {mg : Str → Option Value} {base : Heap}
theorem ok_function (E : Env K mg) {n : Nat} (g_r_expression : Ok1 P w K mg base n E.a_r_expression E.d_r_expression (spExpr E.C n)) : Ok1 P w K mg base (n + 1) E.a_r_function E.d_r_function (spKw isFun E.C (n + 1)) := by
  refine E.F_r_function.ok sc_r_function (fun vs H Q E' h => ?_) (fun cdv A outer s H vs Q E' hr h => ?_)
  · obtain ⟨x, ts, p, o, e, rest, rfl, _⟩ := h
    rfl
  · obtain ⟨x, ts, p, o, e, rest, rfl, hR, hd, hW, hkd, hn, ho, q⟩ := h
    have hh := e.h_pos
    have g_r_type_parts := (tp_all (P := P) (w := w) (base := base) E n).1
    have g_r_sees := ok_sees (P := P) (w := w) (base := base) E
    have g_r_made := ok_made (P := P) (w := w) (base := base) E
    have g_r_take := ok_take (P := P) (w := w) (base := base) E
    have g_r_name := ok_name (P := P) (w := w) (base := base) E
    have h_r_expression : Room n _ := hr
    have h_r_type_parts : Room n _ := hr
    have h_r_sees : Room 2 _ := hr.mono (by omega)
    have h_r_made : Room 1 _ := hr.mono (by omega)
    have h_r_take : Room 3 _ := hr.mono (by omega)
    have h_r_name : Room 2 _ := hr.mono (by omega)
    refine ⟨_, (pss_cons (ps_fldaug (pv 0) pe_int in_add)
      (pss_cons (ps_set (i := 1) sc_r_function.nd rfl (Or.inl rfl) (pe_meth0 (pv 0) E.cl E.M_r_name g_r_name h_r_name E.B_r_name .nil pass0))
      (pss_cons (ps_set (i := 2) sc_r_function.nd rfl (Or.inl rfl) (pe_tup (pa_cons (pe_tup (pa_cons pe_str pa_nil)) (pa_cons pe_int pa_nil))))
      (pss_cons (ps_if (pt_val (pe_meth (pv 0) E.cl E.M_r_sees g_r_sees h_r_sees E.B_r_sees .nil pass0 (pa_cons pe_str (pa_cons pe_str pa_nil)))) (pss_cons (ps_fldaug (pv 0) pe_int in_add)
      (pss_one (ps_set (i := 2) sc_r_function.nd rfl (Or.inl rfl) (pe_meth0 (pv 0) E.cl E.M_r_type_parts g_r_type_parts h_r_type_parts E.B_r_type_parts .nil pass0)))) pss_nil)
      (pss_cons (ps_expr (pe_meth (pv 0) E.cl E.M_r_take g_r_take h_r_take E.B_r_take .nil pass0 (pa_cons pe_str (pa_cons pe_str pa_nil))))
      (pss_cons (ps_set (i := 3) sc_r_function.nd rfl (Or.inl rfl) (pe_meth0 (pv 0) E.cl E.M_r_expression g_r_expression h_r_expression E.B_r_expression .nil pass0))
      (pss_one (ps_ret (pe_meth (pv 0) E.cl E.M_r_made g_r_made h_r_made E.B_r_made .nil pass0 (pa_cons (pe_tup (pa_cons pe_str (pa_cons (pv 1) (pa_cons (pe_ix ix_tup (pv 2) pe_int (fun _ _ => rfl)) (pa_cons (pe_ix ix_tup (pv 3) pe_int (fun _ _ => rfl)) pa_nil))))) (pa_cons (pe_lst (pa_cons (pv 2) (pa_cons (pv 3) pa_nil))) pa_nil))))))))))), ?_⟩
    obtain ⟨L, dx, nn, hx, hT⟩ := id hR
    cases e with
    | fn y t b =>
      have hd : ts.drop p = .word "fun" :: .name y :: .sign ":" :: (t.toks ++ (.sign "=>" :: (b.toks ++ rest))) := by rw [hd]; simp [Ex.toks]
      have eh : (Ex.fn y t b).h = 1 + max t.h b.h := rfl
      have h1 : t.h ≤ max t.h b.h := Nat.le_max_left _ _
      have h2 : b.h ≤ max t.h b.h := Nat.le_max_right _ _
      have el : p + 1 + 1 + 1 + t.toks.length + 1 + b.toks.length = p + (Ex.fn y t b).toks.length := by simp only [Ex.toks, List.length_cons, List.length_append]; omega
      have d1 := drop_one hd
      have d2 := drop_one d1
      have d3 := drop_one d2
      have d4 := drop_app d3
      have d5 := drop_one d4
      refine ⟨_, rfl, x, E.C, dx, _, _, rfl, hx, E.cl, E.n_pos, rf_pos _ _ _ _, _, _, rfl, rfl, dx, _, hx, rf_size _ _ _ _, ?_⟩
      obtain ⟨R1, b1, t1⟩ := RdAt.step3 hx hT
      obtain ⟨L1, dx1, n1, hx1, hT1⟩ := id R1
      refine ⟨_, rfl, x, dx1, _, rfl, hx1, rf_no _ _ _ _ nf_name, x, ts, _, o, y, rfl, R1, at_cons d1, fun H2 b2 R2 => ?_⟩
      refine ⟨(by show 1 ≤ sizeLine; decide), fun c1 hc1 => ⟨(by show 2 ≤ sizeLine; decide), fun c2 hc2 => ?_⟩⟩
      have s3 := (same_new (o := .tup [.str "any"]) hc1).trans (same_new (o := .tup [.ref c1, .int 1]) hc2)
      have R3 := R2.same s3
      obtain ⟨L3, dx3, n3, hx3, hT3⟩ := id R3
      refine ⟨_, rfl, x, dx3, _, rfl, hx3, rf_no _ _ _ _ nf_sees, x, ts, _, o, _, _, rfl, R3, so_colon, fun H4 s4 => ⟨_, rfl, ?_⟩⟩
      refine bT (sees_yes d2) ?_
      have R4 := R3.same s4
      obtain ⟨L4, dx4, n4, hx4, hT4⟩ := id R4
      refine ⟨_, rfl, x, E.C, dx4, _, _, rfl, hx4, E.cl, E.n_pos, rf_pos _ _ _ _, _, _, rfl, rfl, dx4, _, hx4, rf_size _ _ _ _, ?_⟩
      obtain ⟨R5, b5, t5⟩ := RdAt.step3 hx4 hT4
      obtain ⟨L5, dx5, n5, hx5, hT5⟩ := id R5
      refine ⟨_, rfl, x, dx5, _, rfl, hx5, rf_no _ _ _ _ nf_type_parts, x, ts, _, o, t, _, rfl, R5, d3, (by exact sg_ne g5), (by omega), (by omega), fun r6 H6 b6 R6 P6 => ?_⟩
      obtain ⟨L6, dx6, n6, hx6, hT6⟩ := id R6
      refine ⟨_, rfl, x, dx6, _, rfl, hx6, rf_no _ _ _ _ nf_take, x, ts, _, o, _, _, rfl, R6, so_darrow, sees_yes d4, fun H7 b7 R7 => ?_⟩
      have P7 := P6.keep (R6.tups b7)
      obtain ⟨L7, dx7, n7, hx7, hT7⟩ := id R7
      refine ⟨_, rfl, x, dx7, _, rfl, hx7, rf_no _ _ _ _ nf_expression, x, ts, _, o, b, rest, rfl, R7, d5, hW, (by omega), (by omega), fun r8 H8 b8 R8 P8 => ?_⟩
      have P7' := P7.keep (R7.tups b8)
      obtain ⟨L8, dx8, n8, hx8, hT8⟩ := id R8
      obtain ⟨a1, w1, rfl, e1, v1⟩ := P7'
      obtain ⟨a2, w2, rfl, e2, v2⟩ := P8
      refine ⟨_, rfl, x, dx8, _, rfl, hx8, rf_no _ _ _ _ nf_made, _, rfl, _, rfl, a1, _, _, _, rfl, rfl, SqT.of e1, atI_nat (j := 0) rfl, _, rfl, a2, _, _, _, rfl, rfl, SqT.of e2, atI_nat (j := 0) rfl, (by show 4 ≤ sizeLine; decide), fun c hc => ?_⟩
      refine ⟨_, rfl, _, rfl, (by show 2 ≤ sizeLine; decide), fun l hl => ?_⟩
      refine made_sp (rs := [a1, a2]) (hs := [t.h, b.h]) hc hl ⟨⟨_, e1⟩, ⟨_, e2⟩, True.intro⟩ (.cons (.str _) (.cons (.str _) (.cons v1 (.cons v2 .nil)))) (by show 2 ≤ 10; omega) (by rw [mx2]; omega) fun r H9 s9 P9 => ?_
      rw [mx2] at P9
      rw [el] at R8
      exact q _ _ (((((((b1.trans b2).same s3).same s4).trans b5).trans b6).trans (b7.trans b8)).same s9) (R8.same s9) P9
    | _ => exact absurd hkd (by intro z; cases z)

theorem ok_recursive (E : Env K mg) {n : Nat} (g_r_expression : Ok1 P w K mg base n E.a_r_expression E.d_r_expression (spExpr E.C n)) : Ok1 P w K mg base (n + 1) E.a_r_recursive E.d_r_recursive (spKw isRec E.C (n + 1)) := by
  refine E.F_r_recursive.ok sc_r_recursive (fun vs H Q E' h => ?_) (fun cdv A outer s H vs Q E' hr h => ?_)
  · obtain ⟨x, ts, p, o, e, rest, rfl, _⟩ := h
    rfl
  · obtain ⟨x, ts, p, o, e, rest, rfl, hR, hd, hW, hkd, hn, ho, q⟩ := h
    have hh := e.h_pos
    have g_r_type_parts := (tp_all (P := P) (w := w) (base := base) E n).1
    have g_r_made := ok_made (P := P) (w := w) (base := base) E
    have g_r_take := ok_take (P := P) (w := w) (base := base) E
    have g_r_name := ok_name (P := P) (w := w) (base := base) E
    have h_r_expression : Room n _ := hr
    have h_r_type_parts : Room n _ := hr
    have h_r_made : Room 1 _ := hr.mono (by omega)
    have h_r_take : Room 3 _ := hr.mono (by omega)
    have h_r_name : Room 2 _ := hr.mono (by omega)
    refine ⟨_, (pss_cons (ps_fldaug (pv 0) pe_int in_add)
      (pss_cons (ps_set (i := 1) sc_r_recursive.nd rfl (Or.inl rfl) (pe_meth0 (pv 0) E.cl E.M_r_name g_r_name h_r_name E.B_r_name .nil pass0))
      (pss_cons (ps_expr (pe_meth (pv 0) E.cl E.M_r_take g_r_take h_r_take E.B_r_take .nil pass0 (pa_cons pe_str (pa_cons pe_str pa_nil))))
      (pss_cons (ps_set (i := 2) sc_r_recursive.nd rfl (Or.inl rfl) (pe_meth0 (pv 0) E.cl E.M_r_name g_r_name h_r_name E.B_r_name .nil pass0))
      (pss_cons (ps_expr (pe_meth (pv 0) E.cl E.M_r_take g_r_take h_r_take E.B_r_take .nil pass0 (pa_cons pe_str (pa_cons pe_str pa_nil))))
      (pss_cons (ps_set (i := 3) sc_r_recursive.nd rfl (Or.inl rfl) (pe_meth0 (pv 0) E.cl E.M_r_type_parts g_r_type_parts h_r_type_parts E.B_r_type_parts .nil pass0))
      (pss_cons (ps_expr (pe_meth (pv 0) E.cl E.M_r_take g_r_take h_r_take E.B_r_take .nil pass0 (pa_cons pe_str (pa_cons pe_str pa_nil))))
      (pss_cons (ps_expr (pe_meth (pv 0) E.cl E.M_r_take g_r_take h_r_take E.B_r_take .nil pass0 (pa_cons pe_str (pa_cons pe_str pa_nil))))
      (pss_cons (ps_set (i := 4) sc_r_recursive.nd rfl (Or.inl rfl) (pe_meth0 (pv 0) E.cl E.M_r_type_parts g_r_type_parts h_r_type_parts E.B_r_type_parts .nil pass0))
      (pss_cons (ps_expr (pe_meth (pv 0) E.cl E.M_r_take g_r_take h_r_take E.B_r_take .nil pass0 (pa_cons pe_str (pa_cons pe_str pa_nil))))
      (pss_cons (ps_set (i := 5) sc_r_recursive.nd rfl (Or.inl rfl) (pe_meth0 (pv 0) E.cl E.M_r_expression g_r_expression h_r_expression E.B_r_expression .nil pass0))
      (pss_one (ps_ret (pe_meth (pv 0) E.cl E.M_r_made g_r_made h_r_made E.B_r_made .nil pass0 (pa_cons (pe_tup (pa_cons pe_str (pa_cons (pv 1) (pa_cons (pv 2) (pa_cons (pe_ix ix_tup (pv 3) pe_int (fun _ _ => rfl)) (pa_cons (pe_ix ix_tup (pv 4) pe_int (fun _ _ => rfl)) (pa_cons (pe_ix ix_tup (pv 5) pe_int (fun _ _ => rfl)) pa_nil))))))) (pa_cons (pe_lst (pa_cons (pv 3) (pa_cons (pv 4) (pa_cons (pv 5) pa_nil)))) pa_nil)))))))))))))))), ?_⟩
    obtain ⟨L, dx, nn, hx, hT⟩ := id hR
    cases e with
    | recf f y t u b =>
      have hd : ts.drop p = .word "rec" :: .name f :: .sign "(" :: .name y :: .sign ":" :: (t.toks ++ (.sign ")" :: .sign ":" :: (u.toks ++ (.sign "=>" :: (b.toks ++ rest))))) := by rw [hd]; simp [Ex.toks]
      have eh : (Ex.recf f y t u b).h = 1 + max t.h (max u.h b.h) := rfl
      have h1 : t.h ≤ max t.h (max u.h b.h) := Nat.le_max_left _ _
      have h2 : max u.h b.h ≤ max t.h (max u.h b.h) := Nat.le_max_right _ _
      have h3 : u.h ≤ max u.h b.h := Nat.le_max_left _ _
      have h4 : b.h ≤ max u.h b.h := Nat.le_max_right _ _
      have el : p + 1 + 1 + 1 + 1 + 1 + t.toks.length + 1 + 1 + u.toks.length + 1 + b.toks.length = p + (Ex.recf f y t u b).toks.length := by simp only [Ex.toks, List.length_cons, List.length_append]; omega
      have d1 := drop_one hd
      have d2 := drop_one d1
      have d3 := drop_one d2
      have d4 := drop_one d3
      have d5 := drop_one d4
      have d6 := drop_app d5
      have d7 := drop_one d6
      have d8 := drop_one d7
      have d9 := drop_app d8
      have d10 := drop_one d9
      refine ⟨_, rfl, x, E.C, dx, _, _, rfl, hx, E.cl, E.n_pos, rf_pos _ _ _ _, _, _, rfl, rfl, dx, _, hx, rf_size _ _ _ _, ?_⟩
      obtain ⟨R1, b1, t1⟩ := RdAt.step3 hx hT
      obtain ⟨L1, dx1, n1, hx1, hT1⟩ := id R1
      refine ⟨_, rfl, x, dx1, _, rfl, hx1, rf_no _ _ _ _ nf_name, x, ts, _, o, f, rfl, R1, at_cons d1, fun H2 b2 R2 => ?_⟩
      obtain ⟨L2', dx2, n2, hx2, hT2⟩ := id R2
      refine ⟨_, rfl, x, dx2, _, rfl, hx2, rf_no _ _ _ _ nf_take, x, ts, _, o, _, _, rfl, R2, so_lpar, sees_yes d2, fun H3 b3 R3 => ?_⟩
      obtain ⟨L3, dx3, n3, hx3, hT3⟩ := id R3
      refine ⟨_, rfl, x, dx3, _, rfl, hx3, rf_no _ _ _ _ nf_name, x, ts, _, o, y, rfl, R3, at_cons d3, fun H4 b4 R4 => ?_⟩
      obtain ⟨L4, dx4, n4, hx4, hT4⟩ := id R4
      refine ⟨_, rfl, x, dx4, _, rfl, hx4, rf_no _ _ _ _ nf_take, x, ts, _, o, _, _, rfl, R4, so_colon, sees_yes d4, fun H5 b5 R5 => ?_⟩
      obtain ⟨L5, dx5, n5, hx5, hT5⟩ := id R5
      refine ⟨_, rfl, x, dx5, _, rfl, hx5, rf_no _ _ _ _ nf_type_parts, x, ts, _, o, t, _, rfl, R5, d5, (by exact sg_ne g4), (by omega), (by omega), fun r6 H6 b6 R6 P6 => ?_⟩
      obtain ⟨L6, dx6, n6, hx6, hT6⟩ := id R6
      refine ⟨_, rfl, x, dx6, _, rfl, hx6, rf_no _ _ _ _ nf_take, x, ts, _, o, _, _, rfl, R6, so_rpar, sees_yes d6, fun H7 b7 R7 => ?_⟩
      obtain ⟨L7, dx7, n7, hx7, hT7⟩ := id R7
      refine ⟨_, rfl, x, dx7, _, rfl, hx7, rf_no _ _ _ _ nf_take, x, ts, _, o, _, _, rfl, R7, so_colon, sees_yes d7, fun H8 b8 R8 => ?_⟩
      have P8 := (P6.keep (R6.tups b7)).keep (R7.tups b8)
      obtain ⟨L8, dx8, n8, hx8, hT8⟩ := id R8
      refine ⟨_, rfl, x, dx8, _, rfl, hx8, rf_no _ _ _ _ nf_type_parts, x, ts, _, o, u, _, rfl, R8, d8, (by exact sg_ne g5), (by omega), (by omega), fun r9 H9 b9 R9 P9 => ?_⟩
      obtain ⟨L9, dx9, n9, hx9, hT9⟩ := id R9
      refine ⟨_, rfl, x, dx9, _, rfl, hx9, rf_no _ _ _ _ nf_take, x, ts, _, o, _, _, rfl, R9, so_darrow, sees_yes d9, fun H10 b10 R10 => ?_⟩
      obtain ⟨L10, dx10, n10, hx10, hT10⟩ := id R10
      refine ⟨_, rfl, x, dx10, _, rfl, hx10, rf_no _ _ _ _ nf_expression, x, ts, _, o, b, rest, rfl, R10, d10, hW, (by omega), (by omega), fun r11 H11 b11 R11 P11 => ?_⟩
      have P9' := (P9.keep (R9.tups b10)).keep (R10.tups b11)
      have P8' := ((P8.keep (R8.tups b9)).keep (R9.tups b10)).keep (R10.tups b11)
      obtain ⟨L11, dx11, n11, hx11, hT11⟩ := id R11
      obtain ⟨a1, w1, rfl, e1, v1⟩ := P8'
      obtain ⟨a2, w2, rfl, e2, v2⟩ := P9'
      obtain ⟨a3, w3, rfl, e3, v3⟩ := P11
      refine ⟨_, rfl, x, dx11, _, rfl, hx11, rf_no _ _ _ _ nf_made, _, rfl, _, rfl, _, rfl, a1, _, _, _, rfl, rfl, SqT.of e1, atI_nat (j := 0) rfl, _, rfl, a2, _, _, _, rfl, rfl, SqT.of e2, atI_nat (j := 0) rfl, _, rfl, a3, _, _, _, rfl, rfl, SqT.of e3, atI_nat (j := 0) rfl, (by show 6 ≤ sizeLine; decide), fun c hc => ?_⟩
      refine ⟨_, rfl, _, rfl, _, rfl, (by show 3 ≤ sizeLine; decide), fun l hl => ?_⟩
      refine made_sp (rs := [a1, a2, a3]) (hs := [t.h, u.h, b.h]) hc hl ⟨⟨_, e1⟩, ⟨_, e2⟩, ⟨_, e3⟩, True.intro⟩ (.cons (.str _) (.cons (.str _) (.cons (.str _) (.cons v1 (.cons v2 (.cons v3 .nil)))))) (by show 3 ≤ 10; omega) (by rw [mx3]; omega) fun r H12 s12 P12 => ?_
      rw [mx3] at P12
      rw [el] at R11
      exact q _ _ (((b1.trans (b2.trans (b3.trans (b4.trans b5)))).trans ((b6.trans b7).trans ((b8.trans b9).trans (b10.trans b11)))).same s12) (R11.same s12) P12
    | _ => exact absurd hkd (by intro z; cases z)

theorem ok_binding (E : Env K mg) {n : Nat} (g_r_expression : Ok1 P w K mg base n E.a_r_expression E.d_r_expression (spExpr E.C n)) : Ok1 P w K mg base (n + 1) E.a_r_binding E.d_r_binding (spKw isLet E.C (n + 1)) := by
  refine E.F_r_binding.ok sc_r_binding (fun vs H Q E' h => ?_) (fun cdv A outer s H vs Q E' hr h => ?_)
  · obtain ⟨x, ts, p, o, e, rest, rfl, _⟩ := h
    rfl
  · obtain ⟨x, ts, p, o, e, rest, rfl, hR, hd, hW, hkd, hn, ho, q⟩ := h
    have hh := e.h_pos
    have g_r_made := ok_made (P := P) (w := w) (base := base) E
    have g_r_take := ok_take (P := P) (w := w) (base := base) E
    have g_r_name := ok_name (P := P) (w := w) (base := base) E
    have h_r_expression : Room n _ := hr
    have h_r_made : Room 1 _ := hr.mono (by omega)
    have h_r_take : Room 3 _ := hr.mono (by omega)
    have h_r_name : Room 2 _ := hr.mono (by omega)
    refine ⟨_, (pss_cons (ps_fldaug (pv 0) pe_int in_add)
      (pss_cons (ps_set (i := 1) sc_r_binding.nd rfl (Or.inl rfl) (pe_meth0 (pv 0) E.cl E.M_r_name g_r_name h_r_name E.B_r_name .nil pass0))
      (pss_cons (ps_expr (pe_meth (pv 0) E.cl E.M_r_take g_r_take h_r_take E.B_r_take .nil pass0 (pa_cons pe_str (pa_cons pe_str pa_nil))))
      (pss_cons (ps_set (i := 2) sc_r_binding.nd rfl (Or.inl rfl) (pe_meth0 (pv 0) E.cl E.M_r_expression g_r_expression h_r_expression E.B_r_expression .nil pass0))
      (pss_cons (ps_expr (pe_meth (pv 0) E.cl E.M_r_take g_r_take h_r_take E.B_r_take .nil pass0 (pa_cons pe_str (pa_cons pe_str pa_nil))))
      (pss_cons (ps_set (i := 3) sc_r_binding.nd rfl (Or.inl rfl) (pe_meth0 (pv 0) E.cl E.M_r_expression g_r_expression h_r_expression E.B_r_expression .nil pass0))
      (pss_one (ps_ret (pe_meth (pv 0) E.cl E.M_r_made g_r_made h_r_made E.B_r_made .nil pass0 (pa_cons (pe_tup (pa_cons pe_str (pa_cons (pv 1) (pa_cons (pe_ix ix_tup (pv 2) pe_int (fun _ _ => rfl)) (pa_cons (pe_ix ix_tup (pv 3) pe_int (fun _ _ => rfl)) pa_nil))))) (pa_cons (pe_lst (pa_cons (pv 2) (pa_cons (pv 3) pa_nil))) pa_nil))))))))))), ?_⟩
    obtain ⟨L, dx, nn, hx, hT⟩ := id hR
    cases e with
    | letx y a b =>
      have hd : ts.drop p = .word "let" :: .name y :: .sign "=" :: (a.toks ++ (.word "in" :: (b.toks ++ rest))) := by rw [hd]; simp [Ex.toks]
      have eh : (Ex.letx y a b).h = 1 + max a.h b.h := rfl
      have h1 : a.h ≤ max a.h b.h := Nat.le_max_left _ _
      have h2 : b.h ≤ max a.h b.h := Nat.le_max_right _ _
      have el : p + 1 + 1 + 1 + a.toks.length + 1 + b.toks.length = p + (Ex.letx y a b).toks.length := by simp only [Ex.toks, List.length_cons, List.length_append]; omega
      have d1 := drop_one hd
      have d2 := drop_one d1
      have d3 := drop_one d2
      have d4 := drop_app d3
      have d5 := drop_one d4
      refine ⟨_, rfl, x, E.C, dx, _, _, rfl, hx, E.cl, E.n_pos, rf_pos _ _ _ _, _, _, rfl, rfl, dx, _, hx, rf_size _ _ _ _, ?_⟩
      obtain ⟨R1, b1, t1⟩ := RdAt.step3 hx hT
      obtain ⟨L1, dx1, n1, hx1, hT1⟩ := id R1
      refine ⟨_, rfl, x, dx1, _, rfl, hx1, rf_no _ _ _ _ nf_name, x, ts, _, o, y, rfl, R1, at_cons d1, fun H2 b2 R2 => ?_⟩
      obtain ⟨L2', dx2, n2, hx2, hT2⟩ := id R2
      refine ⟨_, rfl, x, dx2, _, rfl, hx2, rf_no _ _ _ _ nf_take, x, ts, _, o, _, _, rfl, R2, so_eq, sees_yes d2, fun H3 b3 R3 => ?_⟩
      obtain ⟨L3, dx3, n3, hx3, hT3⟩ := id R3
      refine ⟨_, rfl, x, dx3, _, rfl, hx3, rf_no _ _ _ _ nf_expression, x, ts, _, o, a, _, rfl, R3, d3, Follow.mk (by rw [rk_in]; decide), (by omega), (by omega), fun r6 H6 b6 R6 P6 => ?_⟩
      obtain ⟨L6, dx6, n6, hx6, hT6⟩ := id R6
      refine ⟨_, rfl, x, dx6, _, rfl, hx6, rf_no _ _ _ _ nf_take, x, ts, _, o, _, _, rfl, R6, so_in, word_yes d4, fun H7 b7 R7 => ?_⟩
      have P7 := P6.keep (R6.tups b7)
      obtain ⟨L7, dx7, n7, hx7, hT7⟩ := id R7
      refine ⟨_, rfl, x, dx7, _, rfl, hx7, rf_no _ _ _ _ nf_expression, x, ts, _, o, b, rest, rfl, R7, d5, hW, (by omega), (by omega), fun r8 H8 b8 R8 P8 => ?_⟩
      have P7' := P7.keep (R7.tups b8)
      obtain ⟨L8, dx8, n8, hx8, hT8⟩ := id R8
      obtain ⟨a1, w1, rfl, e1, v1⟩ := P7'
      obtain ⟨a2, w2, rfl, e2, v2⟩ := P8
      refine ⟨_, rfl, x, dx8, _, rfl, hx8, rf_no _ _ _ _ nf_made, _, rfl, _, rfl, a1, _, _, _, rfl, rfl, SqT.of e1, atI_nat (j := 0) rfl, _, rfl, a2, _, _, _, rfl, rfl, SqT.of e2, atI_nat (j := 0) rfl, (by show 4 ≤ sizeLine; decide), fun c hc => ?_⟩
      refine ⟨_, rfl, _, rfl, (by show 2 ≤ sizeLine; decide), fun l hl => ?_⟩
      refine made_sp (rs := [a1, a2]) (hs := [a.h, b.h]) hc hl ⟨⟨_, e1⟩, ⟨_, e2⟩, True.intro⟩ (.cons (.str _) (.cons (.str _) (.cons v1 (.cons v2 .nil)))) (by show 2 ≤ 10; omega) (by rw [mx2]; omega) fun r H9 s9 P9 => ?_
      rw [mx2] at P9
      rw [el] at R8
      exact q _ _ (((b1.trans b2).trans ((b3.trans b6).trans (b7.trans b8))).same s9) (R8.same s9) P9
    | _ => exact absurd hkd (by intro z; cases z)

theorem ok_conditional (E : Env K mg) {n : Nat} (g_r_expression : Ok1 P w K mg base n E.a_r_expression E.d_r_expression (spExpr E.C n)) : Ok1 P w K mg base (n + 1) E.a_r_conditional E.d_r_conditional (spKw isIf E.C (n + 1)) := by
  refine E.F_r_conditional.ok sc_r_conditional (fun vs H Q E' h => ?_) (fun cdv A outer s H vs Q E' hr h => ?_)
  · obtain ⟨x, ts, p, o, e, rest, rfl, _⟩ := h
    rfl
  · obtain ⟨x, ts, p, o, e, rest, rfl, hR, hd, hW, hkd, hn, ho, q⟩ := h
    have hh := e.h_pos
    have g_r_made := ok_made (P := P) (w := w) (base := base) E
    have g_r_take := ok_take (P := P) (w := w) (base := base) E
    have h_r_expression : Room n _ := hr
    have h_r_made : Room 1 _ := hr.mono (by omega)
    have h_r_take : Room 3 _ := hr.mono (by omega)
    refine ⟨_, (pss_cons (ps_fldaug (pv 0) pe_int in_add)
      (pss_cons (ps_set (i := 1) sc_r_conditional.nd rfl (Or.inl rfl) (pe_meth0 (pv 0) E.cl E.M_r_expression g_r_expression h_r_expression E.B_r_expression .nil pass0))
      (pss_cons (ps_expr (pe_meth (pv 0) E.cl E.M_r_take g_r_take h_r_take E.B_r_take .nil pass0 (pa_cons pe_str (pa_cons pe_str pa_nil))))
      (pss_cons (ps_set (i := 2) sc_r_conditional.nd rfl (Or.inl rfl) (pe_meth0 (pv 0) E.cl E.M_r_expression g_r_expression h_r_expression E.B_r_expression .nil pass0))
      (pss_cons (ps_expr (pe_meth (pv 0) E.cl E.M_r_take g_r_take h_r_take E.B_r_take .nil pass0 (pa_cons pe_str (pa_cons pe_str pa_nil))))
      (pss_cons (ps_set (i := 3) sc_r_conditional.nd rfl (Or.inl rfl) (pe_meth0 (pv 0) E.cl E.M_r_expression g_r_expression h_r_expression E.B_r_expression .nil pass0))
      (pss_one (ps_ret (pe_meth (pv 0) E.cl E.M_r_made g_r_made h_r_made E.B_r_made .nil pass0 (pa_cons (pe_tup (pa_cons pe_str (pa_cons (pe_ix ix_tup (pv 1) pe_int (fun _ _ => rfl)) (pa_cons (pe_ix ix_tup (pv 2) pe_int (fun _ _ => rfl)) (pa_cons (pe_ix ix_tup (pv 3) pe_int (fun _ _ => rfl)) pa_nil))))) (pa_cons (pe_lst (pa_cons (pv 1) (pa_cons (pv 2) (pa_cons (pv 3) pa_nil)))) pa_nil))))))))))), ?_⟩
    obtain ⟨L, dx, nn, hx, hT⟩ := id hR
    cases e with
    | ite c a b =>
      have hd : ts.drop p = .word "if" :: (c.toks ++ (.word "then" :: (a.toks ++ (.word "else" :: (b.toks ++ rest))))) := by rw [hd]; simp [Ex.toks]
      have eh : (Ex.ite c a b).h = 1 + max c.h (max a.h b.h) := rfl
      have h1 : c.h ≤ max c.h (max a.h b.h) := Nat.le_max_left _ _
      have h2 : max a.h b.h ≤ max c.h (max a.h b.h) := Nat.le_max_right _ _
      have h3 : a.h ≤ max a.h b.h := Nat.le_max_left _ _
      have h4 : b.h ≤ max a.h b.h := Nat.le_max_right _ _
      have el : p + 1 + c.toks.length + 1 + a.toks.length + 1 + b.toks.length = p + (Ex.ite c a b).toks.length := by simp only [Ex.toks, List.length_cons, List.length_append]; omega
      have d1 := drop_one hd
      have d2 := drop_app d1
      have d3 := drop_one d2
      have d4 := drop_app d3
      have d5 := drop_one d4
      refine ⟨_, rfl, x, E.C, dx, _, _, rfl, hx, E.cl, E.n_pos, rf_pos _ _ _ _, _, _, rfl, rfl, dx, _, hx, rf_size _ _ _ _, ?_⟩
      obtain ⟨R1, b1, t1⟩ := RdAt.step3 hx hT
      obtain ⟨L1, dx1, n1, hx1, hT1⟩ := id R1
      refine ⟨_, rfl, x, dx1, _, rfl, hx1, rf_no _ _ _ _ nf_expression, x, ts, _, o, c, _, rfl, R1, d1, Follow.mk (by rw [rk_then]; decide), (by omega), (by omega), fun r2 H2 b2 R2 P2 => ?_⟩
      obtain ⟨L2', dx2, n2, hx2, hT2⟩ := id R2
      refine ⟨_, rfl, x, dx2, _, rfl, hx2, rf_no _ _ _ _ nf_take, x, ts, _, o, _, _, rfl, R2, so_then, word_yes d2, fun H3 b3 R3 => ?_⟩
      obtain ⟨L3, dx3, n3, hx3, hT3⟩ := id R3
      refine ⟨_, rfl, x, dx3, _, rfl, hx3, rf_no _ _ _ _ nf_expression, x, ts, _, o, a, _, rfl, R3, d3, Follow.mk (by rw [rk_else]; decide), (by omega), (by omega), fun r6 H6 b6 R6 P6 => ?_⟩
      obtain ⟨L6, dx6, n6, hx6, hT6⟩ := id R6
      refine ⟨_, rfl, x, dx6, _, rfl, hx6, rf_no _ _ _ _ nf_take, x, ts, _, o, _, _, rfl, R6, so_else, word_yes d4, fun H7 b7 R7 => ?_⟩
      have P7 := P6.keep (R6.tups b7)
      obtain ⟨L7, dx7, n7, hx7, hT7⟩ := id R7
      refine ⟨_, rfl, x, dx7, _, rfl, hx7, rf_no _ _ _ _ nf_expression, x, ts, _, o, b, rest, rfl, R7, d5, hW, (by omega), (by omega), fun r8 H8 b8 R8 P8 => ?_⟩
      have P7' := P7.keep (R7.tups b8)
      have P2' := (((P2.keep (R2.tups b3)).keep (R3.tups b6)).keep (R6.tups b7)).keep (R7.tups b8)
      obtain ⟨L8, dx8, n8, hx8, hT8⟩ := id R8
      obtain ⟨a0, w0, rfl, e0, v0⟩ := P2'
      obtain ⟨a1, w1, rfl, e1, v1⟩ := P7'
      obtain ⟨a2, w2, rfl, e2, v2⟩ := P8
      refine ⟨_, rfl, x, dx8, _, rfl, hx8, rf_no _ _ _ _ nf_made, _, rfl, a0, _, _, _, rfl, rfl, SqT.of e0, atI_nat (j := 0) rfl, _, rfl, a1, _, _, _, rfl, rfl, SqT.of e1, atI_nat (j := 0) rfl, _, rfl, a2, _, _, _, rfl, rfl, SqT.of e2, atI_nat (j := 0) rfl, (by show 4 ≤ sizeLine; decide), fun z hz => ?_⟩
      refine ⟨_, rfl, _, rfl, _, rfl, (by show 3 ≤ sizeLine; decide), fun l hl => ?_⟩
      refine made_sp (rs := [a0, a1, a2]) (hs := [c.h, a.h, b.h]) hz hl ⟨⟨_, e0⟩, ⟨_, e1⟩, ⟨_, e2⟩, True.intro⟩ (.cons (.str _) (.cons v0 (.cons v1 (.cons v2 .nil)))) (by show 3 ≤ 10; omega) (by rw [mx3]; omega) fun r H9 s9 P9 => ?_
      rw [mx3] at P9
      rw [el] at R8
      exact q _ _ (((b1.trans b2).trans ((b3.trans b6).trans (b7.trans b8))).same s9) (R8.same s9) P9
    | _ => exact absurd hkd (by intro z; cases z)
end
end HN
/-! R9: expressions; the induction. -/
namespace HN
open PySem TL L2
def kw5 (y : Str) : Bool := y == "fun" || y == "rec" || y == "let" || y == "if" || y == "print"
theorem kw5_no {y : Str} (h : kw5 y = false) : ¬ y = "fun" ∧ ¬ y = "rec" ∧ ¬ y = "let" ∧ ¬ y = "if" ∧ ¬ y = "print" := by
  unfold kw5 at h
  simp only [Bool.or_eq_false_iff, beq_eq_false_iff_ne] at h
  exact ⟨h.1.1.1.1, h.1.1.1.2, h.1.1.2, h.1.2, h.2⟩
theorem kw5_atom {y : Str} (h : atomB (some (.word y)) = true) : kw5 y = false := by
  have h : (y == "true" || y == "false" || y == "unit") = true := h
  rw [Bool.or_eq_true, Bool.or_eq_true, beq_iff_eq, beq_iff_eq, beq_iff_eq] at h
  rcases h with (rfl | rfl) | rfl <;> decide +kernel
theorem first_toks (e : Ex) (h : e.lvl ≤ 5) : ∃ t r, e.toks = t :: r ∧ ∀ y, t = .word y → kw5 y = false := by
  have at_ : ∀ (a : Ex) (r : List Tk), ∃ t r', a.atoks ++ r = t :: r' ∧ ∀ y, t = .word y → kw5 y = false := fun a r => by
    obtain ⟨t, r', e1, e2⟩ := first_at a
    exact ⟨t, r' ++ r, by rw [e1]; rfl, fun y ey => by subst ey; exact kw5_atom e2⟩
  cases e with
  | num n => exact ⟨_, _, rfl, fun y z => nomatch z⟩
  | name n => exact ⟨_, _, rfl, fun y z => nomatch z⟩
  | unit => exact ⟨_, _, rfl, fun y z => by cases z; decide +kernel⟩
  | flag b => exact ⟨_, _, rfl, fun y z => by cases z; cases b <;> decide +kernel⟩
  | pair a b => exact ⟨_, _, rfl, fun y z => nomatch z⟩
  | asT a b => exact ⟨_, _, rfl, fun y z => nomatch z⟩
  | op s a b => exact at_ a _
  | call a b => exact at_ a _
  | un k a => exact ⟨_, _, rfl, fun y z => by cases z; cases k <;> decide +kernel⟩
  | put a b => exact ⟨_, _, rfl, fun y z => by cases z; decide +kernel⟩
  | _ => exact absurd h (by intro z; simp [Ex.lvl] at z)
theorem u1 : ¬ (("rec" : Str) = "fun") := by decide +kernel
theorem u2 : ¬ (("let" : Str) = "fun") := by decide +kernel
theorem u3 : ¬ (("let" : Str) = "rec") := by decide +kernel
theorem u4 : ¬ (("if" : Str) = "fun") := by decide +kernel
theorem u5 : ¬ (("if" : Str) = "rec") := by decide +kernel
theorem u6 : ¬ (("if" : Str) = "let") := by decide +kernel
theorem u7 : ¬ (("print" : Str) = "fun") := by decide +kernel
theorem u8 : ¬ (("print" : Str) = "rec") := by decide +kernel
theorem u9 : ¬ (("print" : Str) = "let") := by decide +kernel
theorem u10 : ¬ (("print" : Str) = "if") := by decide +kernel
section
variable {P : Program} {w : World} {K : PySem.W.Frag} {mg : Str → Option Value} {base : Heap}
structure AllEx (P : Program) (w : World) (K : PySem.W.Frag) (mg : Str → Option Value) (base : Heap) (E : Env K mg) (n : Nat) : Prop where
  ex : Ok1 P w K mg base n E.a_r_expression E.d_r_expression (spExpr E.C n)
  fn : Ok1 P w K mg base n E.a_r_function E.d_r_function (spKw isFun E.C n)
  rc : Ok1 P w K mg base n E.a_r_recursive E.d_r_recursive (spKw isRec E.C n)
  lt : Ok1 P w K mg base n E.a_r_binding E.d_r_binding (spKw isLet E.C n)
  it : Ok1 P w K mg base n E.a_r_conditional E.d_r_conditional (spKw isIf E.C n)
  cm : Ok1 P w K mg base n E.a_r_comparison E.d_r_comparison (spLv 5 E.C n)
  tt : Ok1 P w K mg base n E.a_r_total E.d_r_total (spLv 4 E.C n)
  pd : Ok1 P w K mg base n E.a_r_product E.d_r_product (spLv 3 E.C n)
  px : Ok1 P w K mg base n E.a_r_prefix E.d_r_prefix (spLv 2 E.C n)
  cl : Ok1 P w K mg base n E.a_r_call E.d_r_call (spCall E.C n)
  at_ : Ok1 P w K mg base n E.a_r_atom E.d_r_atom (spAtom E.C n)
  en : Ok1 P w K mg base n E.a_r_enclosed E.d_r_enclosed (spEnc E.C n)
theorem ok_expression (E : Env K mg) {n : Nat} (A0 : AllEx P w K mg base E n) : Ok1 P w K mg base (n + 1) E.a_r_expression E.d_r_expression (spExpr E.C (n + 1)) := by
  refine E.F_r_expression.ok sc_r_expression (fun vs H Q E' h => ?_) (fun cdv A outer s H vs Q E' hr h => ?_)
  · obtain ⟨x, ts, p, o, e, rest, rfl, _⟩ := h
    rfl
  · obtain ⟨x, ts, p, o, e, rest, rfl, hR, hd, hW, hn, ho, q⟩ := h
    have hh := e.h_pos
    have g_r_expression := A0.ex
    have g_r_function := A0.fn
    have g_r_recursive := A0.rc
    have g_r_binding := A0.lt
    have g_r_conditional := A0.it
    have g_r_comparison := A0.cm
    have g_r_total := A0.tt
    have g_r_made := ok_made (P := P) (w := w) (base := base) E
    have g_r_take := ok_take (P := P) (w := w) (base := base) E
    have g_r_enter := ok_enter (P := P) (w := w) (base := base) E
    have g_r_here := ok_here (P := P) (w := w) (base := base) E
    have h_r_expression : Room n _ := hr
    have h_r_function : Room n _ := hr
    have h_r_recursive : Room n _ := hr
    have h_r_binding : Room n _ := hr
    have h_r_conditional : Room n _ := hr
    have h_r_comparison : Room n _ := hr
    have h_r_total : Room n _ := hr
    have h_r_made : Room 1 _ := hr.mono (by omega)
    have h_r_take : Room 3 _ := hr.mono (by omega)
    have h_r_enter : Room 1 _ := hr.mono (by omega)
    have h_r_here : Room 1 _ := hr.mono (by omega)
    refine ⟨_, (pss_cons (ps_expr (pe_meth0 (pv 0) E.cl E.M_r_enter g_r_enter h_r_enter E.B_r_enter .nil pass0))
      (pss_cons (ps_asg (pe_meth0 (pv 0) E.cl E.M_r_here g_r_here h_r_here E.B_r_here .nil pass0) (pg_tup rfl (pgs_cons (pg_name (i := 1) sc_r_expression.nd rfl (Or.inl rfl)) (pgs_cons (pg_name (i := 2) sc_r_expression.nd rfl (Or.inl rfl)) pgs_nil))))
      (pss_cons (ps_if (PW.pt (pw_and (pt_cmpR op_eq (pv 1) pe_str (nomark _)) (pw_and1 (pt_cmpR op_eq (pv 2) pe_str (nomark _))))) (pss_one (ps_set (i := 3) sc_r_expression.nd rfl (Or.inl rfl) (pe_meth0 (pv 0) E.cl E.M_r_function g_r_function h_r_function E.B_r_function .nil pass0))) (pss_one (ps_if (PW.pt (pw_and (pt_cmpR op_eq (pv 1) pe_str (nomark _)) (pw_and1 (pt_cmpR op_eq (pv 2) pe_str (nomark _))))) (pss_one (ps_set (i := 3) sc_r_expression.nd rfl (Or.inl rfl) (pe_meth0 (pv 0) E.cl E.M_r_recursive g_r_recursive h_r_recursive E.B_r_recursive .nil pass0))) (pss_one (ps_if (PW.pt (pw_and (pt_cmpR op_eq (pv 1) pe_str (nomark _)) (pw_and1 (pt_cmpR op_eq (pv 2) pe_str (nomark _))))) (pss_one (ps_set (i := 3) sc_r_expression.nd rfl (Or.inl rfl) (pe_meth0 (pv 0) E.cl E.M_r_binding g_r_binding h_r_binding E.B_r_binding .nil pass0))) (pss_one (ps_if (PW.pt (pw_and (pt_cmpR op_eq (pv 1) pe_str (nomark _)) (pw_and1 (pt_cmpR op_eq (pv 2) pe_str (nomark _))))) (pss_one (ps_set (i := 3) sc_r_expression.nd rfl (Or.inl rfl) (pe_meth0 (pv 0) E.cl E.M_r_conditional g_r_conditional h_r_conditional E.B_r_conditional .nil pass0))) (pss_one (ps_if (PW.pt (pw_and (pt_cmpR op_eq (pv 1) pe_str (nomark _)) (pw_and1 (pt_cmpR op_eq (pv 2) pe_str (nomark _))))) (pss_cons (ps_fldaug (pv 0) pe_int in_add)
      (pss_cons (ps_set (i := 4) sc_r_expression.nd rfl (Or.inl rfl) (pe_meth0 (pv 0) E.cl E.M_r_total g_r_total h_r_total E.B_r_total .nil pass0))
      (pss_cons (ps_expr (pe_meth (pv 0) E.cl E.M_r_take g_r_take h_r_take E.B_r_take .nil pass0 (pa_cons pe_str (pa_cons pe_str pa_nil))))
      (pss_cons (ps_set (i := 5) sc_r_expression.nd rfl (Or.inl rfl) (pe_meth0 (pv 0) E.cl E.M_r_expression g_r_expression h_r_expression E.B_r_expression .nil pass0))
      (pss_one (ps_set (i := 3) sc_r_expression.nd rfl (Or.inl rfl) (pe_meth (pv 0) E.cl E.M_r_made g_r_made h_r_made E.B_r_made .nil pass0 (pa_cons (pe_tup (pa_cons pe_str (pa_cons (pe_ix ix_tup (pv 4) pe_int (fun _ _ => rfl)) (pa_cons (pe_ix ix_tup (pv 5) pe_int (fun _ _ => rfl)) pa_nil)))) (pa_cons (pe_lst (pa_cons (pv 4) (pa_cons (pv 5) pa_nil))) pa_nil))))))))) (pss_one (ps_set (i := 3) sc_r_expression.nd rfl (Or.inl rfl) (pe_meth0 (pv 0) E.cl E.M_r_comparison g_r_comparison h_r_comparison E.B_r_comparison .nil pass0))))))))))))
      (pss_cons (ps_fldaug (pv 0) pe_int in_sub)
      (pss_one (ps_ret (pv 3))))))), ?_⟩
    obtain ⟨L, dx, nn, hx, hT⟩ := id hR
    refine ⟨_, rfl, x, dx, _, rfl, hx, rf_no _ _ _ _ nf_enter, x, ts, _, o, rfl, hR, (by omega), fun H1 b1 R1 => ?_⟩
    obtain ⟨L1, dx1, n1, hx1, hT1⟩ := id R1
    refine ⟨_, rfl, x, dx1, _, rfl, hx1, rf_no _ _ _ _ nf_here, x, ts, p, o + 1, rfl, R1, fun r2 H2 s2 h2 => ?_⟩
    have R2 := R1.same s2
    have b2 := b1.same s2
    obtain ⟨L2', dx2, n2, hx2, hT2⟩ := id R2
    have fin : ∀ (H' : Hp) (r : V), But x H2 H' → RdAt E.C H' x ts (p + e.toks.length) (o + 1) → HasP H' e.d e.h r → ∀ (k v f1 f2 : Option V),
        (tSeq (sFldAug K (tVar 0) (tC (.int 1)) rSub "opened") (tRet (tVar 3))) { nx := fun _ H' => Q .non H', rt := Q } [some (.ref x), k, v, some r, f1, f2] H' := by
      intro H' r b' R' P' k v f1 f2
      obtain ⟨L', dx', n', hx', hT'⟩ := id R'
      refine ⟨_, rfl, x, E.C, dx', _, _, rfl, hx', E.cl, E.n_opn, rf_opn _ _ _ _, _, _, rfl, rfl, dx', _, hx', rf_size _ _ _ _, ?_⟩
      obtain ⟨R3, b3, t3⟩ := RdAt.shut3 hx' hT'
      exact ⟨_, rfl, q r _ ((b2.trans b').trans b3) R3 (P'.keep t3)⟩
    by_cases hl : e.lvl ≤ 5
    · -- no word of its own
      obtain ⟨t, r, et, ht⟩ := first_toks e hl
      obtain ⟨need, lv, hF, f1, f2⟩ := Form.of hl
      have e2 : ts[p]? = some t := at_cons (by rw [hd, et]; rfl)
      rw [kind_name e2, val_name e2] at h2
      refine ⟨r2, _, rfl, SqT.of h2, rfl, _, _, rfl, _, _, rfl, rfl, ?_⟩
      cases t with
      | word y =>
        obtain ⟨y1, y2, y3, y4, y5⟩ := kw5_no (ht y rfl)
        refine ⟨_, rfl, rfl, _, rfl, dT rfl ⟨_, rfl, rfl, _, rfl, dF (vne y1) ?_⟩⟩
        refine ⟨_, rfl, rfl, _, rfl, dT rfl ⟨_, rfl, rfl, _, rfl, dF (vne y2) ?_⟩⟩
        refine ⟨_, rfl, rfl, _, rfl, dT rfl ⟨_, rfl, rfl, _, rfl, dF (vne y3) ?_⟩⟩
        refine ⟨_, rfl, rfl, _, rfl, dT rfl ⟨_, rfl, rfl, _, rfl, dF (vne y4) ?_⟩⟩
        refine ⟨_, rfl, rfl, _, rfl, dT rfl ⟨_, rfl, rfl, _, rfl, dF (vne y5) ?_⟩⟩
        refine ⟨_, rfl, x, dx2, _, rfl, hx2, rf_no _ _ _ _ nf_comparison, x, ts, p, o + 1, e, _, rest, need, lv, rfl, R2, hd, hF, hW, (by omega), (by omega), fun r3 H3 b3 R3 P3 => ?_⟩
        exact fin H3 _ b3 R3 P3 _ _ _ _
      | name y =>
        refine ⟨_, rfl, rfl, _, rfl, dF (vne k_nw) (iteF ?_)⟩
        refine ⟨_, rfl, rfl, _, rfl, dF (vne k_nw) (iteF ?_)⟩
        refine ⟨_, rfl, rfl, _, rfl, dF (vne k_nw) (iteF ?_)⟩
        refine ⟨_, rfl, rfl, _, rfl, dF (vne k_nw) (iteF ?_)⟩
        refine ⟨_, rfl, rfl, _, rfl, dF (vne k_nw) (iteF ?_)⟩
        refine ⟨_, rfl, x, dx2, _, rfl, hx2, rf_no _ _ _ _ nf_comparison, x, ts, p, o + 1, e, _, rest, need, lv, rfl, R2, hd, hF, hW, (by omega), (by omega), fun r3 H3 b3 R3 P3 => ?_⟩
        exact fin H3 _ b3 R3 P3 _ _ _ _
      | num y =>
        refine ⟨_, rfl, rfl, _, rfl, dF (vne k_uw) (iteF ?_)⟩
        refine ⟨_, rfl, rfl, _, rfl, dF (vne k_uw) (iteF ?_)⟩
        refine ⟨_, rfl, rfl, _, rfl, dF (vne k_uw) (iteF ?_)⟩
        refine ⟨_, rfl, rfl, _, rfl, dF (vne k_uw) (iteF ?_)⟩
        refine ⟨_, rfl, rfl, _, rfl, dF (vne k_uw) (iteF ?_)⟩
        refine ⟨_, rfl, x, dx2, _, rfl, hx2, rf_no _ _ _ _ nf_comparison, x, ts, p, o + 1, e, _, rest, need, lv, rfl, R2, hd, hF, hW, (by omega), (by omega), fun r3 H3 b3 R3 P3 => ?_⟩
        exact fin H3 _ b3 R3 P3 _ _ _ _
      | sign y =>
        refine ⟨_, rfl, rfl, _, rfl, dF (vne k_sw) (iteF ?_)⟩
        refine ⟨_, rfl, rfl, _, rfl, dF (vne k_sw) (iteF ?_)⟩
        refine ⟨_, rfl, rfl, _, rfl, dF (vne k_sw) (iteF ?_)⟩
        refine ⟨_, rfl, rfl, _, rfl, dF (vne k_sw) (iteF ?_)⟩
        refine ⟨_, rfl, rfl, _, rfl, dF (vne k_sw) (iteF ?_)⟩
        refine ⟨_, rfl, x, dx2, _, rfl, hx2, rf_no _ _ _ _ nf_comparison, x, ts, p, o + 1, e, _, rest, need, lv, rfl, R2, hd, hF, hW, (by omega), (by omega), fun r3 H3 b3 R3 P3 => ?_⟩
        exact fin H3 _ b3 R3 P3 _ _ _ _
    · cases e with
      | fn y t b =>
        have e2 : ts[p]? = some (.word "fun") := at_cons hd
        rw [kind_name e2, val_name e2] at h2
        refine ⟨r2, _, rfl, SqT.of h2, rfl, _, _, rfl, _, _, rfl, rfl, ?_⟩
        refine ⟨_, rfl, rfl, _, rfl, dT rfl ⟨_, rfl, rfl, _, rfl, dT rfl ?_⟩⟩
        refine ⟨_, rfl, x, dx2, _, rfl, hx2, rf_no _ _ _ _ nf_function, x, ts, p, o + 1, _, rest, rfl, R2, hd, hW, rfl, (by omega), (by omega), fun r3 H3 b3 R3 P3 => ?_⟩
        exact fin H3 _ b3 R3 P3 _ _ _ _
      | recf f y t u b =>
        have e2 : ts[p]? = some (.word "rec") := at_cons hd
        rw [kind_name e2, val_name e2] at h2
        refine ⟨r2, _, rfl, SqT.of h2, rfl, _, _, rfl, _, _, rfl, rfl, ?_⟩
        refine ⟨_, rfl, rfl, _, rfl, dT rfl ⟨_, rfl, rfl, _, rfl, dF (vne u1) ?_⟩⟩
        refine ⟨_, rfl, rfl, _, rfl, dT rfl ⟨_, rfl, rfl, _, rfl, dT rfl ?_⟩⟩
        refine ⟨_, rfl, x, dx2, _, rfl, hx2, rf_no _ _ _ _ nf_recursive, x, ts, p, o + 1, _, rest, rfl, R2, hd, hW, rfl, (by omega), (by omega), fun r3 H3 b3 R3 P3 => ?_⟩
        exact fin H3 _ b3 R3 P3 _ _ _ _
      | letx y a b =>
        have e2 : ts[p]? = some (.word "let") := at_cons hd
        rw [kind_name e2, val_name e2] at h2
        refine ⟨r2, _, rfl, SqT.of h2, rfl, _, _, rfl, _, _, rfl, rfl, ?_⟩
        refine ⟨_, rfl, rfl, _, rfl, dT rfl ⟨_, rfl, rfl, _, rfl, dF (vne u2) ?_⟩⟩
        refine ⟨_, rfl, rfl, _, rfl, dT rfl ⟨_, rfl, rfl, _, rfl, dF (vne u3) ?_⟩⟩
        refine ⟨_, rfl, rfl, _, rfl, dT rfl ⟨_, rfl, rfl, _, rfl, dT rfl ?_⟩⟩
        refine ⟨_, rfl, x, dx2, _, rfl, hx2, rf_no _ _ _ _ nf_binding, x, ts, p, o + 1, _, rest, rfl, R2, hd, hW, rfl, (by omega), (by omega), fun r3 H3 b3 R3 P3 => ?_⟩
        exact fin H3 _ b3 R3 P3 _ _ _ _
      | ite c a b =>
        have e2 : ts[p]? = some (.word "if") := at_cons hd
        rw [kind_name e2, val_name e2] at h2
        refine ⟨r2, _, rfl, SqT.of h2, rfl, _, _, rfl, _, _, rfl, rfl, ?_⟩
        refine ⟨_, rfl, rfl, _, rfl, dT rfl ⟨_, rfl, rfl, _, rfl, dF (vne u4) ?_⟩⟩
        refine ⟨_, rfl, rfl, _, rfl, dT rfl ⟨_, rfl, rfl, _, rfl, dF (vne u5) ?_⟩⟩
        refine ⟨_, rfl, rfl, _, rfl, dT rfl ⟨_, rfl, rfl, _, rfl, dF (vne u6) ?_⟩⟩
        refine ⟨_, rfl, rfl, _, rfl, dT rfl ⟨_, rfl, rfl, _, rfl, dT rfl ?_⟩⟩
        refine ⟨_, rfl, x, dx2, _, rfl, hx2, rf_no _ _ _ _ nf_conditional, x, ts, p, o + 1, _, rest, rfl, R2, hd, hW, rfl, (by omega), (by omega), fun r3 H3 b3 R3 P3 => ?_⟩
        exact fin H3 _ b3 R3 P3 _ _ _ _
      | print a b =>
        have et : (Ex.print a b).toks = .word "print" :: (a.atoks ++ .sign ";" :: b.toks) := rfl
        have eh : (Ex.print a b).h = 1 + max a.h b.h := rfl
        have h1 : a.h ≤ max a.h b.h := Nat.le_max_left _ _
        have h2' : b.h ≤ max a.h b.h := Nat.le_max_right _ _
        have k1 := kA_le a
        have k2 := nA_le a
        rw [et] at hd fin
        have hd : ts.drop p = .word "print" :: (a.atoks ++ (.sign ";" :: (b.toks ++ rest))) := by rw [hd]; simp
        have e2 : ts[p]? = some (.word "print") := at_cons hd
        have d1 := drop_one hd
        have d2 := drop_app d1
        have d3 := drop_one d2
        have el : p + 1 + a.atoks.length + 1 + b.toks.length = p + (Tk.word "print" :: (a.atoks ++ Tk.sign ";" :: b.toks)).length := by simp only [List.length_cons, List.length_append]; omega
        rw [kind_name e2, val_name e2] at h2
        refine ⟨r2, _, rfl, SqT.of h2, rfl, _, _, rfl, _, _, rfl, rfl, ?_⟩
        refine ⟨_, rfl, rfl, _, rfl, dT rfl ⟨_, rfl, rfl, _, rfl, dF (vne u7) ?_⟩⟩
        refine ⟨_, rfl, rfl, _, rfl, dT rfl ⟨_, rfl, rfl, _, rfl, dF (vne u8) ?_⟩⟩
        refine ⟨_, rfl, rfl, _, rfl, dT rfl ⟨_, rfl, rfl, _, rfl, dF (vne u9) ?_⟩⟩
        refine ⟨_, rfl, rfl, _, rfl, dT rfl ⟨_, rfl, rfl, _, rfl, dF (vne u10) ?_⟩⟩
        refine ⟨_, rfl, rfl, _, rfl, dT rfl ⟨_, rfl, rfl, _, rfl, dT rfl ?_⟩⟩
        refine ⟨_, rfl, x, E.C, dx2, _, _, rfl, hx2, E.cl, E.n_pos, rf_pos _ _ _ _, _, _, rfl, rfl, dx2, _, hx2, rf_size _ _ _ _, ?_⟩
        obtain ⟨R3, b3, t3⟩ := RdAt.step3 hx2 hT2
        obtain ⟨L3, dx3, n3, hx3, hT3⟩ := id R3
        refine ⟨_, rfl, x, dx3, _, rfl, hx3, rf_no _ _ _ _ nf_total, x, ts, _, o + 1, a, a.atoks, _, _, _, rfl, R3, d1, Form.at_ 4 a, Follow.mk (by rw [rk_semi]; decide), (by omega), (by omega), fun r4 H4 b4 R4 P4 => ?_⟩
        obtain ⟨L4, dx4, n4, hx4, hT4⟩ := id R4
        refine ⟨_, rfl, x, dx4, _, rfl, hx4, rf_no _ _ _ _ nf_take, x, ts, _, o + 1, _, _, rfl, R4, so_semi, sees_yes d2, fun H5 b5 R5 => ?_⟩
        have P5 := P4.keep (R4.tups b5)
        obtain ⟨L5, dx5, n5, hx5, hT5⟩ := id R5
        refine ⟨_, rfl, x, dx5, _, rfl, hx5, rf_no _ _ _ _ nf_expression, x, ts, _, o + 1, b, rest, rfl, R5, d3, hW, (by omega), (by omega), fun r6 H6 b6 R6 P6 => ?_⟩
        have P5' := P5.keep (R5.tups b6)
        obtain ⟨L6, dx6, n6, hx6, hT6⟩ := id R6
        obtain ⟨a1, w1, rfl, e1, v1⟩ := P5'
        obtain ⟨a2, w2, rfl, e2', v2⟩ := P6
        refine ⟨_, rfl, x, dx6, _, rfl, hx6, rf_no _ _ _ _ nf_made, _, rfl, a1, _, _, _, rfl, rfl, SqT.of e1, atI_nat (j := 0) rfl, _, rfl, a2, _, _, _, rfl, rfl, SqT.of e2', atI_nat (j := 0) rfl, (by show 3 ≤ sizeLine; decide), fun c hc => ?_⟩
        refine ⟨_, rfl, _, rfl, (by show 2 ≤ sizeLine; decide), fun l hl => ?_⟩
        refine made_sp (rs := [a1, a2]) (hs := [a.h, b.h]) hc hl ⟨⟨_, e1⟩, ⟨_, e2'⟩, True.intro⟩ (.cons (.str _) (.cons v1 (.cons v2 .nil))) (by show 2 ≤ 10; omega) (by rw [mx2]; omega) fun r H7 s67 P7 => ?_
        rw [mx2] at P7
        rw [← el] at fin
        exact fin H7 _ ((((b3.trans b4).trans b5).trans b6).same s67) (R6.same s67) P7 _ _ _ _
      | op s a b => exact absurd (by cases s <;> simp [Ex.lvl]) hl
      | _ => exact absurd (by simp [Ex.lvl]) hl
theorem ex_all (E : Env K mg) : ∀ n : Nat, AllEx P w K mg base E n
  | 0 => by
    have no : ∀ {sp : Sp} {a : Addr} {d : FuncData}, (∀ vs H Q E', ¬ sp vs H Q E') → Ok1 P w K mg base 0 a d sp := fun no =>
      ⟨fun vs H Q E' h => absurd h (no vs H Q E'), fun A outer s H args us vs Q E' _ _ _ _ h => absurd h (no vs H Q E')⟩
    have lvn : ∀ L, ∀ vs H Q E', ¬ spLv L E.C 0 vs H Q E' := fun L vs H Q E' h => by
      obtain ⟨_, _, _, _, _, _, _, _, _, _, _, _, hF, _, h1, _⟩ := h
      have := (form_lv hF).1
      omega
    have kwn : ∀ kd, ∀ vs H Q E', ¬ spKw kd E.C 0 vs H Q E' := fun kd vs H Q E' h => by
      obtain ⟨_, _, _, _, _, _, _, _, _, _, _, h1, _⟩ := h
      omega
    refine ⟨no fun vs H Q E' h => ?_, no (kwn _), no (kwn _), no (kwn _), no (kwn _), no (lvn _), no (lvn _), no (lvn _), no (lvn _), no fun vs H Q E' h => ?_, no fun vs H Q E' h => ?_, no fun vs H Q E' h => ?_⟩
    · obtain ⟨_, _, _, _, _, _, _, _, _, _, h1, _⟩ := h
      omega
    · obtain ⟨_, _, _, _, _, _, _, _, _, _, _, _, hF, _, h1, _⟩ := h
      have := (form_lv hF).1
      omega
    · obtain ⟨_, _, _, _, e, _, _, _, _, h1, _⟩ := h
      have := kA_ge e
      omega
    · obtain ⟨_, _, _, _, e, _, _, _, _, _, _, h1, _⟩ := h
      have := kA_ge e
      omega
  | n + 1 => by
    have A0 := ex_all E n
    exact ⟨ok_expression E A0, ok_function E A0.ex, ok_recursive E A0.ex, ok_binding E A0.ex, ok_conditional E A0.ex, ok_comparison E A0.tt, ok_total E A0.pd, ok_product E A0.px, ok_prefix E A0.at_ A0.cl A0.px, ok_call E A0.at_, ok_atom E A0.en, ok_enclosed E A0.ex⟩
end
end HN
/-! K1: texts are cut into tokens: the runs, numbers, words, signs. -/
namespace HN
open PySem TL L2
theorem tl_cut {z : Str} {a b : Nat} (ha : a ≤ z.length) : tl (cutS z (some (a : Int)) (some (b : Int))) = ((tl z).drop a).take (b - a) := by
  show ((tl z).drop (HT.sIx z.length 0 (some (a : Int)))).take (HT.sIx z.length z.length (some (b : Int)) - HT.sIx z.length 0 (some (a : Int))) = _
  rw [HT.sIx_nat, HT.sIx_nat, Nat.min_eq_left ha]
  by_cases h : b ≤ z.length
  · rw [Nat.min_eq_left h]
  · rw [Nat.min_eq_right (by omega)]
    have e : ((tl z).drop a).length = z.length - a := by rw [List.length_drop, len_tl]
    rw [List.take_of_length_le (by omega), List.take_of_length_le (by omega)]
theorem tl_mid {z : Str} {pre mid rest : List Nat} (h : tl z = pre ++ (mid ++ rest)) : tl (cutS z (some ((pre.length : Nat) : Int)) (some ((pre.length + mid.length : Nat) : Int))) = mid := by
  have hl : z.length = pre.length + (mid.length + rest.length) := by rw [len_tl, h, List.length_append, List.length_append]
  rw [tl_cut (by omega), h, List.drop_left, Nat.add_sub_cancel_left, List.take_left]
theorem at_mid {z : Str} {pre rest : List Nat} {c : Nat} (h : tl z = pre ++ c :: rest) : atI z.cps.toList ((pre.length : Nat) : Int) = some c := by
  refine atI_nat ?_
  show (tl z)[pre.length]? = some c
  rw [h, List.getElem?_append_right (Nat.le_refl _), Nat.sub_self]
  rfl
section
variable {P : Program} {w : World} {K : PySem.W.Frag} {mg : Str → Option Value} {base : Heap}
def spRun : Sp := fun vs H Q _ => ∃ (z cs : Str) (pre mid rest : List Nat), vs = [.str z, .int ((pre.length : Nat) : Int), .str cs] ∧ tl z = pre ++ (mid ++ rest) ∧ z.length ≤ 20000 ∧ (∀ c ∈ mid, c ∈ tl cs) ∧ (∀ c r, rest = c :: r → c ∉ tl cs) ∧
  Q (.int ((pre.length + mid.length : Nat) : Int)) H
theorem ok_run (E : Env K mg) : FnOk P w K mg base CX0 1 E.a_m_end_of_run E.d_m_end_of_run ["text", "at", "characters"] spRun := by
  refine E.F_m_end_of_run.ok sc_m_end_of_run (fun vs H Q E' h => ?_) (fun cdv A outer s H vs Q E' hr h => ?_)
  · obtain ⟨z, cs, pre, mid, rest, rfl, _⟩ := h
    rfl
  · obtain ⟨z, cs, pre, mid, rest, rfl, hz, hl, hin, hout, q⟩ := h
    refine ⟨_, (pss_cons (ps_while PassesOwn.never (PW.pt (pw_and (pt_cmpR op_lt (pv 1) (pe_callB call_len_str (by rfl) E.z_len (by decide +kernel) (pa_cons (pv 0) pa_nil)) (nomark _)) (pw_and1 (pt_cmpR op_in_sign (pe_ix ix_str (pv 0) (pv 1) (fun _ _ => rfl)) (pv 2) (by rfl))))) (pss_one (ps_aug (i := 1) sc_m_end_of_run.nd rfl (Or.inl rfl) pe_int ip_add)))
      (pss_one (ps_ret (pv 1)))), ?_⟩
    have hsz : z.length ≤ sizeLine := Nat.le_trans hl (by decide)
    have hlen : z.length = pre.length + (mid.length + rest.length) := by rw [len_tl, hz, List.length_append, List.length_append]
    refine ⟨fun m σ H' => ∃ j, m = mid.length - j ∧ j ≤ mid.length ∧ σ = [some (.str z), some (.int ((pre.length + j : Nat) : Int)), some (.str cs)] ∧ H' = H, ⟨_, 0, rfl, Nat.zero_le _, rfl, rfl⟩, ?_⟩
    rintro m σ H' ⟨j, rfl, hj, rfl, rfl⟩
    refine ⟨_, rfl, _, rfl, z, rfl, hsz, _, _, rfl, rfl, _, rfl, ?_⟩
    refine ite2 (fun c => ?_) (fun c => ?_)
    · have c' : ((pre.length + j : Nat) : Int) < ((z.length : Nat) : Int) := of_decide_eq_true c
      by_cases hjm : j < mid.length
      · have em : mid = mid.take j ++ mid[j] :: mid.drop (j + 1) := by rw [← List.drop_eq_getElem_cons hjm, List.take_append_drop]
        have ez : tl z = (pre ++ mid.take j) ++ mid[j] :: (mid.drop (j + 1) ++ rest) := by
          rw [hz]
          conv => lhs; rw [em]
          simp only [List.append_assoc, List.cons_append]
        have ha := at_mid ez
        rw [List.length_append, List.length_take, Nat.min_eq_left hj] at ha
        refine ⟨_, rfl, _, rfl, z, _, _, rfl, rfl, hsz, ha, _, rfl, mid[j], cs, rfl, rfl, _, rfl, ?_⟩
        refine dT (hin _ (List.getElem_mem hjm)) ?_
        refine ⟨fun σ' H2 => σ' = [some (.str z), some (.int ((pre.length + (j + 1) : Nat) : Int)), some (.str cs)] ∧ H2 = H', fun σ' H2 h => ⟨mid.length - (j + 1), by omega, j + 1, rfl, hjm, h⟩, ?_⟩
        exact ⟨_, rfl, _, _, rfl, rfl, rfl, rfl⟩
      · have ej : j = mid.length := by omega
        subst ej
        cases rest with
        | nil =>
          exfalso
          rw [hlen] at c'
          simp at c'
        | cons c0 r =>
          have ez : tl z = (pre ++ mid) ++ c0 :: r := by rw [hz, List.append_assoc]
          have ha := at_mid ez
          rw [List.length_append] at ha
          refine ⟨_, rfl, _, rfl, z, _, _, rfl, rfl, hsz, ha, _, rfl, c0, cs, rfl, rfl, _, rfl, ?_⟩
          refine dF (hout _ _ rfl) ?_
          exact ⟨_, rfl, q⟩
    · have c' : ¬ ((pre.length + j : Nat) : Int) < ((z.length : Nat) : Int) := of_decide_eq_false (Bool.eq_false_iff.mpr c)
      have ej : j = mid.length := by omega
      subst ej
      exact iteF ⟨_, rfl, q⟩
end
end HN
/-! K2: numbers, words and signs are cut off a text. -/
namespace HN
open PySem TL L2
theorem l_digits : tl "0123456789" = [48, 49, 50, 51, 52, 53, 54, 55, 56, 57] := by decide +kernel
theorem l_letters : tl "abcdefghijklmnopqrstuvwxyz" = [97, 98, 99, 100, 101, 102, 103, 104, 105, 106, 107, 108, 109, 110, 111, 112, 113, 114, 115, 116, 117, 118, 119, 120, 121, 122] := by decide +kernel
theorem l_under : tl "_" = [95] := by decide +kernel
theorem mem_digits {c : Nat} : c ∈ tl "0123456789" ↔ digit c := by
  rw [l_digits]
  unfold digit
  simp only [List.mem_cons, List.not_mem_nil, or_false]
  omega
theorem mem_letters {c : Nat} : c ∈ tl "abcdefghijklmnopqrstuvwxyz" ↔ lower c := by
  rw [l_letters]
  unfold lower
  simp only [List.mem_cons, List.not_mem_nil, or_false]
  omega
theorem mem_inner {c : Nat} : c ∈ tl ("abcdefghijklmnopqrstuvwxyz" ++ "0123456789" ++ "_" : Str) ↔ inner c := by
  rw [tl_append, tl_append, List.mem_append, List.mem_append, mem_digits, mem_letters, l_under]
  unfold inner
  simp only [List.mem_cons, List.not_mem_nil, or_false]
  exact or_assoc
theorem end_out {rest : List Nat} (h : EndOk rest) {c : Nat} {r : List Nat} (e : rest = c :: r) : ¬ inner c ∧ ¬ digit c ∧ ¬ lower c ∧ c ≠ 95 := by
  subst e
  have h : c = 32 ∨ c = 10 ∨ c = 41 ∨ c = 44 := h
  unfold inner digit lower
  omega
theorem numL_head : ∀ n : Nat, 1 ≤ n → ∃ c r, numL n = c :: r ∧ c ≠ 48 := by
  intro n
  induction n using Nat.strongRecOn with
  | _ n ih =>
    intro h1
    by_cases h : n < 10
    · exact ⟨48 + n, [], numL_lt h, by omega⟩
    · obtain ⟨c, r, e, hc⟩ := ih (n / 10) (by omega) (by omega)
      exact ⟨c, r ++ [48 + n % 10], by rw [numL_step (by omega), e]; rfl, hc⟩
theorem numL_cons (n : Nat) : ∃ c r, numL n = c :: r ∧ digit c := by
  have h := numL_digits n
  cases e : numL n with
  | nil => exact absurd e (numL_ne n)
  | cons c r =>
    have q := h c (by rw [e]; exact List.mem_cons_self ..)
    exact ⟨c, r, rfl, q⟩
theorem in_strs (x : Str) : ∀ l : List Str, inV (.str x) (l.map V.str) = decide (x ∈ l)
  | [] => by simp [inV]
  | y :: l => by
    have ih := in_strs x l
    unfold inV at ih ⊢
    rw [List.map_cons, List.any_cons, ih]
    show (y == x || decide (x ∈ l)) = decide (x ∈ y :: l)
    by_cases h : y = x
    · subst h; simp
    · have h' : ¬ x = y := fun z => h z.symm
      simp [h, h']
theorem flat_strs : ∀ l : List Str, (l.map V.str).all flatV = true
  | [] => rfl
  | y :: l => by
    rw [List.map_cons, List.all_cons, flat_strs l]
    rfl
theorem one_ne {c : Nat} {s : Str} {d : Nat} (h : tl s = [d]) (n : c ≠ d) : ¬ V.str ⟨#[c]⟩ = V.str s := fun z => by
  have z := V.str.inj z
  rw [← z] at h
  have h : [c] = [d] := h
  exact n (List.cons.inj h).1
section
variable {P : Program} {w : World} {K : PySem.W.Frag} {mg : Str → Option Value} {base : Heap}
def spTok (kd : Tk → Bool) : Sp := fun vs H Q _ => ∃ (z : Str) (pre rest : List Nat) (t : Tk), vs = [.str z, .int ((pre.length : Nat) : Int)] ∧ tl z = pre ++ (t.cs ++ rest) ∧ z.length ≤ 20000 ∧ t.ok ∧ (t = .sign "(" ∨ EndOk rest) ∧ kd t = true ∧
  ∀ (r q : Addr) (H' : Hp), Same H H' → H' r = some (.tup [.ref q, .int ((pre.length + t.cs.length : Nat) : Int)]) → H' q = some (.tup [.str t.kind, t.val, .int ((pre.length : Nat) : Int)]) → Q (.ref r) H'
def isNum : Tk → Bool | .num _ => true | _ => false
def isWord : Tk → Bool | .word _ => true | .name _ => true | _ => false
def isSign : Tk → Bool | .sign _ => true | _ => false
theorem pow31 : ((2 : Int) ^ (31 : Int).toNat) = 2147483648 := by decide +kernel
theorem ok_number (E : Env K mg) : FnOk P w K mg base CX0 2 E.a_m_number_token E.d_m_number_token ["text", "at"] (spTok isNum) := by
  refine E.F_m_number_token.ok sc_m_number_token (fun vs H Q E' h => ?_) (fun cdv A outer s H vs Q E' hr h => ?_)
  · obtain ⟨z, pre, rest, t, rfl, _⟩ := h
    rfl
  · obtain ⟨z, pre, rest, t, rfl, hz, hl, hok, he, hk, q⟩ := h
    have g_m_end_of_run := ok_run (P := P) (w := w) (base := base) E
    have h_m_end_of_run : Room 1 _ := hr
    cases t with
    | num n =>
      have he : EndOk rest := he.elim (fun z => nomatch z) id
      have hn : n < 2147483648 := hok
      have hz : tl z = pre ++ (numL n ++ rest) := hz
      have hsz : z.length ≤ sizeLine := Nat.le_trans hl (by decide)
      have hlen : z.length = pre.length + ((numL n).length + rest.length) := by rw [len_tl, hz, List.length_append, List.length_append]
      have l10 : (numL n).length ≤ 10 := numL_len (by decide) (Nat.lt_of_lt_of_le hn (by decide))
      refine ⟨_, (pss_cons (ps_set (i := 2) sc_m_number_token.nd rfl (Or.inl rfl) (pe_call g_m_end_of_run h_m_end_of_run rfl E.G_m_end_of_run E.F_m_end_of_run.kp E.B_m_end_of_run .nil pass0 (pa_cons (pv 0) (pa_cons (pv 1) (pa_cons (pe_glob (v := .str "0123456789") rfl E.g_DIGITS ⟨_, rfl⟩) pa_nil)))))
      (pss_cons (ps_set (i := 3) sc_m_number_token.nd rfl (Or.inl rfl) (pe_slice sl_str (pv 0) (po_some (pv 1)) (po_some (pv 2))))
      (pss_cons (ps_if (PW.pt (pw_and (pt_cmpR op_lt (pv 2) (pe_callB call_len_str (by rfl) E.z_len (by decide +kernel) (pa_cons (pv 0) pa_nil)) (nomark _)) (pw_and1 (PW.pt (pw_or (pt_cmpR op_in_sign (pe_ix ix_str (pv 0) (pv 2) (fun _ _ => rfl)) (pe_glob (v := .str "abcdefghijklmnopqrstuvwxyz") rfl E.g_LETTERS ⟨_, rfl⟩) (by rfl)) (pw_or1 (pt_cmpR op_eq (pe_ix ix_str (pv 0) (pv 2) (fun _ _ => rfl)) pe_str (nomark _)))))))) pss_never pss_nil)
      (pss_cons (ps_if (PW.pt (pw_or (pt_cmpR op_gt (pe_callB call_len_str (by rfl) E.z_len (by decide +kernel) (pa_cons (pv 3) pa_nil)) pe_int (nomark _)) (pw_or1 (PW.pt (pw_and (pt_cmpR op_gt (pe_callB call_len_str (by rfl) E.z_len (by decide +kernel) (pa_cons (pv 3) pa_nil)) pe_int (nomark _)) (pw_and1 (pt_cmpR op_eq (pe_ix ix_str (pv 3) pe_int (fun _ _ => rfl)) pe_str (nomark _)))))))) pss_never pss_nil)
      (pss_cons (ps_set (i := 4) sc_m_number_token.nd rfl (Or.inl rfl) (pe_callTy call_int_str (by rfl) E.z_int (by decide +kernel) (pa_cons (pv 3) pa_nil)))
      (pss_cons (ps_if (pt_cmpR op_ge (pv 4) (pe_op op_pow pe_int pe_int) (nomark _)) pss_never pss_nil)
      (pss_one (ps_ret (pe_tup (pa_cons (pe_tup (pa_cons pe_str (pa_cons (pv 4) (pa_cons (pv 1) pa_nil)))) (pa_cons (pv 2) pa_nil))))))))))), ?_⟩
      refine ⟨_, rfl, _, rfl, z, _, pre, numL n, rest, rfl, hz, hl, (fun c hc => mem_digits.mpr (numL_digits n c hc)), (fun c r e hc => (end_out he e).2.1 (mem_digits.mp hc)), ?_⟩
      refine ⟨_, rfl, _, rfl, _, rfl, _, rfl, _, rfl, z, rfl, hsz, ?_⟩
      have ed : tl (cutS z (some ((pre.length : Nat) : Int)) (some ((pre.length + (numL n).length : Nat) : Int))) = numL n := tl_mid hz
      generalize cutS z (some ((pre.length : Nat) : Int)) (some ((pre.length + (numL n).length : Nat) : Int)) = dg at ed ⊢
      have edg : dg = Str.ofString (toString ((n : Nat) : Int)) := ext_tl (by rw [ed, tl_num])
      have ldg : dg.length = (numL n).length := by rw [len_tl, ed]
      have fin : ∀ (σ : St), σ = [some (.str z), some (.int ((pre.length : Nat) : Int)), some (.int ((pre.length + (numL n).length : Nat) : Int)), some (.str dg), some (.int n)] →
          tRet (tTup (tCons (tTup (tCons (tC (.str "number")) (tCons (tVar 4) (tCons (tVar 1) tNil)))) (tCons (tVar 2) tNil))) { nx := fun _ H' => Q .non H', rt := Q } σ H := by
        rintro σ rfl
        refine ⟨_, rfl, _, rfl, (by show 3 ≤ sizeLine; decide), fun a ha => ⟨_, rfl, (by show 2 ≤ sizeLine; decide), fun b hb => ?_⟩⟩
        exact q b a _ ((same_new ha).trans (same_new hb)) upd_same (same_new hb _ _ upd_same)
      have num : ∀ (σ : St), σ = [some (.str z), some (.int ((pre.length : Nat) : Int)), some (.int ((pre.length + (numL n).length : Nat) : Int)), some (.str dg), none] →
          tSeq (tAsg (tCB (fun xs H Q => ∃ a n, xs = [.str a] ∧ PySem.intText? a = some n ∧ a.length ≤ 640 ∧ Q (.int n) H) (tCons (tVar 3) tNil)) (gName 4))
            (tSeq (tIfS (tTest (tOp (rI0 fun i j => .bl (decide (i ≥ j))) (tVar 4) (tOp (rI CPow fun i j => .int (i ^ j.toNat)) (tC (.int 2)) (tC (.int 31))))) (fun _ _ _ => False) tNext)
              (tRet (tTup (tCons (tTup (tCons (tC (.str "number")) (tCons (tVar 4) (tCons (tVar 1) tNil)))) (tCons (tVar 2) tNil))))) { nx := fun _ H' => Q .non H', rt := Q } σ H := by
        rintro σ rfl
        refine ⟨_, rfl, dg, (n : Int), rfl, (by rw [edg]; exact int_num (by omega)), by omega, ?_⟩
        refine ⟨_, rfl, _, _, rfl, rfl, ⟨by decide, by decide, by decide⟩, _, _, rfl, rfl, _, rfl, ?_⟩
        refine dF (by rw [pow31]; omega) ?_
        exact fin _ rfl
      have B : (numL n).length ≤ 1 ∨ ∃ c1 r1, numL n = c1 :: r1 ∧ c1 ≠ 48 ∧ 1 < (numL n).length := by
        by_cases h : (numL n).length ≤ 1
        · exact .inl h
        · by_cases h1 : 1 ≤ n
          · obtain ⟨c1, r1, e1, n1⟩ := numL_head n h1
            exact .inr ⟨c1, r1, e1, n1, by omega⟩
          · rw [numL_lt (by omega)] at h
            exact absurd (Nat.le_refl 1) h
      have lsz : dg.length ≤ sizeLine := by rw [ldg]; exact Nat.le_trans l10 (by decide)
      rcases hrest : rest with _ | ⟨c0, r⟩
      · refine ⟨_, rfl, _, rfl, z, rfl, hsz, _, _, rfl, rfl, _, rfl, ?_⟩
        refine dF (by rw [hlen, hrest]; simp) (iteF ?_)
        refine ⟨_, rfl, dg, rfl, lsz, _, _, rfl, rfl, _, rfl, ?_⟩
        refine dF (by rw [ldg]; omega) ?_
        refine ⟨_, rfl, dg, rfl, lsz, _, _, rfl, rfl, _, rfl, ?_⟩
        rcases B with hB | ⟨c1, r1, e1, n1, hB⟩
        · refine dF (by rw [ldg]; omega) (iteF ?_)
          exact num _ rfl
        · refine dT (by rw [ldg]; omega) ?_
          have ha : atI dg.cps.toList (0 : Int) = some c1 := atI_nat (j := 0) (by show (tl dg)[0]? = some c1; rw [ed, e1]; rfl)
          refine ⟨_, rfl, dg, _, _, rfl, rfl, lsz, ha, rfl, _, rfl, ?_⟩
          refine dF (one_ne (d := 48) (by decide +kernel) n1) ?_
          exact num _ rfl
      · refine ⟨_, rfl, _, rfl, z, rfl, hsz, _, _, rfl, rfl, _, rfl, ?_⟩
        refine dT (by rw [hlen, hrest, List.length_cons]; omega) ?_
        obtain ⟨_, _, o3, o4⟩ := end_out he hrest
        have ez : tl z = (pre ++ numL n) ++ c0 :: r := by rw [hz, hrest, List.append_assoc]
        have hx := at_mid ez
        rw [List.length_append] at hx
        refine ⟨_, rfl, _, rfl, z, _, _, rfl, rfl, hsz, hx, c0, _, rfl, rfl, _, rfl, ?_⟩
        refine dF (fun h => o3 (mem_letters.mp h)) ?_
        refine ⟨_, rfl, _, rfl, z, _, _, rfl, rfl, hsz, hx, rfl, _, rfl, ?_⟩
        refine dF (one_ne (d := 95) l_under o4) ?_
        refine ⟨_, rfl, dg, rfl, lsz, _, _, rfl, rfl, _, rfl, ?_⟩
        refine dF (by rw [ldg]; omega) ?_
        refine ⟨_, rfl, dg, rfl, lsz, _, _, rfl, rfl, _, rfl, ?_⟩
        rcases B with hB | ⟨c1, r1, e1, n1, hB⟩
        · refine dF (by rw [ldg]; omega) (iteF ?_)
          exact num _ rfl
        · refine dT (by rw [ldg]; omega) ?_
          have ha : atI dg.cps.toList (0 : Int) = some c1 := atI_nat (j := 0) (by show (tl dg)[0]? = some c1; rw [ed, e1]; rfl)
          refine ⟨_, rfl, dg, _, _, rfl, rfl, lsz, ha, rfl, _, rfl, ?_⟩
          refine dF (one_ne (d := 48) (by decide +kernel) n1) ?_
          exact num _ rfl
    | _ => exact absurd hk (by intro z; cases z)
end
end HN
/-! K3: words, names and signs are cut off a text. -/
namespace HN
open PySem TL L2
theorem words_lower : words.all (fun w => (tl w).all (fun c => decide (97 ≤ c ∧ c ≤ 122)) && !(tl w).isEmpty) = true := by decide +kernel
theorem word_lower {w : Str} (h : w ∈ words) : (∀ c ∈ tl w, lower c) ∧ ∃ c r, tl w = c :: r ∧ lower c := by
  have q := List.all_eq_true.mp words_lower w h
  obtain ⟨q1, q2⟩ := Bool.and_eq_true_iff.mp q
  have q1' : ∀ c ∈ tl w, lower c := fun c hc => (of_decide_eq_true (List.all_eq_true.mp q1 c hc) : 97 ≤ c ∧ c ≤ 122)
  refine ⟨q1', ?_⟩
  cases e : tl w with
  | nil => rw [e] at q2; exact absurd q2 (by decide)
  | cons c r => exact ⟨c, r, rfl, q1' c (by rw [e]; exact List.mem_cons_self ..)⟩
def headOut (rest : List Nat) (s : List Nat) : Prop := ∀ c r, rest = c :: r → c ∉ s
section
variable {P : Program} {w : World} {K : PySem.W.Frag} {mg : Str → Option Value} {base : Heap}
theorem ok_word (E : Env K mg) : FnOk P w K mg base CX0 2 E.a_m_word_token E.d_m_word_token ["text", "at"] (spTok isWord) := by
  refine E.F_m_word_token.ok sc_m_word_token (fun vs H Q E' h => ?_) (fun cdv A outer s H vs Q E' hr h => ?_)
  · obtain ⟨z, pre, rest, t, rfl, _⟩ := h
    rfl
  · obtain ⟨z, pre, rest, t, rfl, hz, hl, hok, he, hk, q⟩ := h
    have g_m_end_of_run := ok_run (P := P) (w := w) (base := base) E
    have h_m_end_of_run : Room 1 _ := hr
    have hsz : z.length ≤ sizeLine := Nat.le_trans hl (by decide)
    -- the sign's text
    obtain ⟨x, ex, hin⟩ : ∃ x : Str, t.cs = tl x ∧ ∀ c ∈ tl x, inner c := by
      cases t with
      | word y => exact ⟨y, rfl, fun c hc => .inl ((word_lower hok).1 c hc)⟩
      | name y => exact ⟨y, rfl, hok.rest⟩
      | num y => exact absurd hk (by intro z; cases z)
      | sign y => exact absurd hk (by intro z; cases z)
    have he : EndOk rest := he.elim (fun e => by subst e; cases hk) id
    rw [ex] at hz
    refine ⟨_, (pss_cons (ps_set (i := 2) sc_m_word_token.nd rfl (Or.inl rfl) (pe_call g_m_end_of_run h_m_end_of_run rfl E.G_m_end_of_run E.F_m_end_of_run.kp E.B_m_end_of_run .nil pass0 (pa_cons (pv 0) (pa_cons (pv 1) (pa_cons (pe_op op_add_str (pe_op op_add_str (pe_glob (v := .str "abcdefghijklmnopqrstuvwxyz") rfl E.g_LETTERS ⟨_, rfl⟩) (pe_glob (v := .str "0123456789") rfl E.g_DIGITS ⟨_, rfl⟩)) pe_str) pa_nil)))))
      (pss_cons (ps_set (i := 3) sc_m_word_token.nd rfl (Or.inl rfl) (pe_slice sl_str (pv 0) (po_some (pv 1)) (po_some (pv 2))))
      (pss_cons (ps_if (pt_cmpR op_in_seq (pv 3) (pe_glob (v := .ref E.a_WORDS) rfl E.g_WORDS rfl) (by rfl)) (pss_one (ps_ret (pe_tup (pa_cons (pe_tup (pa_cons pe_str (pa_cons (pv 3) (pa_cons (pv 1) pa_nil)))) (pa_cons (pv 2) pa_nil))))) pss_nil)
      (pss_cons (ps_if (pt_cmpR op_gt (pe_callB call_len_str (by rfl) E.z_len (by decide +kernel) (pa_cons (pv 3) pa_nil)) (pe_glob (v := .int 20) rfl E.g_MAX_NAME ⟨_, rfl⟩) (nomark _)) pss_never pss_nil)
      (pss_one (ps_ret (pe_tup (pa_cons (pe_tup (pa_cons pe_str (pa_cons (pv 3) (pa_cons (pv 1) pa_nil)))) (pa_cons (pv 2) pa_nil))))))))), ?_⟩
    refine ⟨_, rfl, _, rfl, _, _, rfl, rfl, (by decide +kernel), _, _, rfl, rfl, (by decide +kernel), ?_⟩
    refine ⟨z, _, pre, tl x, rest, rfl, hz, hl, (fun c hc => mem_inner.mpr (hin c hc)), (fun c r e hc => (end_out he e).1 (mem_inner.mp hc)), ?_⟩
    refine ⟨_, rfl, _, rfl, _, rfl, _, rfl, _, rfl, z, rfl, hsz, ?_⟩
    have ed : tl (cutS z (some ((pre.length : Nat) : Int)) (some ((pre.length + (tl x).length : Nat) : Int))) = tl x := tl_mid hz
    have ed := ext_tl ed
    rw [ed]
    refine ⟨_, rfl, E.a_WORDS, _, rfl, .inr (E.k_WORDS _), rfl, flat_strs _, _, rfl, ?_⟩
    have ei : inV (.str x) (words.map V.str) = decide (x ∈ words) := in_strs x words
    cases t with
    | word y =>
      have exy : x = y := (ext_tl ex).symm
      subst exy
      refine bT (ei.trans (decide_eq_true hok)) ?_
      refine ⟨_, rfl, _, rfl, (by show 3 ≤ sizeLine; decide), fun a ha => ⟨_, rfl, (by show 2 ≤ sizeLine; decide), fun b hb => ?_⟩⟩
      exact q b a _ ((same_new ha).trans (same_new hb)) upd_same (same_new hb _ _ upd_same)
    | name y =>
      have exy : x = y := (ext_tl ex).symm
      subst exy
      have hn : NameOk x := hok
      have hx : x.length ≤ 20 := hn.len
      refine bF (ei.trans (decide_eq_false hn.free)) ?_
      refine ⟨_, rfl, x, rfl, Nat.le_trans hx (by decide), _, _, rfl, rfl, _, rfl, ?_⟩
      refine dF (by omega) ?_
      refine ⟨_, rfl, _, rfl, (by show 3 ≤ sizeLine; decide), fun a ha => ⟨_, rfl, (by show 2 ≤ sizeLine; decide), fun b hb => ?_⟩⟩
      exact q b a _ ((same_new ha).trans (same_new hb)) upd_same (same_new hb _ _ upd_same)
    | num y => exact absurd hk (by intro z; cases z)
    | sign y => exact absurd hk (by intro z; cases z)

/-- does the sign stand here -/
def here (l : List Nat) (s : Str) : Bool := decide (l.take s.length = tl s)
def ends4 : List (List Nat) := [[], [32], [10], [41], [44]]
theorem tl_lens : signs.map tl = [[61, 62], [45, 62], [61, 61], [40], [41], [44], [58], [59], [61], [43], [45], [42], [60]] := by decide +kernel
theorem sign_first (s : Str) (hs : s ∈ signs) (rest : List Nat) (he : s = "(" ∨ EndOk rest) : signs.find? (here (tl s ++ rest)) = some s := by
  have key : ∀ l : List Nat, l.length ≤ 1 → (tl s ++ rest).take 2 = (tl s ++ l).take 2 → signs.find? (here (tl s ++ l)) = some s → signs.find? (here (tl s ++ rest)) = some s := by
    intro l _ h2 hl
    have e : ∀ u ∈ signs, here (tl s ++ rest) u = here (tl s ++ l) u := by
      intro u hu
      unfold here
      have hlen : u.length ≤ 2 := by
        have : ∀ u ∈ signs, u.length ≤ 2 := by decide +kernel
        exact this u hu
      have a1 : (tl s ++ rest).take u.length = ((tl s ++ rest).take 2).take u.length := by rw [List.take_take, Nat.min_eq_left hlen]
      have a2 : (tl s ++ l).take u.length = ((tl s ++ l).take 2).take u.length := by rw [List.take_take, Nat.min_eq_left hlen]
      rw [a1, a2, h2]
    have f : ∀ us : List Str, (∀ u ∈ us, u ∈ signs) → us.find? (here (tl s ++ rest)) = us.find? (here (tl s ++ l)) := by
      intro us
      induction us with
      | nil => intro _; rfl
      | cons u us ih =>
        intro h
        rw [List.find?_cons, List.find?_cons, e u (h u (List.mem_cons_self ..)), ih fun v hv => h v (List.mem_cons_of_mem _ hv)]
    rw [f signs fun _ h => h, hl]
  have all4 : ∀ l ∈ ends4, ∀ s ∈ signs, signs.find? (here (tl s ++ l)) = some s := by decide +kernel
  rcases he with rfl | he
  · -- an opening parenthesis: nothing behind it matters
    have l1 : tl "(" = [40] := l_lp
    have f : ∀ us : List Str, (∀ u ∈ us, u ∈ signs) → us.find? (here (tl "(" ++ rest)) = us.find? (here (tl "(" ++ [])) := by
      intro us
      induction us with
      | nil => intro _; rfl
      | cons u us ih =>
        intro h
        have e : here (tl "(" ++ rest) u = here (tl "(" ++ []) u := by
          have hu := h u (List.mem_cons_self ..)
          have : tl u ∈ signs.map tl := List.mem_map.mpr ⟨u, hu, rfl⟩
          rw [tl_lens] at this
          unfold here
          rw [len_tl, l1]
          simp only [List.mem_cons, List.not_mem_nil, or_false] at this
          rcases this with h | h | h | h | h | h | h | h | h | h | h | h | h <;> rw [h] <;> simp
        rw [List.find?_cons, List.find?_cons, e, ih fun v hv => h v (List.mem_cons_of_mem _ hv)]
    rw [f signs fun _ h => h]
    exact all4 [] (by decide) _ hs
  · cases rest with
    | nil => exact all4 [] (by decide) s hs
    | cons c r =>
      refine key [c] (Nat.le_refl 1) ?_ (all4 [c] ?_ s hs)
      · obtain ⟨d, m, hd⟩ : ∃ d m, tl s = d :: m := by
          have : tl s ∈ signs.map tl := List.mem_map.mpr ⟨s, hs, rfl⟩
          rw [tl_lens] at this
          simp only [List.mem_cons, List.not_mem_nil, or_false] at this
          rcases this with h | h | h | h | h | h | h | h | h | h | h | h | h <;> exact ⟨_, _, h⟩
        rw [hd]
        cases m with
        | nil => rfl
        | cons d2 m => rfl
      · have he : c = 32 ∨ c = 10 ∨ c = 41 ∨ c = 44 := he
        rcases he with rfl | rfl | rfl | rfl <;> decide
theorem ok_sign (E : Env K mg) : FnOk P w K mg base CX0 2 E.a_m_sign_token E.d_m_sign_token ["text", "at"] (spTok isSign) := by
  refine E.F_m_sign_token.ok sc_m_sign_token (fun vs H Q E' h => ?_) (fun cdv A outer s H vs Q E' hr h => ?_)
  · obtain ⟨z, pre, rest, t, rfl, _⟩ := h
    rfl
  · obtain ⟨z, pre, rest, t, rfl, hz, hl, hok, he, hk, q⟩ := h
    have hsz : z.length ≤ sizeLine := Nat.le_trans hl (by decide)
    cases t with
    | sign x =>
      have hx : x ∈ signs := hok
      have hz : tl z = pre ++ (tl x ++ rest) := hz
      have hlen : z.length = pre.length + ((tl x).length + rest.length) := by rw [len_tl, hz, List.length_append, List.length_append]
      have first := sign_first x hx rest (he.imp (fun e => by injection e) id)
      refine ⟨_, (pss_cons (ps_for PassesOwn.never rfl (pi_tup (pe_glob (v := .ref E.a_SIGNS) rfl E.g_SIGNS rfl)) (pg_name (i := 2) sc_m_sign_token.nd rfl (Or.inl rfl)) (pss_one (ps_if (pt_cmpR op_eq (pe_slice sl_str (pv 0) (po_some (pv 1)) (po_some (pe_op op_add (pv 1) (pe_callB call_len_str (by rfl) E.z_len (by decide +kernel) (pa_cons (pv 2) pa_nil))))) (pv 2) (nomark _)) (pss_one (ps_ret (pe_tup (pa_cons (pe_tup (pa_cons pe_str (pa_cons (pv 2) (pa_cons (pv 1) pa_nil)))) (pa_cons (pe_op op_add (pv 1) (pe_callB call_len_str (by rfl) E.z_len (by decide +kernel) (pa_cons (pv 2) pa_nil))) pa_nil))))) pss_nil)))
      pss_never), ?_⟩
      refine ⟨E.a_SIGNS, rfl, ⟨_, E.k_SIGNS _⟩, for_tup (K := K) (a := E.a_SIGNS) (xs := signs.map V.str) (fun i σ H' => (∃ o, σ = [some (.str z), some (.int ((pre.length : Nat) : Int)), o]) ∧ H' = H ∧ ∀ j u, j < i → signs[j]? = some u → here (tl x ++ rest) u = false)
        ⟨⟨none, rfl⟩, rfl, fun j u hj _ => absurd hj (Nat.not_lt_zero _)⟩ (fun i σ H' _ _ => E.k_SIGNS _) ?_ ?_⟩
      · rintro i v σ H' hi ⟨⟨o, rfl⟩, rfl, hno⟩
        rw [List.getElem?_map] at hi
        obtain ⟨u, hu, rfl⟩ := Option.map_eq_some_iff.mp hi
        have hus : u ∈ signs := List.mem_of_getElem? hu
        have hul : u.length ≤ 2 := by
          have : ∀ u ∈ signs, u.length ≤ 2 := by decide +kernel
          exact this u hus
        have husz : u.length ≤ sizeLine := Nat.le_trans hul (by decide)
        refine ⟨_, rfl, _, rfl, _, rfl, _, rfl, _, rfl, u, rfl, husz, _, _, rfl, rfl, _, rfl, z, rfl, hsz, _, rfl, rfl, _, rfl, ?_⟩
        have ec : tl (cutS z (some ((pre.length : Nat) : Int)) (some (((pre.length : Nat) : Int) + ((u.length : Nat) : Int)))) = (tl x ++ rest).take u.length := by
          have e1 : ((pre.length : Nat) : Int) + ((u.length : Nat) : Int) = ((pre.length + u.length : Nat) : Int) := by omega
          rw [e1, tl_cut (by omega), hz, List.drop_left, Nat.add_sub_cancel_left]
        have ed : (V.str (cutS z (some ((pre.length : Nat) : Int)) (some (((pre.length : Nat) : Int) + ((u.length : Nat) : Int)))) = V.str u) ↔ here (tl x ++ rest) u = true := by
          unfold here
          rw [decide_eq_true_iff, ← ec]
          exact ⟨fun h => by rw [V.str.inj h], fun h => by rw [ext_tl h]⟩
        refine ite2 (fun c => ?_) (fun c => ?_)
        · have c' := ed.mp (of_decide_eq_true c)
          have exu : u = x := by
            have h1 : signs.find? (here (tl x ++ rest)) = some u := by
              have hlt : i < signs.length := (List.getElem?_eq_some_iff.mp hu).1
              rw [List.find?_eq_some_iff_getElem]
              refine ⟨c', i, hlt, (List.getElem?_eq_some_iff.mp hu).2, fun j hj => ?_⟩
              rw [hno j signs[j] hj (List.getElem?_eq_getElem _)]
              rfl
            rw [first] at h1
            exact (Option.some.inj h1).symm
          subst exu
          refine ⟨_, rfl, _, rfl, (by show 3 ≤ sizeLine; decide), fun a ha => ⟨_, rfl, _, rfl, u, rfl, husz, _, _, rfl, rfl, (by show 2 ≤ sizeLine; decide), fun b hb => ?_⟩⟩
          refine q b a _ ((same_new ha).trans (same_new hb)) ?_ (same_new hb _ _ upd_same)
          rw [upd_same]
          have e1 : ((pre.length : Nat) : Int) + ((u.length : Nat) : Int) = ((pre.length + (tl u).length : Nat) : Int) := by rw [len_tl]; omega
          show some (HO.tup [V.ref a, V.int (((pre.length : Nat) : Int) + ((u.length : Nat) : Int))]) = _
          rw [e1]
          rfl
        · refine ⟨⟨_, rfl⟩, rfl, fun j u' hj hu' => ?_⟩
          rcases Nat.lt_or_eq_of_le (Nat.le_of_lt_succ hj) with h | h
          · exact hno j u' h hu'
          · subst h
            rw [hu] at hu'
            cases hu'
            cases e : here (tl x ++ rest) u with
            | false => rfl
            | true => exact absurd (decide_eq_true (ed.mpr e)) c
      · rintro σ H' ⟨_, _, hno⟩
        have h1 := List.find?_some first
        obtain ⟨j, hj, e⟩ := List.getElem_of_mem hx
        have h2 := hno j x (by rw [List.length_map]; exact hj) (by rw [List.getElem?_eq_getElem hj, e])
        rw [h1] at h2
        cases h2
    | _ => exact absurd hk (by intro z; cases z)
end
end HN
/-! K4: a text is cut into its tokens; the reader is made; read and read_type. -/
namespace HN
open PySem TL L2
def sepC (c : Nat) : Prop := c = 32 ∨ c = 10
theorem l_seps : tl " \n" = [32, 10] := by decide +kernel
theorem mem_seps {c : Nat} : c ∈ tl " \n" ↔ sepC c := by
  rw [l_seps]
  unfold sepC
  simp only [List.mem_cons, List.not_mem_nil, or_false]
/-- how a token begins -/
theorem Tk.head {t : Tk} (h : t.ok) : ∃ c r, t.cs = c :: r ∧ ¬ sepC c ∧ ((isNum t = true ∧ digit c) ∨ (isWord t = true ∧ lower c) ∨ (isSign t = true ∧ ¬ digit c ∧ ¬ lower c)) := by
  cases t with
  | num n =>
    obtain ⟨c, r, e, hc⟩ := numL_cons n
    exact ⟨c, r, e, by unfold sepC; unfold digit at hc; omega, .inl ⟨rfl, hc⟩⟩
  | word w =>
    obtain ⟨c, r, e, hc⟩ := (word_lower h).2
    exact ⟨c, r, e, by unfold sepC; unfold lower at hc; omega, .inr (.inl ⟨rfl, hc⟩)⟩
  | name w =>
    obtain ⟨c, r, e, hc⟩ := NameOk.first h
    exact ⟨c, r, e, by unfold sepC; unfold lower at hc; omega, .inr (.inl ⟨rfl, hc⟩)⟩
  | sign s =>
    have : tl s ∈ signs.map tl := List.mem_map.mpr ⟨s, h, rfl⟩
    rw [tl_lens] at this
    simp only [List.mem_cons, List.not_mem_nil, or_false] at this
    rcases this with h | h | h | h | h | h | h | h | h | h | h | h | h <;>
      exact ⟨_, _, h, by unfold sepC; omega, .inr (.inr ⟨rfl, by unfold digit; omega, by unfold lower; omega⟩)⟩
/-- a text's separators ahead of its first token -/
theorem PLex.gap {n : Nat} {tps : List (Tk × Nat)} {r : List Nat} (h : PLex n tps r) : ∃ g r', r = g ++ r' ∧ (∀ c ∈ g, sepC c) ∧
    ((r' = [] ∧ tps = []) ∨ ∃ t ts r2, tps = (t, n + g.length) :: ts ∧ r' = t.cs ++ r2 ∧ t.ok ∧ (t = .sign "(" ∨ EndOk r2) ∧ PLex (n + g.length + t.cs.length) ts r2) := by
  induction h with
  | nil => exact ⟨[], [], rfl, (fun c h => nomatch h), .inl ⟨rfl, rfl⟩⟩
  | @sep n c ts r hc _ ih =>
    obtain ⟨g, r', e, hg, q⟩ := ih
    refine ⟨c :: g, r', by rw [e]; rfl, fun d hd => ?_, ?_⟩
    · rcases List.mem_cons.mp hd with e | e
      · rw [e]; exact hc
      · exact hg d e
    · have el : n + (c :: g).length = n + 1 + g.length := by rw [List.length_cons]; omega
      rw [el]
      exact q
  | @tok n t ts r ho he hp _ => exact ⟨[], t.cs ++ r, rfl, (fun c h => nomatch h), .inr ⟨t, ts, r, rfl, rfl, ho, he, hp⟩⟩
/-- the tokens with their places -/
def ToksP (H : Hp) (L : Addr) (tps : List (Tk × Nat)) : Prop := ∃ rs : List Addr, H L = some (.lst (rs.map V.ref)) ∧ rs.length = tps.length ∧
  ∀ (i : Nat) (t : Tk) (n : Nat), tps[i]? = some (t, n) → ∃ r : Addr, rs[i]? = some r ∧ H r = some (.tup [.str t.kind, t.val, .int n])
theorem ToksP.toks {H : Hp} {L : Addr} {tps : List (Tk × Nat)} (h : ToksP H L tps) (hl : tps.length ≤ 20000) (ok : ∀ p ∈ tps, p.1.ok) : Toks H L (tps.map Prod.fst) := by
  obtain ⟨rs, e, l, f⟩ := h
  refine ⟨rs, e, by rw [List.length_map, l], by omega, fun t ht => ?_, fun i t hi => ?_⟩
  · obtain ⟨p, hp, rfl⟩ := List.mem_map.mp ht
    exact ok p hp
  · rw [List.getElem?_map] at hi
    obtain ⟨⟨t', n⟩, h1, rfl⟩ := Option.map_eq_some_iff.mp hi
    obtain ⟨r, h2, h3⟩ := f i t' n h1
    exact ⟨r, n, h2, h3⟩
theorem PLex.oks {n : Nat} {tps : List (Tk × Nat)} {r : List Nat} (h : PLex n tps r) : ∀ p ∈ tps, p.1.ok := by
  induction h with
  | nil => intro p hp; cases hp
  | sep _ _ ih => exact ih
  | tok ho _ _ ih =>
    intro p hp
    rcases List.mem_cons.mp hp with e | e
    · rw [e]; exact ho
    · exact ih p e
theorem PLex.len {n : Nat} {tps : List (Tk × Nat)} {r : List Nat} (h : PLex n tps r) : tps.length ≤ r.length := by
  induction h with
  | nil => exact Nat.le_refl _
  | sep _ _ ih => rw [List.length_cons]; omega
  | @tok n t ts r ho _ _ ih =>
    obtain ⟨c, l, e, _⟩ := t.head ho
    rw [List.length_cons, List.length_append, e, List.length_cons]
    omega
section
variable {P : Program} {w : World} {K : PySem.W.Frag} {mg : Str → Option Value} {base : Heap}
def spNext : Sp := spTok fun _ => true
theorem ok_next (E : Env K mg) : FnOk P w K mg base CX0 3 E.a_m_next_token E.d_m_next_token ["text", "at"] spNext := by
  refine E.F_m_next_token.ok sc_m_next_token (fun vs H Q E' h => ?_) (fun cdv A outer s H vs Q E' hr h => ?_)
  · obtain ⟨z, pre, rest, t, rfl, _⟩ := h
    rfl
  · obtain ⟨z, pre, rest, t, rfl, hz, hl, hok, he, hk, q⟩ := h
    have hsz : z.length ≤ sizeLine := Nat.le_trans hl (by decide)
    have g_m_number_token := ok_number (P := P) (w := w) (base := base) E
    have g_m_word_token := ok_word (P := P) (w := w) (base := base) E
    have g_m_sign_token := ok_sign (P := P) (w := w) (base := base) E
    have h_m_number_token : Room 2 _ := hr
    have h_m_word_token : Room 2 _ := hr
    have h_m_sign_token : Room 2 _ := hr
    obtain ⟨c, r, e, _, hc⟩ := t.head hok
    have ez : tl z = pre ++ c :: (r ++ rest) := by rw [hz, e]; rfl
    have ha := at_mid ez
    refine ⟨_, (pss_cons (ps_if (pt_cmpR op_in_sign (pe_ix ix_str (pv 0) (pv 1) (fun _ _ => rfl)) (pe_glob (v := .str "0123456789") rfl E.g_DIGITS ⟨_, rfl⟩) (by rfl)) (pss_one (ps_ret (pe_call g_m_number_token h_m_number_token rfl E.G_m_number_token E.F_m_number_token.kp E.B_m_number_token .nil pass0 (pa_cons (pv 0) (pa_cons (pv 1) pa_nil))))) pss_nil)
      (pss_cons (ps_if (pt_cmpR op_in_sign (pe_ix ix_str (pv 0) (pv 1) (fun _ _ => rfl)) (pe_glob (v := .str "abcdefghijklmnopqrstuvwxyz") rfl E.g_LETTERS ⟨_, rfl⟩) (by rfl)) (pss_one (ps_ret (pe_call g_m_word_token h_m_word_token rfl E.G_m_word_token E.F_m_word_token.kp E.B_m_word_token .nil pass0 (pa_cons (pv 0) (pa_cons (pv 1) pa_nil))))) pss_nil)
      (pss_one (ps_ret (pe_call g_m_sign_token h_m_sign_token rfl E.G_m_sign_token E.F_m_sign_token.kp E.B_m_sign_token .nil pass0 (pa_cons (pv 0) (pa_cons (pv 1) pa_nil))))))), ?_⟩
    refine ⟨_, rfl, _, rfl, z, _, _, rfl, rfl, hsz, ha, c, _, rfl, rfl, _, rfl, ?_⟩
    rcases hc with ⟨k1, k2⟩ | ⟨k1, k2⟩ | ⟨k1, k2, k3⟩
    · refine dT (mem_digits.mpr k2) ?_
      exact ⟨_, rfl, _, rfl, z, pre, rest, t, rfl, hz, hl, hok, he, k1, q⟩
    · refine dF (fun h => by have := mem_digits.mp h; unfold digit at this; unfold lower at k2; omega) ?_
      refine ⟨_, rfl, _, rfl, z, _, _, rfl, rfl, hsz, ha, c, _, rfl, rfl, _, rfl, ?_⟩
      refine dT (mem_letters.mpr k2) ?_
      exact ⟨_, rfl, _, rfl, z, pre, rest, t, rfl, hz, hl, hok, he, k1, q⟩
    · refine dF (fun h => k2 (mem_digits.mp h)) ?_
      refine ⟨_, rfl, _, rfl, z, _, _, rfl, rfl, hsz, ha, c, _, rfl, rfl, _, rfl, ?_⟩
      refine dF (fun h => k3 (mem_letters.mp h)) ?_
      exact ⟨_, rfl, _, rfl, z, pre, rest, t, rfl, hz, hl, hok, he, k1, q⟩
def spTokenize : Sp := fun vs H Q _ => ∃ (z : Str) (tps : List (Tk × Nat)), vs = [.str z] ∧ PLex 0 tps (tl z) ∧ z.length ≤ 10000 ∧ ∀ (a : Addr) (H' : Hp), Same H H' → H a = none → ToksP H' a tps → Q (.ref a) H'
theorem ok_tokenize (E : Env K mg) : FnOk P w K mg base CX0 4 E.a_m_tokenize E.d_m_tokenize ["text"] spTokenize := by
  refine E.F_m_tokenize.ok sc_m_tokenize (fun vs H Q E' h => ?_) (fun cdv A outer s H vs Q E' hr h => ?_)
  · obtain ⟨z, tps, rfl, _⟩ := h
    rfl
  · obtain ⟨z, tps, rfl, hP, hl, q⟩ := h
    have hsz : z.length ≤ sizeLine := Nat.le_trans hl (by decide)
    have g_m_end_of_run := ok_run (P := P) (w := w) (base := base) E
    have g_m_next_token := ok_next (P := P) (w := w) (base := base) E
    have h_m_end_of_run : Room 1 _ := hr.mono (by omega)
    have h_m_next_token : Room 3 _ := hr
    have htl := hP.len
    rw [← len_tl] at htl
    refine ⟨_, (pss_cons (ps_if (pt_cmpR op_gt (pe_callB call_len_str (by rfl) E.z_len (by decide +kernel) (pa_cons (pv 0) pa_nil)) (pe_glob (v := .int 10000) rfl E.g_MAX_TEXT ⟨_, rfl⟩) (nomark _)) pss_never pss_nil)
      (pss_cons (ps_set (i := 1) sc_m_tokenize.nd rfl (Or.inl rfl) (pe_lst pa_nil))
      (pss_cons (ps_set (i := 2) sc_m_tokenize.nd rfl (Or.inl rfl) (pe_call g_m_end_of_run h_m_end_of_run rfl E.G_m_end_of_run E.F_m_end_of_run.kp E.B_m_end_of_run .nil pass0 (pa_cons (pv 0) (pa_cons pe_int (pa_cons pe_str pa_nil)))))
      (pss_cons (ps_while PassesOwn.never (pt_cmpR op_lt (pv 2) (pe_callB call_len_str (by rfl) E.z_len (by decide +kernel) (pa_cons (pv 0) pa_nil)) (nomark _)) (pss_cons (ps_asg (pe_call g_m_next_token h_m_next_token rfl E.G_m_next_token E.F_m_next_token.kp E.B_m_next_token .nil pass0 (pa_cons (pv 0) (pa_cons (pv 2) pa_nil))) (pg_tup rfl (pgs_cons (pg_name (i := 3) sc_m_tokenize.nd rfl (Or.inl rfl)) (pgs_cons (pg_name (i := 2) sc_m_tokenize.nd rfl (Or.inl rfl)) pgs_nil))))
      (pss_cons (ps_expr (pe_bm PySem.F.plainAttrs_list PySem.F.slot_list_append PySem.F.type_list_append mt_append (pv 1) (pa_cons (pv 3) pa_nil)))
      (pss_one (ps_set (i := 2) sc_m_tokenize.nd rfl (Or.inl rfl) (pe_call g_m_end_of_run h_m_end_of_run rfl E.G_m_end_of_run E.F_m_end_of_run.kp E.B_m_end_of_run .nil pass0 (pa_cons (pv 0) (pa_cons (pv 2) (pa_cons pe_str pa_nil)))))))))
      (pss_one (ps_ret (pv 1))))))), ?_⟩
    refine ⟨_, rfl, z, rfl, hsz, _, _, rfl, rfl, _, rfl, ?_⟩
    refine dF (by omega) ?_
    refine ⟨(by show 0 ≤ sizeLine; decide), fun L hL => ?_⟩
    obtain ⟨g, r', e0, hg, hP'⟩ := hP.gap
    refine ⟨_, rfl, z, _, [], g, r', rfl, e0, Nat.le_trans hl (by decide), (fun c hc => mem_seps.mpr (hg c hc)), ?_, ?_⟩
    · intro c r e
      rcases hP' with ⟨h1, _⟩ | ⟨t, ts, r2, _, h2, h3, _⟩
      · rw [h1] at e; cases e
      · obtain ⟨c', l, e1, n1, _⟩ := t.head h3
        rw [h2, e1] at e
        cases e
        exact fun h => n1 (mem_seps.mp h)
    -- the loop: what is left, what is done
    refine ⟨fun m σ H' => ∃ (pre rest : List Nat) (done left : List (Tk × Nat)) (tk : Option V), m = left.length ∧ σ = [some (.str z), some (.ref L), some (.int ((pre.length : Nat) : Int)), tk] ∧ tl z = pre ++ rest ∧ tps = done ++ left ∧
      ((rest = [] ∧ left = []) ∨ ∃ t ts r2, left = (t, pre.length) :: ts ∧ rest = t.cs ++ r2 ∧ t.ok ∧ (t = .sign "(" ∨ EndOk r2) ∧ PLex (pre.length + t.cs.length) ts r2) ∧ Same H H' ∧ ToksP H' L done, ?_, ?_⟩
    · refine ⟨_, g, r', [], tps, none, rfl, ?_, e0, rfl, ?_, same_new hL, [], upd_same, rfl, fun i t n h => nomatch h⟩
      · show [some (V.str z), some (.ref L), some (.int ((([] : List Nat).length + g.length : Nat) : Int)), none] = _
        rw [List.length_nil, Nat.zero_add]
      · rw [Nat.zero_add] at hP'
        exact hP'
    · rintro m σ H' ⟨pre, rest, done, left, tk, rfl, rfl, ez, et, hleft, sm, rs, hrL, hrl, hrf⟩
      have hlen : z.length = pre.length + rest.length := by rw [len_tl, ez, List.length_append]
      refine ⟨_, rfl, _, rfl, z, rfl, hsz, _, _, rfl, rfl, _, rfl, ?_⟩
      rcases hleft with ⟨rfl, rfl⟩ | ⟨t, ts, r2, rfl, rfl, hok, hend, hP2⟩
      · refine dF (by rw [hlen]; simp) ?_
        refine ⟨_, rfl, ?_⟩
        rw [List.append_nil] at et
        subst et
        exact q L H' sm hL ⟨rs, hrL, hrl, hrf⟩
      · obtain ⟨c0, l0, ec, _⟩ := t.head hok
        refine dT (by rw [hlen, ec, List.length_append, List.length_cons]; omega) ?_
        refine ⟨fun σ' H2 => ∃ (pre' rest' : List Nat) (tk : Option V), σ' = [some (.str z), some (.ref L), some (.int ((pre'.length : Nat) : Int)), tk] ∧ tl z = pre' ++ rest' ∧
          ((rest' = [] ∧ ts = []) ∨ ∃ t ts' r2, ts = (t, pre'.length) :: ts' ∧ rest' = t.cs ++ r2 ∧ t.ok ∧ (t = .sign "(" ∨ EndOk r2) ∧ PLex (pre'.length + t.cs.length) ts' r2) ∧ Same H H2 ∧ ToksP H2 L (done ++ [(t, pre.length)]), ?_, ?_⟩
        · rintro σ' H2 ⟨pre', rest', tk', h1, h2, h3, h4, h5⟩
          exact ⟨ts.length, by rw [List.length_cons]; omega, pre', rest', done ++ [(t, pre.length)], ts, tk', rfl, h1, h2, by rw [et]; simp, h3, h4, h5⟩
        · refine ⟨_, rfl, _, rfl, z, pre, r2, t, rfl, ez, Nat.le_trans hl (by decide), hok, hend, rfl, fun r qq H2 s2 h1 h2 => ?_⟩
          refine ⟨r, _, rfl, SqT.of h1, rfl, _, _, rfl, _, _, rfl, rfl, ?_⟩
          refine ⟨_, rfl, .inl ⟨rfl, _, SqL.of (s2 _ _ hrL)⟩, _, rfl, L, _, _, rfl, rfl, s2 _ _ hrL, ?_, ?_⟩
          · rw [List.length_map, hrl]
            have hd : done.length ≤ tps.length := by rw [et, List.length_append]; omega
            exact Nat.lt_of_le_of_lt (Nat.le_trans hd (Nat.le_trans htl hl)) (by decide)
          obtain ⟨g2, r3, e3, hg2, hP3⟩ := hP2.gap
          have ez2 : tl z = (pre ++ t.cs) ++ (g2 ++ r3) := by rw [ez, e3, List.append_assoc]
          have el : (pre ++ t.cs).length = pre.length + t.cs.length := List.length_append
          refine ⟨_, rfl, _, rfl, z, _, pre ++ t.cs, g2, r3, (by rw [el]; rfl), ez2, Nat.le_trans hl (by decide), (fun c hc => mem_seps.mpr (hg2 c hc)), ?_, ?_⟩
          · intro c r e
            rcases hP3 with ⟨h1, _⟩ | ⟨t', ts', r2', _, h2', h3', _⟩
            · rw [h1] at e; cases e
            · obtain ⟨c', l, e1, n1, _⟩ := t'.head h3'
              rw [h2', e1] at e
              cases e
              exact fun h => n1 (mem_seps.mp h)
          · refine ⟨pre ++ t.cs ++ g2, r3, some (.ref qq), ?_, (by rw [ez2]; simp), ?_, ?_, rs ++ [qq], ?_, ?_, ?_⟩
            · rw [List.length_append (as := pre ++ t.cs) (bs := g2)]
              rfl
            · rw [List.length_append, el]
              exact hP3
            · intro b o eb
              have nb : b ≠ L := ne_of_none eb hL
              rw [upd_ne nb]
              exact s2 b o (sm b o eb)
            · rw [upd_same, List.map_append]
              rfl
            · rw [List.length_append, List.length_append, hrl]
              rfl
            · intro i t' n' hi
              by_cases hid : i < done.length
              · rw [List.getElem?_append_left hid] at hi
                obtain ⟨r', h5, h6⟩ := hrf i t' n' hi
                refine ⟨r', by rw [List.getElem?_append_left (by omega)]; exact h5, ?_⟩
                have nb : r' ≠ L := ne_of h6 hrL (by intro z; cases z)
                rw [upd_ne nb]
                exact s2 _ _ h6
              · have hi2 : i < (done ++ [(t, pre.length)]).length := (List.getElem?_eq_some_iff.mp hi).1
                have hid' : i = done.length := by rw [List.length_append, List.length_singleton] at hi2; omega
                subst hid'
                rw [List.getElem?_append_right (Nat.le_refl _), Nat.sub_self] at hi
                have hi := Option.some.inj hi
                cases hi
                refine ⟨qq, by rw [List.getElem?_append_right (by omega), hrl, Nat.sub_self]; rfl, ?_⟩
                have nb : qq ≠ L := ne_of h2 (s2 _ _ hrL) (by intro z; cases z)
                rw [upd_ne nb]
                exact h2

theorem rf1 (L : Addr) : putF "tokens" (.ref L) [] = ([("tokens", V.ref L)] : List (Str × V)) := rfl
def spInit (C : Addr) : Sp := fun vs H Q _ => ∃ (x dx : Addr) (z : Str) (tps : List (Tk × Nat)), vs = [.ref x, .str z] ∧ H x = some (.ins C dx []) ∧ PLex 0 tps (tl z) ∧ z.length ≤ 10000 ∧
  ∀ H' : Hp, But x H H' → RdAt C H' x (tps.map Prod.fst) 0 0 → Q .non H'
theorem ok_init (E : Env K mg) : FnOk P w K mg base CX0 5 E.a_r_init E.d_r_init ["self", "text"] (spInit E.C) := by
  refine E.F_r_init.ok sc_r_init (fun vs H Q E' h => ?_) (fun cdv A outer s H vs Q E' hr h => ?_)
  · obtain ⟨x, dx, z, tps, rfl, _⟩ := h
    rfl
  · obtain ⟨x, dx, z, tps, rfl, hx, hP, hl, q⟩ := h
    have hsz : z.length ≤ sizeLine := Nat.le_trans hl (by decide)
    have g_m_tokenize := ok_tokenize (P := P) (w := w) (base := base) E
    have h_m_tokenize : Room 4 _ := hr
    have htl := hP.len
    rw [← len_tl] at htl
    refine ⟨_, (pss_cons (ps_fld (pv 0) (pe_call g_m_tokenize h_m_tokenize rfl E.G_m_tokenize E.F_m_tokenize.kp E.B_m_tokenize .nil pass0 (pa_cons (pv 1) pa_nil)) rfl)
      (pss_cons (ps_fld (pv 0) (pe_callB call_len_str (by rfl) E.z_len (by decide +kernel) (pa_cons (pv 1) pa_nil)) rfl)
      (pss_cons (ps_fld (pv 0) pe_int rfl)
      (pss_one (ps_fld (pv 0) pe_int rfl))))), ?_⟩
    refine ⟨_, rfl, z, tps, rfl, hP, hl, fun L H1 s1 hL hT => ?_⟩
    have hx1 := s1 _ _ hx
    refine ⟨_, rfl, x, E.C, dx, _, rfl, hx1, E.cl, E.n_tok, (by show 0 < 1000; decide), ?_⟩
    refine ⟨_, rfl, z, rfl, hsz, _, rfl, x, E.C, dx, _, rfl, upd_same, E.cl, E.n_len, (by show 1 < 1000; decide), ?_⟩
    refine ⟨_, rfl, x, E.C, dx, _, rfl, upd_same, E.cl, E.n_pos, (by simp only [putF, Ne.symm fn1, if_false]; show 2 < 1000; decide), ?_⟩
    refine ⟨_, rfl, x, E.C, dx, _, rfl, upd_same, E.cl, E.n_opn, (by simp only [putF, Ne.symm fn1, Ne.symm fn2, Ne.symm fn4, if_false]; show 3 < 1000; decide), ?_⟩
    rw [upd_upd, upd_upd, upd_upd]
    have hT' := hT.toks (by omega) hP.oks
    refine q _ ((But.of s1).trans But.self) ⟨L, dx, (z.length : Int), upd_same, ?_⟩
    exact hT'.keep hx1 But.self
def spRead : Sp := fun vs H Q _ => ∃ (z : Str) (e : Ex), vs = [.str z] ∧ Lex e.toks (tl z) ∧ z.length ≤ 10000 ∧ e.h ≤ 16 ∧ ∀ (v : V) (H' : Hp), Same H H' → Has H' e.d v → Q v H'
theorem ok_read (E : Env K mg) : FnOk P w K mg base CX0 170 E.a_m_read E.d_m_read ["text"] spRead := by
  refine E.F_m_read.ok sc_m_read (fun vs H Q E' h => ?_) (fun cdv A outer s H vs Q E' hr h => ?_)
  · obtain ⟨z, e, rfl, _⟩ := h
    rfl
  · obtain ⟨z, e, rfl, hL, hl, hh, q⟩ := h
    have g_r_init := ok_init (P := P) (w := w) (base := base) E
    have g_r_expression := (ex_all (P := P) (w := w) (base := base) E 169).ex
    have g_r_finish := ok_finish (P := P) (w := w) (base := base) E
    have h_r_init : Room 6 _ := hr.mono (by omega)
    have h_r_expression : Room 169 _ := hr
    have h_r_finish : Room 1 _ := hr.mono (by omega)
    obtain ⟨tps, et, hP⟩ := hL.places 0
    refine ⟨_, (pss_cons (ps_set (i := 1) sc_m_read.nd rfl (Or.inl rfl) (pe_make E.mkC g_r_init h_r_init rfl E.mgC E.B_r_init .nil pass0 (pa_cons (pv 0) pa_nil)))
      (pss_cons (ps_set (i := 2) sc_m_read.nd rfl (Or.inl rfl) (pe_meth0 (pv 1) E.cl E.M_r_expression g_r_expression h_r_expression E.B_r_expression .nil pass0))
      (pss_cons (ps_expr (pe_meth0 (pv 1) E.cl E.M_r_finish g_r_finish h_r_finish E.B_r_finish .nil pass0))
      (pss_one (ps_ret (pe_ix ix_tup (pv 2) pe_int (fun _ _ => rfl))))))), ?_⟩
    refine ⟨_, rfl, fun x dx nx ndx nex => ?_⟩
    have s0 : Same H (upd (upd H dx (.own x)) x (.ins E.C dx [])) := fun b o eb => by
      rw [upd_ne (ne_of_none eb nx), upd_ne (ne_of_none eb ndx)]
      exact eb
    refine ⟨x, dx, z, tps, rfl, upd_same, hP, hl, fun H1 b1 R1 => ⟨rfl, ?_⟩⟩
    rw [et] at R1
    have t0 : ∀ {H' : Hp}, But x (upd (upd H dx (.own x)) x (.ins E.C dx [])) H' → Same H H' := fun b c o ec => b c o (ne_of_none ec nx) (s0 c o ec)
    obtain ⟨L1, dx1, n1, hx1, hT1⟩ := id R1
    refine ⟨_, rfl, x, dx1, _, rfl, hx1, rf_no _ _ _ _ nf_expression, x, e.toks, 0, 0, e, [], rfl, R1, (by rw [List.append_nil]; rfl), (fun t h => nomatch h), (by omega), (by omega), fun r2 H2 b2 R2 P2 => ?_⟩
    obtain ⟨L2', dx2, n2, hx2, hT2⟩ := id R2
    refine ⟨_, rfl, x, dx2, _, rfl, hx2, rf_no _ _ _ _ (by decide +kernel), x, e.toks, _, 0, rfl, R2, (by omega), ?_⟩
    obtain ⟨a, v, rfl, ea, hv⟩ := P2
    refine ⟨_, rfl, a, _, _, _, rfl, rfl, SqT.of ea, atI_nat (j := 0) rfl, ?_⟩
    exact q v H2 (t0 (b1.trans b2)) hv
def spReadT : Sp := fun vs H Q _ => ∃ (z : Str) (e : Ty), vs = [.str z] ∧ Lex e.toks (tl z) ∧ z.length ≤ 10000 ∧ e.h ≤ 16 ∧ ∀ (v : V) (H' : Hp), Same H H' → Has H' e.d v → Q v H'
theorem ok_read_type (E : Env K mg) : FnOk P w K mg base CX0 170 E.a_m_read_type E.d_m_read_type ["text"] spReadT := by
  refine E.F_m_read_type.ok sc_m_read_type (fun vs H Q E' h => ?_) (fun cdv A outer s H vs Q E' hr h => ?_)
  · obtain ⟨z, e, rfl, _⟩ := h
    rfl
  · obtain ⟨z, e, rfl, hL, hl, hh, q⟩ := h
    have g_r_init := ok_init (P := P) (w := w) (base := base) E
    have g_r_type_parts := (tp_all (P := P) (w := w) (base := base) E 169).1
    have g_r_finish := ok_finish (P := P) (w := w) (base := base) E
    have h_r_init : Room 6 _ := hr.mono (by omega)
    have h_r_type_parts : Room 169 _ := hr
    have h_r_finish : Room 1 _ := hr.mono (by omega)
    obtain ⟨tps, et, hP⟩ := hL.places 0
    refine ⟨_, (pss_cons (ps_set (i := 1) sc_m_read_type.nd rfl (Or.inl rfl) (pe_make E.mkC g_r_init h_r_init rfl E.mgC E.B_r_init .nil pass0 (pa_cons (pv 0) pa_nil)))
      (pss_cons (ps_set (i := 2) sc_m_read_type.nd rfl (Or.inl rfl) (pe_meth0 (pv 1) E.cl E.M_r_type_parts g_r_type_parts h_r_type_parts E.B_r_type_parts .nil pass0))
      (pss_cons (ps_expr (pe_meth0 (pv 1) E.cl E.M_r_finish g_r_finish h_r_finish E.B_r_finish .nil pass0))
      (pss_one (ps_ret (pe_ix ix_tup (pv 2) pe_int (fun _ _ => rfl))))))), ?_⟩
    refine ⟨_, rfl, fun x dx nx ndx nex => ?_⟩
    have s0 : Same H (upd (upd H dx (.own x)) x (.ins E.C dx [])) := fun b o eb => by
      rw [upd_ne (ne_of_none eb nx), upd_ne (ne_of_none eb ndx)]
      exact eb
    refine ⟨x, dx, z, tps, rfl, upd_same, hP, hl, fun H1 b1 R1 => ⟨rfl, ?_⟩⟩
    rw [et] at R1
    have t0 : ∀ {H' : Hp}, But x (upd (upd H dx (.own x)) x (.ins E.C dx [])) H' → Same H H' := fun b c o ec => b c o (ne_of_none ec nx) (s0 c o ec)
    obtain ⟨L1, dx1, n1, hx1, hT1⟩ := id R1
    refine ⟨_, rfl, x, dx1, _, rfl, hx1, rf_no _ _ _ _ nf_type_parts, x, e.toks, 0, 0, e, [], rfl, R1, (by rw [List.append_nil]; rfl), (by intro h; cases h), (by omega), (by omega), fun r2 H2 b2 R2 P2 => ?_⟩
    obtain ⟨L2', dx2, n2, hx2, hT2⟩ := id R2
    refine ⟨_, rfl, x, dx2, _, rfl, hx2, rf_no _ _ _ _ (by decide +kernel), x, e.toks, _, 0, rfl, R2, (by omega), ?_⟩
    obtain ⟨a, v, rfl, ea, hv⟩ := P2
    refine ⟨_, rfl, a, _, _, _, rfl, rfl, SqT.of ea, atI_nat (j := 0) rfl, ?_⟩
    exact q v H2 (t0 (b1.trans b2)) hv
end
end HN
/-! W1: types are written. -/
namespace HN
open PySem TL L2
theorem ln_lp : ("(" : Str).length = 1 := by decide +kernel
theorem ln_rp : (")" : Str).length = 1 := by decide +kernel
theorem ln_cm : (", " : Str).length = 2 := by decide +kernel
theorem ln_ar : (" -> " : Str).length = 4 := by decide +kernel
theorem ln_box : ("box " : Str).length = 4 := by decide +kernel
theorem ln_fun : ("fun " : Str).length = 4 := by decide +kernel
theorem ln_cl : (" : " : Str).length = 3 := by decide +kernel
theorem ln_da : (" => " : Str).length = 4 := by decide +kernel
theorem ln_rec : ("rec " : Str).length = 4 := by decide +kernel
theorem ln_sl : (" (" : Str).length = 2 := by decide +kernel
theorem ln_rc : (") : " : Str).length = 4 := by decide +kernel
theorem ln_let : ("let " : Str).length = 4 := by decide +kernel
theorem ln_eq : (" = " : Str).length = 3 := by decide +kernel
theorem ln_in : (" in " : Str).length = 4 := by decide +kernel
theorem ln_if : ("if " : Str).length = 3 := by decide +kernel
theorem ln_then : (" then " : Str).length = 6 := by decide +kernel
theorem ln_else : (" else " : Str).length = 6 := by decide +kernel
theorem ln_print : ("print " : Str).length = 6 := by decide +kernel
theorem ln_semi : (" ; " : Str).length = 3 := by decide +kernel
theorem ln_sp : (" " : Str).length = 1 := by decide +kernel
theorem ln_put : ("put" : Str).length = 3 := by decide +kernel
theorem showS_le (a : Ty) : a.show.length ≤ a.showS.length := by
  unfold Ty.showS
  split
  · rw [strLen_append, strLen_append]; omega
  · exact Nat.le_refl _
theorem Ty.showS_fn {t : Ty} (h : t.isFn = true) : t.showS = "(" ++ t.show ++ ")" := by unfold Ty.showS; rw [if_pos h]
theorem Ty.showS_no {t : Ty} (h : t.isFn = false) : t.showS = t.show := by unfold Ty.showS; rw [h]; rfl
/-- the first item of a type's tuple -/
def Ty.k : Ty → Str
  | .int => "int" | .bool => "bool" | .unit => "unit" | .any => "any" | .fn _ _ => "fun" | .pair _ _ => "pair" | .box _ => "box"
theorem Ty.has_k {H : Hp} {t : Ty} {v : V} (h : Has H t.d v) : ∃ a xs, v = .ref a ∧ H a = some (.tup (.str t.k :: xs)) := by
  have gen : ∀ {k : Str} {ds : List PyData}, Has H (.tuple (.str k :: ds)) v → ∃ a xs, v = .ref a ∧ H a = some (.tup (.str k :: xs)) := fun h => by
    obtain ⟨a, xs, rfl, e, t⟩ := h.inv
    cases t with
    | cons h0 t => cases h0; exact ⟨a, _, rfl, e⟩
  cases t <;> exact gen h
theorem Ty.k_fn (t : Ty) : (t.k = "fun") ↔ t.isFn = true := by cases t <;> simp only [Ty.k, Ty.isFn] <;> decide +kernel
section
variable {P : Program} {w : World} {K : PySem.W.Frag} {mg : Str → Option Value} {base : Heap}
def spShowT (n : Nat) : Sp := fun vs H Q _ => ∃ (v : V) (t : Ty), vs = [v] ∧ Has H t.d v ∧ 2 * t.h + 1 ≤ n ∧ t.show.length ≤ 1000000 ∧ ∀ H' : Hp, Same H H' → Q (.str t.show) H'
def spShowS (n : Nat) : Sp := fun vs H Q _ => ∃ (v : V) (t : Ty), vs = [v] ∧ Has H t.d v ∧ 2 * t.h + 2 ≤ n ∧ t.showS.length ≤ 1000000 ∧ ∀ H' : Hp, Same H H' → Q (.str t.showS) H'
theorem ok_showS (E : Env K mg) {n : Nat} (g_m_show_type : FnOk P w K mg base CX0 n E.a_m_show_type E.d_m_show_type ["known"] (spShowT n)) : FnOk P w K mg base CX0 (n + 1) E.a_m_show_simple E.d_m_show_simple ["known"] (spShowS (n + 1)) := by
  refine E.F_m_show_simple.ok sc_m_show_simple (fun vs H Q E' h => ?_) (fun cdv A outer s H vs Q E' hr h => ?_)
  · obtain ⟨v, t, rfl, _⟩ := h
    rfl
  · obtain ⟨v, t, rfl, hv, hn, hl, q⟩ := h
    have h_m_show_type : Room n _ := hr
    have hle := showS_le t
    refine ⟨_, (pss_cons (ps_set (i := 1) sc_m_show_simple.nd rfl (Or.inl rfl) (pe_call g_m_show_type h_m_show_type rfl E.G_m_show_type E.F_m_show_type.kp E.B_m_show_type .nil pass0 (pa_cons (pv 0) pa_nil)))
      (pss_cons (ps_if (pt_cmpR op_eq (pe_ix ix_tup (pv 0) pe_int (fun _ _ => rfl)) pe_str (nomark _)) (pss_one (ps_ret (pe_op op_add_str (pe_op op_add_str pe_str (pv 1)) pe_str))) pss_nil)
      (pss_one (ps_ret (pv 1))))), ?_⟩
    refine ⟨_, rfl, v, t, rfl, hv, (by omega), (by omega), fun H1 s1 => ?_⟩
    obtain ⟨a, xs, rfl, ea⟩ := Ty.has_k hv
    refine ⟨_, rfl, a, _, _, _, rfl, rfl, SqT.of (s1 _ _ ea), atI_nat (j := 0) rfl, rfl, _, rfl, ?_⟩
    cases hf : t.isFn with
    | true =>
      refine dT (congrArg V.str ((Ty.k_fn t).mpr hf)) ?_
      rw [Ty.showS_fn hf] at q hl
      exact ⟨_, rfl, _, _, rfl, rfl, (by (try rw [sizeLine_eq]); (try simp only [strLen_append, ln_lp, ln_rp, ln_cm, ln_ar, ln_box, ln_fun, ln_cl, ln_da, ln_rec, ln_sl, ln_rc, ln_let, ln_eq, ln_in, ln_if, ln_then, ln_else, ln_print, ln_semi, ln_sp, ln_put] at *); omega), _, _, rfl, rfl, (by (try rw [sizeLine_eq]); (try simp only [strLen_append, ln_lp, ln_rp, ln_cm, ln_ar, ln_box, ln_fun, ln_cl, ln_da, ln_rec, ln_sl, ln_rc, ln_let, ln_eq, ln_in, ln_if, ln_then, ln_else, ln_print, ln_semi, ln_sp, ln_put] at *); omega), q _ s1⟩
    | false =>
      refine dF (vne fun z => by rw [(Ty.k_fn t).mp z] at hf; cases hf) ?_
      rw [Ty.showS_no hf] at q
      exact ⟨_, rfl, q _ s1⟩
theorem ok_showT (E : Env K mg) {n : Nat} (g_m_show_type : FnOk P w K mg base CX0 n E.a_m_show_type E.d_m_show_type ["known"] (spShowT n)) (g_m_show_simple : FnOk P w K mg base CX0 n E.a_m_show_simple E.d_m_show_simple ["known"] (spShowS n)) :
    FnOk P w K mg base CX0 (n + 1) E.a_m_show_type E.d_m_show_type ["known"] (spShowT (n + 1)) := by
  refine E.F_m_show_type.ok sc_m_show_type (fun vs H Q E' h => ?_) (fun cdv A outer s H vs Q E' hr h => ?_)
  · obtain ⟨v, t, rfl, _⟩ := h
    rfl
  · obtain ⟨v, t, rfl, hv, hn, hl, q⟩ := h
    have h_m_show_type : Room n _ := hr
    have h_m_show_simple : Room n _ := hr
    refine ⟨_, (pss_cons (ps_set (i := 1) sc_m_show_type.nd rfl (Or.inl rfl) (pe_ix ix_tup (pv 0) pe_int (fun _ _ => rfl)))
      (pss_cons (ps_if (pt_cmpR op_eq (pv 1) pe_str (nomark _)) (pss_one (ps_ret (pe_op op_add_str (pe_op op_add_str (pe_call g_m_show_simple h_m_show_simple rfl E.G_m_show_simple E.F_m_show_simple.kp E.B_m_show_simple .nil pass0 (pa_cons (pe_ix ix_tup (pv 0) pe_int (fun _ _ => rfl)) pa_nil)) pe_str) (pe_call g_m_show_type h_m_show_type rfl E.G_m_show_type E.F_m_show_type.kp E.B_m_show_type .nil pass0 (pa_cons (pe_ix ix_tup (pv 0) pe_int (fun _ _ => rfl)) pa_nil))))) pss_nil)
      (pss_cons (ps_if (pt_cmpR op_eq (pv 1) pe_str (nomark _)) (pss_one (ps_ret (pe_op op_add_str (pe_op op_add_str (pe_op op_add_str (pe_op op_add_str pe_str (pe_call g_m_show_type h_m_show_type rfl E.G_m_show_type E.F_m_show_type.kp E.B_m_show_type .nil pass0 (pa_cons (pe_ix ix_tup (pv 0) pe_int (fun _ _ => rfl)) pa_nil))) pe_str) (pe_call g_m_show_type h_m_show_type rfl E.G_m_show_type E.F_m_show_type.kp E.B_m_show_type .nil pass0 (pa_cons (pe_ix ix_tup (pv 0) pe_int (fun _ _ => rfl)) pa_nil))) pe_str))) pss_nil)
      (pss_cons (ps_if (pt_cmpR op_eq (pv 1) pe_str (nomark _)) (pss_one (ps_ret (pe_op op_add_str pe_str (pe_call g_m_show_simple h_m_show_simple rfl E.G_m_show_simple E.F_m_show_simple.kp E.B_m_show_simple .nil pass0 (pa_cons (pe_ix ix_tup (pv 0) pe_int (fun _ _ => rfl)) pa_nil))))) pss_nil)
      (pss_one (ps_ret (pv 1))))))), ?_⟩
    cases t with
    | int =>
      obtain ⟨a, rfl, ea⟩ := Has.inv1 hv
      refine ⟨_, rfl, a, _, _, _, rfl, rfl, SqT.of ea, atI_nat (j := 0) rfl, ?_⟩
      exact ⟨_, rfl, rfl, _, rfl, dF (vne (by decide +kernel)) ⟨_, rfl, rfl, _, rfl, dF (vne (by decide +kernel)) ⟨_, rfl, rfl, _, rfl, dF (vne (by decide +kernel)) ⟨_, rfl, q _ (Same.refl _)⟩⟩⟩⟩
    | bool =>
      obtain ⟨a, rfl, ea⟩ := Has.inv1 hv
      refine ⟨_, rfl, a, _, _, _, rfl, rfl, SqT.of ea, atI_nat (j := 0) rfl, ?_⟩
      exact ⟨_, rfl, rfl, _, rfl, dF (vne (by decide +kernel)) ⟨_, rfl, rfl, _, rfl, dF (vne (by decide +kernel)) ⟨_, rfl, rfl, _, rfl, dF (vne (by decide +kernel)) ⟨_, rfl, q _ (Same.refl _)⟩⟩⟩⟩
    | unit =>
      obtain ⟨a, rfl, ea⟩ := Has.inv1 hv
      refine ⟨_, rfl, a, _, _, _, rfl, rfl, SqT.of ea, atI_nat (j := 0) rfl, ?_⟩
      exact ⟨_, rfl, rfl, _, rfl, dF (vne (by decide +kernel)) ⟨_, rfl, rfl, _, rfl, dF (vne (by decide +kernel)) ⟨_, rfl, rfl, _, rfl, dF (vne (by decide +kernel)) ⟨_, rfl, q _ (Same.refl _)⟩⟩⟩⟩
    | any =>
      obtain ⟨a, rfl, ea⟩ := Has.inv1 hv
      refine ⟨_, rfl, a, _, _, _, rfl, rfl, SqT.of ea, atI_nat (j := 0) rfl, ?_⟩
      exact ⟨_, rfl, rfl, _, rfl, dF (vne (by decide +kernel)) ⟨_, rfl, rfl, _, rfl, dF (vne (by decide +kernel)) ⟨_, rfl, rfl, _, rfl, dF (vne (by decide +kernel)) ⟨_, rfl, q _ (Same.refl _)⟩⟩⟩⟩
    | fn x y =>
      obtain ⟨a, w1, w2, rfl, ea, h1, h2⟩ := Has.inv3 hv
      have eh : (Ty.fn x y).h = 1 + max x.h y.h := rfl
      have i1 : x.h ≤ max x.h y.h := Nat.le_max_left _ _
      have i2 : y.h ≤ max x.h y.h := Nat.le_max_right _ _
      have es : (Ty.fn x y).show = x.showS ++ " -> " ++ y.show := rfl
      rw [es] at hl q
      refine ⟨_, rfl, a, _, _, _, rfl, rfl, SqT.of ea, atI_nat (j := 0) rfl, ?_⟩
      refine ⟨_, rfl, rfl, _, rfl, dT rfl ?_⟩
      refine ⟨_, rfl, a, _, _, _, rfl, rfl, SqT.of ea, atI_nat (j := 1) rfl, w1, x, rfl, h1, (by omega), (by (try rw [sizeLine_eq]); (try simp only [strLen_append, ln_lp, ln_rp, ln_cm, ln_ar, ln_box, ln_fun, ln_cl, ln_da, ln_rec, ln_sl, ln_rc, ln_let, ln_eq, ln_in, ln_if, ln_then, ln_else, ln_print, ln_semi, ln_sp, ln_put] at *); omega), fun H1 s1 => ?_⟩
      refine ⟨_, _, rfl, rfl, (by (try rw [sizeLine_eq]); (try simp only [strLen_append, ln_lp, ln_rp, ln_cm, ln_ar, ln_box, ln_fun, ln_cl, ln_da, ln_rec, ln_sl, ln_rc, ln_let, ln_eq, ln_in, ln_if, ln_then, ln_else, ln_print, ln_semi, ln_sp, ln_put] at *); omega), _, rfl, a, _, _, _, rfl, rfl, SqT.of (s1 _ _ ea), atI_nat (j := 2) rfl, w2, y, rfl, h2.keep (Tups.of s1), (by omega), (by (try rw [sizeLine_eq]); (try simp only [strLen_append, ln_lp, ln_rp, ln_cm, ln_ar, ln_box, ln_fun, ln_cl, ln_da, ln_rec, ln_sl, ln_rc, ln_let, ln_eq, ln_in, ln_if, ln_then, ln_else, ln_print, ln_semi, ln_sp, ln_put] at *); omega), fun H2 s2 => ?_⟩
      exact ⟨_, _, rfl, rfl, (by (try rw [sizeLine_eq]); (try simp only [strLen_append, ln_lp, ln_rp, ln_cm, ln_ar, ln_box, ln_fun, ln_cl, ln_da, ln_rec, ln_sl, ln_rc, ln_let, ln_eq, ln_in, ln_if, ln_then, ln_else, ln_print, ln_semi, ln_sp, ln_put] at *); omega), q _ (s1.trans s2)⟩
    | pair x y =>
      obtain ⟨a, w1, w2, rfl, ea, h1, h2⟩ := Has.inv3 hv
      have eh : (Ty.pair x y).h = 1 + max x.h y.h := rfl
      have i1 : x.h ≤ max x.h y.h := Nat.le_max_left _ _
      have i2 : y.h ≤ max x.h y.h := Nat.le_max_right _ _
      have es : (Ty.pair x y).show = "(" ++ x.show ++ ", " ++ y.show ++ ")" := rfl
      rw [es] at hl q
      refine ⟨_, rfl, a, _, _, _, rfl, rfl, SqT.of ea, atI_nat (j := 0) rfl, ?_⟩
      refine ⟨_, rfl, rfl, _, rfl, dF (vne (by decide +kernel)) ⟨_, rfl, rfl, _, rfl, dT rfl ?_⟩⟩
      refine ⟨_, rfl, a, _, _, _, rfl, rfl, SqT.of ea, atI_nat (j := 1) rfl, w1, x, rfl, h1, (by omega), (by (try rw [sizeLine_eq]); (try simp only [strLen_append, ln_lp, ln_rp, ln_cm, ln_ar, ln_box, ln_fun, ln_cl, ln_da, ln_rec, ln_sl, ln_rc, ln_let, ln_eq, ln_in, ln_if, ln_then, ln_else, ln_print, ln_semi, ln_sp, ln_put] at *); omega), fun H1 s1 => ?_⟩
      refine ⟨_, _, rfl, rfl, (by (try rw [sizeLine_eq]); (try simp only [strLen_append, ln_lp, ln_rp, ln_cm, ln_ar, ln_box, ln_fun, ln_cl, ln_da, ln_rec, ln_sl, ln_rc, ln_let, ln_eq, ln_in, ln_if, ln_then, ln_else, ln_print, ln_semi, ln_sp, ln_put] at *); omega), _, _, rfl, rfl, (by (try rw [sizeLine_eq]); (try simp only [strLen_append, ln_lp, ln_rp, ln_cm, ln_ar, ln_box, ln_fun, ln_cl, ln_da, ln_rec, ln_sl, ln_rc, ln_let, ln_eq, ln_in, ln_if, ln_then, ln_else, ln_print, ln_semi, ln_sp, ln_put] at *); omega), _, rfl, a, _, _, _, rfl, rfl, SqT.of (s1 _ _ ea), atI_nat (j := 2) rfl, w2, y, rfl, h2.keep (Tups.of s1), (by omega), (by (try rw [sizeLine_eq]); (try simp only [strLen_append, ln_lp, ln_rp, ln_cm, ln_ar, ln_box, ln_fun, ln_cl, ln_da, ln_rec, ln_sl, ln_rc, ln_let, ln_eq, ln_in, ln_if, ln_then, ln_else, ln_print, ln_semi, ln_sp, ln_put] at *); omega), fun H2 s2 => ?_⟩
      exact ⟨_, _, rfl, rfl, (by (try rw [sizeLine_eq]); (try simp only [strLen_append, ln_lp, ln_rp, ln_cm, ln_ar, ln_box, ln_fun, ln_cl, ln_da, ln_rec, ln_sl, ln_rc, ln_let, ln_eq, ln_in, ln_if, ln_then, ln_else, ln_print, ln_semi, ln_sp, ln_put] at *); omega), _, _, rfl, rfl, (by (try rw [sizeLine_eq]); (try simp only [strLen_append, ln_lp, ln_rp, ln_cm, ln_ar, ln_box, ln_fun, ln_cl, ln_da, ln_rec, ln_sl, ln_rc, ln_let, ln_eq, ln_in, ln_if, ln_then, ln_else, ln_print, ln_semi, ln_sp, ln_put] at *); omega), q _ (s1.trans s2)⟩
    | box x =>
      obtain ⟨a, w1, rfl, ea, h1⟩ := Has.inv2 hv
      have eh : (Ty.box x).h = 1 + x.h := rfl
      have es : (Ty.box x).show = "box " ++ x.showS := rfl
      rw [es] at hl q
      refine ⟨_, rfl, a, _, _, _, rfl, rfl, SqT.of ea, atI_nat (j := 0) rfl, ?_⟩
      refine ⟨_, rfl, rfl, _, rfl, dF (vne (by decide +kernel)) ⟨_, rfl, rfl, _, rfl, dF (vne (by decide +kernel)) ⟨_, rfl, rfl, _, rfl, dT rfl ?_⟩⟩⟩
      refine ⟨_, rfl, a, _, _, _, rfl, rfl, SqT.of ea, atI_nat (j := 1) rfl, w1, x, rfl, h1, (by omega), (by (try rw [sizeLine_eq]); (try simp only [strLen_append, ln_lp, ln_rp, ln_cm, ln_ar, ln_box, ln_fun, ln_cl, ln_da, ln_rec, ln_sl, ln_rc, ln_let, ln_eq, ln_in, ln_if, ln_then, ln_else, ln_print, ln_semi, ln_sp, ln_put] at *); omega), fun H1 s1 => ?_⟩
      exact ⟨_, _, rfl, rfl, (by (try rw [sizeLine_eq]); (try simp only [strLen_append, ln_lp, ln_rp, ln_cm, ln_ar, ln_box, ln_fun, ln_cl, ln_da, ln_rec, ln_sl, ln_rc, ln_let, ln_eq, ln_in, ln_if, ln_then, ln_else, ln_print, ln_semi, ln_sp, ln_put] at *); omega), q _ s1⟩
theorem showT_all (E : Env K mg) : ∀ n : Nat, FnOk P w K mg base CX0 n E.a_m_show_type E.d_m_show_type ["known"] (spShowT n) ∧ FnOk P w K mg base CX0 n E.a_m_show_simple E.d_m_show_simple ["known"] (spShowS n)
  | 0 => by
    have no1 : ∀ vs H Q E', ¬ spShowT 0 vs H Q E' := fun vs H Q E' h => by
      obtain ⟨_, _, _, _, h1, _⟩ := h
      omega
    have no2 : ∀ vs H Q E', ¬ spShowS 0 vs H Q E' := fun vs H Q E' h => by
      obtain ⟨_, _, _, _, h1, _⟩ := h
      omega
    exact ⟨⟨fun vs H Q E' h => absurd h (no1 vs H Q E'), fun A outer s H args us vs Q E' _ _ _ _ h => absurd h (no1 vs H Q E')⟩,
      ⟨fun vs H Q E' h => absurd h (no2 vs H Q E'), fun A outer s H args us vs Q E' _ _ _ _ h => absurd h (no2 vs H Q E')⟩⟩
  | n + 1 => by
    have ih := showT_all E n
    exact ⟨ok_showT E ih.1 ih.2, ok_showS E ih.1⟩
end
end HN
/-! W2: expressions are written. -/
namespace HN
open PySem TL L2
theorem showA_le (a : Ex) : a.show.length ≤ a.showA.length := by
  unfold Ex.showA
  split
  · exact Nat.le_refl _
  · rw [strLen_append, strLen_append]; omega
theorem showA_at {e : Ex} (h : e.isAt = true) : e.showA = e.show := by unfold Ex.showA; rw [h]; rfl
theorem showA_no {e : Ex} (h : e.isAt = false) : e.showA = "(" ++ e.show ++ ")" := by unfold Ex.showA; rw [h]; rfl
def Ex.k : Ex → Str
  | .num _ => "num" | .flag _ => "flag" | .unit => "unit" | .name _ => "name" | .fn _ _ _ => "fun" | .recf _ _ _ _ _ => "rec" | .letx _ _ _ => "let" | .ite _ _ _ => "if"
  | .print _ _ => "print" | .pair _ _ => "pair" | .asT _ _ => "as" | .op _ _ _ => "op" | .un k _ => k.s | .put _ _ => "put" | .call _ _ => "call"
theorem Ex.has_k {H : Hp} {t : Ex} {v : V} (h : Has H t.d v) : ∃ a xs, v = .ref a ∧ H a = some (.tup (.str t.k :: xs)) := by
  have gen : ∀ {k : Str} {ds : List PyData}, Has H (.tuple (.str k :: ds)) v → ∃ a xs, v = .ref a ∧ H a = some (.tup (.str k :: xs)) := fun h => by
    obtain ⟨a, xs, rfl, e, t⟩ := h.inv
    cases t with
    | cons h0 t => cases h0; exact ⟨a, _, rfl, e⟩
  cases t <;> exact gen h
abbrev l6 : List V := [.str "num", .str "flag", .str "unit", .str "name", .str "pair", .str "as"]
abbrev l4 : List V := [.str "num", .str "flag", .str "unit", .str "name"]
abbrev l2 : List V := [.str "fun", .str "rec"]
theorem k_at (e : Ex) : inV (.str e.k) l6 = e.isAt := by
  cases e with
  | un k a => cases k <;> simp only [Ex.k, Un.s, Ex.isAt] <;> decide +kernel
  | _ => simp only [Ex.k, Ex.isAt]; decide +kernel
def isLeaf : Ex → Bool
  | .num _ | .flag _ | .unit | .name _ => true
  | _ => false
theorem k_leaf (e : Ex) : inV (.str e.k) l4 = isLeaf e := by
  cases e with
  | un k a => cases k <;> simp only [Ex.k, Un.s, isLeaf] <;> decide +kernel
  | _ => simp only [Ex.k, isLeaf]; decide +kernel
theorem k_bind (e : Ex) : inV (.str e.k) l2 = (isFun e || isRec e) := by
  cases e with
  | un k a => cases k <;> simp only [Ex.k, Un.s, isFun, isRec] <;> decide +kernel
  | _ => simp only [Ex.k, isFun, isRec]; decide +kernel
def isOps : Ex → Bool
  | .op _ _ _ | .un _ _ | .put _ _ | .call _ _ => true
  | _ => false
theorem k_ops {e : Ex} (h : isOps e = true) : ¬ e.k = "let" ∧ ¬ e.k = "if" ∧ ¬ e.k = "print" ∧ ¬ e.k = "pair" ∧ ¬ e.k = "as" := by
  cases e with
  | un k a => cases k <;> simp only [Ex.k, Un.s] <;> decide +kernel
  | op s a b => exact (by decide +kernel : ¬ ("op" : Str) = "let" ∧ ¬ ("op" : Str) = "if" ∧ ¬ ("op" : Str) = "print" ∧ ¬ ("op" : Str) = "pair" ∧ ¬ ("op" : Str) = "as")
  | put a b => exact (by decide +kernel : ¬ ("put" : Str) = "let" ∧ ¬ ("put" : Str) = "if" ∧ ¬ ("put" : Str) = "print" ∧ ¬ ("put" : Str) = "pair" ∧ ¬ ("put" : Str) = "as")
  | call a b => exact (by decide +kernel : ¬ ("call" : Str) = "let" ∧ ¬ ("call" : Str) = "if" ∧ ¬ ("call" : Str) = "print" ∧ ¬ ("call" : Str) = "pair" ∧ ¬ ("call" : Str) = "as")
  | _ => cases h
section
variable {P : Program} {w : World} {K : PySem.W.Frag} {mg : Str → Option Value} {base : Heap}
def spSh (kd : Ex → Bool) (f : Ex → Str) (c n : Nat) : Sp := fun vs H Q _ => ∃ (v : V) (e : Ex), vs = [v] ∧ Has H e.d v ∧ e.ok ∧ kd e = true ∧ 4 * e.h + c ≤ n ∧ (f e).length ≤ 1000000 ∧ ∀ H' : Hp, Same H H' → Q (.str (f e)) H'
abbrev spShow : Nat → Sp := spSh (fun _ => true) Ex.show 4
abbrev spShowA : Nat → Sp := spSh (fun _ => true) Ex.showA 5
abbrev spLeaf : Nat → Sp := spSh isLeaf Ex.show 1
abbrev spBind : Nat → Sp := spSh (fun e => isFun e || isRec e) Ex.show 3
abbrev spAts : Nat → Sp := spSh isOps Ex.show 3
abbrev OkS (P : Program) (w : World) (K : PySem.W.Frag) (mg : Str → Option Value) (base : Heap) (n : Nat) (a : Addr) (d : FuncData) (sp : Sp) : Prop := FnOk P w K mg base CX0 n a d ["expression"] sp
theorem ok_showA (E : Env K mg) {n : Nat} (g_m_show : OkS P w K mg base n E.a_m_show E.d_m_show (spShow n)) : OkS P w K mg base (n + 1) E.a_m_show_atom E.d_m_show_atom (spShowA (n + 1)) := by
  refine E.F_m_show_atom.ok sc_m_show_atom (fun vs H Q E' h => ?_) (fun cdv A outer s H vs Q E' hr h => ?_)
  · obtain ⟨v, t, rfl, _⟩ := h
    rfl
  · obtain ⟨v, e, rfl, hv, hok, _, hn, hl, q⟩ := h
    have h_m_show : Room n _ := hr
    have hle := showA_le e
    refine ⟨_, (pss_cons (ps_set (i := 1) sc_m_show_atom.nd rfl (Or.inl rfl) (pe_call g_m_show h_m_show rfl E.G_m_show E.F_m_show.kp E.B_m_show .nil pass0 (pa_cons (pv 0) pa_nil)))
      (pss_cons (ps_if (pt_cmpR op_in_seq (pe_ix ix_tup (pv 0) pe_int (fun _ _ => rfl)) (pe_tup (pa_cons pe_str (pa_cons pe_str (pa_cons pe_str (pa_cons pe_str (pa_cons pe_str (pa_cons pe_str pa_nil))))))) (by rfl)) (pss_one (ps_ret (pv 1))) pss_nil)
      (pss_one (ps_ret (pe_op op_add_str (pe_op op_add_str pe_str (pv 1)) pe_str))))), ?_⟩
    refine ⟨_, rfl, v, e, rfl, hv, hok, rfl, (by omega), (by omega), fun H1 s1 => ?_⟩
    obtain ⟨a, xs, rfl, ea⟩ := Ex.has_k hv
    refine ⟨_, rfl, a, _, _, _, rfl, rfl, SqT.of (s1 _ _ ea), atI_nat (j := 0) rfl, (by show 6 ≤ sizeLine; decide), fun b hb => ⟨b, _, rfl, .inr (SqT.of upd_same), rfl, rfl, _, rfl, ?_⟩⟩
    have s2 := s1.trans (same_new (o := .tup l6) hb)
    cases hf : e.isAt with
    | true =>
      refine bT ((k_at e).trans hf) ?_
      rw [showA_at hf] at q
      exact ⟨_, rfl, q _ s2⟩
    | false =>
      refine bF ((k_at e).trans hf) ?_
      rw [showA_no hf] at q hl
      exact ⟨_, rfl, _, _, rfl, rfl, (by (try rw [sizeLine_eq]); (try simp only [strLen_append, ln_lp, ln_rp, ln_cm, ln_ar, ln_box, ln_fun, ln_cl, ln_da, ln_rec, ln_sl, ln_rc, ln_let, ln_eq, ln_in, ln_if, ln_then, ln_else, ln_print, ln_semi, ln_sp, ln_put] at *); omega), _, _, rfl, rfl, (by (try rw [sizeLine_eq]); (try simp only [strLen_append, ln_lp, ln_rp, ln_cm, ln_ar, ln_box, ln_fun, ln_cl, ln_da, ln_rec, ln_sl, ln_rc, ln_let, ln_eq, ln_in, ln_if, ln_then, ln_else, ln_print, ln_semi, ln_sp, ln_put] at *); omega), q _ s2⟩
theorem ok_leaf (E : Env K mg) {n : Nat} : OkS P w K mg base (n + 1) E.a_m_show_leaf E.d_m_show_leaf (spLeaf (n + 1)) := by
  refine E.F_m_show_leaf.ok sc_m_show_leaf (fun vs H Q E' h => ?_) (fun cdv A outer s H vs Q E' hr h => ?_)
  · obtain ⟨v, t, rfl, _⟩ := h
    rfl
  · obtain ⟨v, e, rfl, hv, hok, hk, hn, hl, q⟩ := h
    refine ⟨_, (pss_cons (ps_set (i := 1) sc_m_show_leaf.nd rfl (Or.inl rfl) (pe_ix ix_tup (pv 0) pe_int (fun _ _ => rfl)))
      (pss_cons (ps_if (pt_cmpR op_eq (pv 1) pe_str (nomark _)) (pss_one (ps_ret (pe_callTy call_str_int (by rfl) E.z_str (by decide +kernel) (pa_cons (pe_ix ix_tup (pv 0) pe_int (fun _ _ => rfl)) pa_nil)))) pss_nil)
      (pss_cons (ps_if (pt_cmpR op_eq (pv 1) pe_str (nomark _)) (pss_cons (ps_if (pt_val (pe_ix ix_tup (pv 0) pe_int (fun _ _ => rfl))) (pss_one (ps_ret pe_str)) pss_nil)
      (pss_one (ps_ret pe_str))) pss_nil)
      (pss_cons (ps_if (pt_cmpR op_eq (pv 1) pe_str (nomark _)) (pss_one (ps_ret pe_str)) pss_nil)
      (pss_one (ps_ret (pe_ix ix_tup (pv 0) pe_int (fun _ _ => rfl)))))))), ?_⟩
    cases e with
    | num m =>
      obtain ⟨a, w1, rfl, ea, h1⟩ := Has.inv2 hv
      have h1 := h1.int_inv
      subst h1
      have hm : m < 2147483648 := hok
      refine ⟨_, rfl, a, _, _, _, rfl, rfl, SqT.of ea, atI_nat (j := 0) rfl, ?_⟩
      refine ⟨_, rfl, rfl, _, rfl, dT rfl ?_⟩
      refine ⟨_, rfl, a, _, _, _, rfl, rfl, SqT.of ea, atI_nat (j := 1) rfl, _, rfl, ?_, q _ (Same.refl _)⟩
      rw [Int.natAbs_natCast]
      have hb : m.log2 < 32 := by
        by_cases hz : m = 0
        · subst hz; decide
        · exact (Nat.log2_lt hz).mpr (Nat.lt_of_lt_of_le hm (by decide))
      omega
    | flag b =>
      obtain ⟨a, w1, rfl, ea, h1⟩ := Has.inv2 hv
      have h1 := h1.bl_inv
      subst h1
      refine ⟨_, rfl, a, _, _, _, rfl, rfl, SqT.of ea, atI_nat (j := 0) rfl, ?_⟩
      refine ⟨_, rfl, rfl, _, rfl, dF (vne (by decide +kernel)) ⟨_, rfl, rfl, _, rfl, dT rfl ?_⟩⟩
      refine ⟨_, rfl, a, _, _, _, rfl, rfl, SqT.of ea, atI_nat (j := 1) rfl, b, rfl, ?_⟩
      cases b with
      | true => exact q _ (Same.refl _)
      | false => exact q _ (Same.refl _)
    | unit =>
      obtain ⟨a, rfl, ea⟩ := Has.inv1 hv
      refine ⟨_, rfl, a, _, _, _, rfl, rfl, SqT.of ea, atI_nat (j := 0) rfl, ?_⟩
      exact ⟨_, rfl, rfl, _, rfl, dF (vne (by decide +kernel)) ⟨_, rfl, rfl, _, rfl, dF (vne (by decide +kernel)) ⟨_, rfl, rfl, _, rfl, dT rfl (q _ (Same.refl _))⟩⟩⟩
    | name y =>
      obtain ⟨a, w1, rfl, ea, h1⟩ := Has.inv2 hv
      have h1 := h1.str_inv
      subst h1
      refine ⟨_, rfl, a, _, _, _, rfl, rfl, SqT.of ea, atI_nat (j := 0) rfl, ?_⟩
      refine ⟨_, rfl, rfl, _, rfl, dF (vne (by decide +kernel)) ⟨_, rfl, rfl, _, rfl, dF (vne (by decide +kernel)) ⟨_, rfl, rfl, _, rfl, dF (vne (by decide +kernel)) ?_⟩⟩⟩
      exact ⟨_, rfl, a, _, _, _, rfl, rfl, SqT.of ea, atI_nat (j := 1) rfl, q _ (Same.refl _)⟩
    | _ => exact absurd hk (by intro z; cases z)
theorem ok_binder (E : Env K mg) {n : Nat} (g_m_show : OkS P w K mg base n E.a_m_show E.d_m_show (spShow n)) : OkS P w K mg base (n + 1) E.a_m_show_binder E.d_m_show_binder (spBind (n + 1)) := by
  refine E.F_m_show_binder.ok sc_m_show_binder (fun vs H Q E' h => ?_) (fun cdv A outer s H vs Q E' hr h => ?_)
  · obtain ⟨v, t, rfl, _⟩ := h
    rfl
  · obtain ⟨v, e, rfl, hv, hok, hk, hn, hl, q⟩ := h
    have h_m_show : Room n _ := hr
    have g_m_show_type := (showT_all (P := P) (w := w) (base := base) E n).1
    have h_m_show_type : Room n _ := hr
    refine ⟨_, (pss_cons (ps_if (pt_cmpR op_eq (pe_ix ix_tup (pv 0) pe_int (fun _ _ => rfl)) pe_str (nomark _)) (pss_cons (ps_asg (pv 0) (pg_tup rfl (pgs_cons (pg_name (i := 1) sc_m_show_binder.nd rfl (Or.inl rfl)) (pgs_cons (pg_name (i := 2) sc_m_show_binder.nd rfl (Or.inl rfl)) (pgs_cons (pg_name (i := 3) sc_m_show_binder.nd rfl (Or.inl rfl)) (pgs_cons (pg_name (i := 4) sc_m_show_binder.nd rfl (Or.inl rfl)) pgs_nil))))))
      (pss_one (ps_ret (pe_op op_add_str (pe_op op_add_str (pe_op op_add_str (pe_op op_add_str (pe_op op_add_str pe_str (pv 2)) pe_str) (pe_call g_m_show_type h_m_show_type rfl E.G_m_show_type E.F_m_show_type.kp E.B_m_show_type .nil pass0 (pa_cons (pv 3) pa_nil))) pe_str) (pe_call g_m_show h_m_show rfl E.G_m_show E.F_m_show.kp E.B_m_show .nil pass0 (pa_cons (pv 4) pa_nil)))))) pss_nil)
      (pss_cons (ps_asg (pv 0) (pg_tup rfl (pgs_cons (pg_name (i := 1) sc_m_show_binder.nd rfl (Or.inl rfl)) (pgs_cons (pg_name (i := 5) sc_m_show_binder.nd rfl (Or.inl rfl)) (pgs_cons (pg_name (i := 2) sc_m_show_binder.nd rfl (Or.inl rfl)) (pgs_cons (pg_name (i := 3) sc_m_show_binder.nd rfl (Or.inl rfl)) (pgs_cons (pg_name (i := 6) sc_m_show_binder.nd rfl (Or.inl rfl)) (pgs_cons (pg_name (i := 4) sc_m_show_binder.nd rfl (Or.inl rfl)) pgs_nil))))))))
      (pss_one (ps_ret (pe_op op_add_str (pe_op op_add_str (pe_op op_add_str (pe_op op_add_str (pe_op op_add_str (pe_op op_add_str (pe_op op_add_str (pe_op op_add_str (pe_op op_add_str pe_str (pv 5)) pe_str) (pv 2)) pe_str) (pe_call g_m_show_type h_m_show_type rfl E.G_m_show_type E.F_m_show_type.kp E.B_m_show_type .nil pass0 (pa_cons (pv 3) pa_nil))) pe_str) (pe_call g_m_show_type h_m_show_type rfl E.G_m_show_type E.F_m_show_type.kp E.B_m_show_type .nil pass0 (pa_cons (pv 6) pa_nil))) pe_str) (pe_call g_m_show h_m_show rfl E.G_m_show E.F_m_show.kp E.B_m_show .nil pass0 (pa_cons (pv 4) pa_nil))))))), ?_⟩
    cases e with
    | fn y t b =>
      obtain ⟨a, w0, w1, w2, rfl, ea, h0, h1, h2⟩ := Has.inv4 hv
      have h0 := h0.str_inv
      subst h0
      have eh : (Ex.fn y t b).h = 1 + max t.h b.h := rfl
      have i1 : t.h ≤ max t.h b.h := Nat.le_max_left _ _
      have i2 : b.h ≤ max t.h b.h := Nat.le_max_right _ _
      have es : (Ex.fn y t b).show = "fun " ++ y ++ " : " ++ t.show ++ " => " ++ b.show := rfl
      rw [es] at hl q
      refine ⟨_, rfl, a, _, _, _, rfl, rfl, SqT.of ea, atI_nat (j := 0) rfl, rfl, _, rfl, dT rfl ?_⟩
      refine ⟨_, rfl, a, _, rfl, SqT.of ea, rfl, _, _, rfl, _, _, rfl, _, _, rfl, _, _, rfl, rfl, ?_⟩
      refine ⟨_, rfl, _, _, rfl, rfl, (by (try rw [sizeLine_eq]); (try simp only [strLen_append, ln_lp, ln_rp, ln_cm, ln_ar, ln_box, ln_fun, ln_cl, ln_da, ln_rec, ln_sl, ln_rc, ln_let, ln_eq, ln_in, ln_if, ln_then, ln_else, ln_print, ln_semi, ln_sp, ln_put] at *); omega), _, _, rfl, rfl, (by (try rw [sizeLine_eq]); (try simp only [strLen_append, ln_lp, ln_rp, ln_cm, ln_ar, ln_box, ln_fun, ln_cl, ln_da, ln_rec, ln_sl, ln_rc, ln_let, ln_eq, ln_in, ln_if, ln_then, ln_else, ln_print, ln_semi, ln_sp, ln_put] at *); omega), _, rfl, w1, t, rfl, h1, (by omega), (by (try rw [sizeLine_eq]); (try simp only [strLen_append, ln_lp, ln_rp, ln_cm, ln_ar, ln_box, ln_fun, ln_cl, ln_da, ln_rec, ln_sl, ln_rc, ln_let, ln_eq, ln_in, ln_if, ln_then, ln_else, ln_print, ln_semi, ln_sp, ln_put] at *); omega), fun H1 s1 => ?_⟩
      refine ⟨_, _, rfl, rfl, (by (try rw [sizeLine_eq]); (try simp only [strLen_append, ln_lp, ln_rp, ln_cm, ln_ar, ln_box, ln_fun, ln_cl, ln_da, ln_rec, ln_sl, ln_rc, ln_let, ln_eq, ln_in, ln_if, ln_then, ln_else, ln_print, ln_semi, ln_sp, ln_put] at *); omega), _, _, rfl, rfl, (by (try rw [sizeLine_eq]); (try simp only [strLen_append, ln_lp, ln_rp, ln_cm, ln_ar, ln_box, ln_fun, ln_cl, ln_da, ln_rec, ln_sl, ln_rc, ln_let, ln_eq, ln_in, ln_if, ln_then, ln_else, ln_print, ln_semi, ln_sp, ln_put] at *); omega), _, rfl, w2, b, rfl, h2.keep (Tups.of s1), hok.2, rfl, (by omega), (by (try rw [sizeLine_eq]); (try simp only [strLen_append, ln_lp, ln_rp, ln_cm, ln_ar, ln_box, ln_fun, ln_cl, ln_da, ln_rec, ln_sl, ln_rc, ln_let, ln_eq, ln_in, ln_if, ln_then, ln_else, ln_print, ln_semi, ln_sp, ln_put] at *); omega), fun H2 s2 => ?_⟩
      exact ⟨_, _, rfl, rfl, (by (try rw [sizeLine_eq]); (try simp only [strLen_append, ln_lp, ln_rp, ln_cm, ln_ar, ln_box, ln_fun, ln_cl, ln_da, ln_rec, ln_sl, ln_rc, ln_let, ln_eq, ln_in, ln_if, ln_then, ln_else, ln_print, ln_semi, ln_sp, ln_put] at *); omega), q _ (s1.trans s2)⟩
    | recf f y t u b =>
      obtain ⟨a, w1, w2, w3, rfl, ea, h1, h2, h3⟩ := Has.inv6 hv
      have eh : (Ex.recf f y t u b).h = 1 + max t.h (max u.h b.h) := rfl
      have i1 : t.h ≤ max t.h (max u.h b.h) := Nat.le_max_left _ _
      have i2 : max u.h b.h ≤ max t.h (max u.h b.h) := Nat.le_max_right _ _
      have i3 : u.h ≤ max u.h b.h := Nat.le_max_left _ _
      have i4 : b.h ≤ max u.h b.h := Nat.le_max_right _ _
      have es : (Ex.recf f y t u b).show = "rec " ++ f ++ " (" ++ y ++ " : " ++ t.show ++ ") : " ++ u.show ++ " => " ++ b.show := rfl
      rw [es] at hl q
      refine ⟨_, rfl, a, _, _, _, rfl, rfl, SqT.of ea, atI_nat (j := 0) rfl, rfl, _, rfl, dF (vne (by decide +kernel)) ?_⟩
      refine ⟨_, rfl, a, _, rfl, SqT.of ea, rfl, _, _, rfl, _, _, rfl, _, _, rfl, _, _, rfl, _, _, rfl, _, _, rfl, rfl, ?_⟩
      refine ⟨_, rfl, _, _, rfl, rfl, (by (try rw [sizeLine_eq]); (try simp only [strLen_append, ln_lp, ln_rp, ln_cm, ln_ar, ln_box, ln_fun, ln_cl, ln_da, ln_rec, ln_sl, ln_rc, ln_let, ln_eq, ln_in, ln_if, ln_then, ln_else, ln_print, ln_semi, ln_sp, ln_put] at *); omega), _, _, rfl, rfl, (by (try rw [sizeLine_eq]); (try simp only [strLen_append, ln_lp, ln_rp, ln_cm, ln_ar, ln_box, ln_fun, ln_cl, ln_da, ln_rec, ln_sl, ln_rc, ln_let, ln_eq, ln_in, ln_if, ln_then, ln_else, ln_print, ln_semi, ln_sp, ln_put] at *); omega), _, rfl, _, _, rfl, rfl, (by (try rw [sizeLine_eq]); (try simp only [strLen_append, ln_lp, ln_rp, ln_cm, ln_ar, ln_box, ln_fun, ln_cl, ln_da, ln_rec, ln_sl, ln_rc, ln_let, ln_eq, ln_in, ln_if, ln_then, ln_else, ln_print, ln_semi, ln_sp, ln_put] at *); omega), _, _, rfl, rfl, (by (try rw [sizeLine_eq]); (try simp only [strLen_append, ln_lp, ln_rp, ln_cm, ln_ar, ln_box, ln_fun, ln_cl, ln_da, ln_rec, ln_sl, ln_rc, ln_let, ln_eq, ln_in, ln_if, ln_then, ln_else, ln_print, ln_semi, ln_sp, ln_put] at *); omega), _, rfl, w1, t, rfl, h1, (by omega), (by (try rw [sizeLine_eq]); (try simp only [strLen_append, ln_lp, ln_rp, ln_cm, ln_ar, ln_box, ln_fun, ln_cl, ln_da, ln_rec, ln_sl, ln_rc, ln_let, ln_eq, ln_in, ln_if, ln_then, ln_else, ln_print, ln_semi, ln_sp, ln_put] at *); omega), fun H1 s1 => ?_⟩
      refine ⟨_, _, rfl, rfl, (by (try rw [sizeLine_eq]); (try simp only [strLen_append, ln_lp, ln_rp, ln_cm, ln_ar, ln_box, ln_fun, ln_cl, ln_da, ln_rec, ln_sl, ln_rc, ln_let, ln_eq, ln_in, ln_if, ln_then, ln_else, ln_print, ln_semi, ln_sp, ln_put] at *); omega), _, _, rfl, rfl, (by (try rw [sizeLine_eq]); (try simp only [strLen_append, ln_lp, ln_rp, ln_cm, ln_ar, ln_box, ln_fun, ln_cl, ln_da, ln_rec, ln_sl, ln_rc, ln_let, ln_eq, ln_in, ln_if, ln_then, ln_else, ln_print, ln_semi, ln_sp, ln_put] at *); omega), _, rfl, w2, u, rfl, h2.keep (Tups.of s1), (by omega), (by (try rw [sizeLine_eq]); (try simp only [strLen_append, ln_lp, ln_rp, ln_cm, ln_ar, ln_box, ln_fun, ln_cl, ln_da, ln_rec, ln_sl, ln_rc, ln_let, ln_eq, ln_in, ln_if, ln_then, ln_else, ln_print, ln_semi, ln_sp, ln_put] at *); omega), fun H2 s2 => ?_⟩
      refine ⟨_, _, rfl, rfl, (by (try rw [sizeLine_eq]); (try simp only [strLen_append, ln_lp, ln_rp, ln_cm, ln_ar, ln_box, ln_fun, ln_cl, ln_da, ln_rec, ln_sl, ln_rc, ln_let, ln_eq, ln_in, ln_if, ln_then, ln_else, ln_print, ln_semi, ln_sp, ln_put] at *); omega), _, _, rfl, rfl, (by (try rw [sizeLine_eq]); (try simp only [strLen_append, ln_lp, ln_rp, ln_cm, ln_ar, ln_box, ln_fun, ln_cl, ln_da, ln_rec, ln_sl, ln_rc, ln_let, ln_eq, ln_in, ln_if, ln_then, ln_else, ln_print, ln_semi, ln_sp, ln_put] at *); omega), _, rfl, w3, b, rfl, (h3.keep (Tups.of s1)).keep (Tups.of s2), hok.2.2, rfl, (by omega), (by (try rw [sizeLine_eq]); (try simp only [strLen_append, ln_lp, ln_rp, ln_cm, ln_ar, ln_box, ln_fun, ln_cl, ln_da, ln_rec, ln_sl, ln_rc, ln_let, ln_eq, ln_in, ln_if, ln_then, ln_else, ln_print, ln_semi, ln_sp, ln_put] at *); omega), fun H3 s3 => ?_⟩
      exact ⟨_, _, rfl, rfl, (by (try rw [sizeLine_eq]); (try simp only [strLen_append, ln_lp, ln_rp, ln_cm, ln_ar, ln_box, ln_fun, ln_cl, ln_da, ln_rec, ln_sl, ln_rc, ln_let, ln_eq, ln_in, ln_if, ln_then, ln_else, ln_print, ln_semi, ln_sp, ln_put] at *); omega), q _ ((s1.trans s2).trans s3)⟩
    | _ => exact absurd hk (by intro z; cases z)
end
end HN
/-! W3: show_atoms and show. -/
namespace HN
open PySem TL L2
/-- the texts of those that are expressions -/
def somes (es : List (Option Ex)) : List V := es.filterMap (fun o => o.map fun e => V.str e.showA)
def txt1 : Option Ex → List V
  | some e => [V.str e.showA]
  | none => []
def opParts : Ex → List (Option Ex)
  | .op _ x y => [none, some x, some y]
  | .un _ x => [some x]
  | .put x y | .call x y => [some x, some y]
  | _ => []
theorem somes_step {es : List (Option Ex)} {i : Nat} {o : Option Ex} (h : es[i]? = some o) : somes (es.take (i + 1)) = somes (es.take i) ++ txt1 o := by
  unfold somes
  rw [List.take_add_one, h, List.filterMap_append]
  cases o <;> rfl
theorem somes_len (es : List (Option Ex)) : (somes es).length ≤ es.length := List.length_filterMap_le _ _
/-- what a tuple's rest holds: texts and expressions -/
def Rest (H : Hp) : List V → List (Option Ex) → Prop
  | [], [] => True
  | v :: vs, o :: os => (match o with | some e => Has H e.d v | none => ∃ x, v = .str x) ∧ Rest H vs os
  | _, _ => False
theorem Rest.get {H : Hp} : ∀ {vs : List V} {os : List (Option Ex)} {i : Nat} {v : V}, Rest H vs os → vs[i]? = some v → ∃ o, os[i]? = some o ∧ (match o with | some e => Has H e.d v | none => ∃ x, v = .str x)
  | [], [], _, _, _, e => by simp at e
  | [], _ :: _, _, _, h, _ => h.elim
  | _ :: _, [], _, _, h, _ => h.elim
  | _ :: _, o :: _, 0, v, h, e => by
    simp at e
    subst e
    exact ⟨o, rfl, h.1⟩
  | _ :: _, _ :: _, i + 1, v, h, e => by
    obtain ⟨o, h1, h2⟩ := Rest.get (i := i) (v := v) h.2 (by simpa using e)
    exact ⟨o, by simpa using h1, h2⟩
theorem Rest.length {H : Hp} : ∀ {vs : List V} {os : List (Option Ex)}, Rest H vs os → vs.length = os.length
  | [], [], _ => rfl
  | [], _ :: _, h => h.elim
  | _ :: _, [], h => h.elim
  | _ :: _, _ :: _, h => by rw [List.length_cons, List.length_cons, Rest.length h.2]
section
variable {P : Program} {w : World} {K : PySem.W.Frag} {mg : Str → Option Value} {base : Heap}
theorem ok_atoms (E : Env K mg) {n : Nat} (g_m_show_atom : OkS P w K mg base n E.a_m_show_atom E.d_m_show_atom (spShowA n)) : OkS P w K mg base (n + 1) E.a_m_show_atoms E.d_m_show_atoms (spAts (n + 1)) := by
  refine E.F_m_show_atoms.ok sc_m_show_atoms (fun vs H Q E' h => ?_) (fun cdv A outer s H vs Q E' hr h => ?_)
  · obtain ⟨v, t, rfl, _⟩ := h
    rfl
  · obtain ⟨v, e, rfl, hv, hok, hk, hn, hl, q⟩ := h
    have h_m_show_atom : Room n _ := hr
    -- the parts, and what is behind the comprehension
    obtain ⟨a, xs, rfl, ea, hne, hx8, hrest, hos⟩ : ∃ (a : Addr) (xs : List V), v = .ref a ∧ H a = some (.tup (.str e.k :: xs)) ∧ xs ≠ [] ∧ xs.length ≤ 8 ∧ Rest H xs (opParts e) ∧ ∀ e', some e' ∈ opParts e → e'.ok ∧ 4 * e'.h + 5 ≤ n ∧ e'.showA.length ≤ 1000000 := by
      cases e with
      | op sg x y =>
        obtain ⟨a, w0, w1, w2, rfl, ea, h0, h1, h2⟩ := Has.inv4 hv
        have h0 := h0.str_inv
        have eh : (Ex.op sg x y).h = 1 + max x.h y.h := rfl
        have i1 : x.h ≤ max x.h y.h := Nat.le_max_left _ _
        have i2 : y.h ≤ max x.h y.h := Nat.le_max_right _ _
        have es : (Ex.op sg x y).show = x.showA ++ " " ++ sg.s ++ " " ++ y.showA := rfl
        rw [es] at hl
        refine ⟨a, [w0, w1, w2], rfl, ea, by simp, by simp, ⟨⟨_, h0⟩, h1, h2, True.intro⟩, fun e' he => ?_⟩
        simp [opParts] at he
        rcases he with rfl | rfl
        · exact ⟨hok.1, by omega, (by (try rw [sizeLine_eq]); (try simp only [strLen_append, ln_lp, ln_rp, ln_cm, ln_ar, ln_box, ln_fun, ln_cl, ln_da, ln_rec, ln_sl, ln_rc, ln_let, ln_eq, ln_in, ln_if, ln_then, ln_else, ln_print, ln_semi, ln_sp, ln_put] at *); omega)⟩
        · exact ⟨hok.2, by omega, (by (try rw [sizeLine_eq]); (try simp only [strLen_append, ln_lp, ln_rp, ln_cm, ln_ar, ln_box, ln_fun, ln_cl, ln_da, ln_rec, ln_sl, ln_rc, ln_let, ln_eq, ln_in, ln_if, ln_then, ln_else, ln_print, ln_semi, ln_sp, ln_put] at *); omega)⟩
      | un kk x =>
        obtain ⟨a, w1, rfl, ea, h1⟩ := Has.inv2 hv
        have eh : (Ex.un kk x).h = 1 + x.h := rfl
        have es : (Ex.un kk x).show = kk.s ++ " " ++ x.showA := rfl
        rw [es] at hl
        refine ⟨a, [w1], rfl, ea, by simp, by simp, ⟨h1, True.intro⟩, fun e' he => ?_⟩
        simp [opParts] at he
        subst he
        exact ⟨hok, by omega, (by (try rw [sizeLine_eq]); (try simp only [strLen_append, ln_lp, ln_rp, ln_cm, ln_ar, ln_box, ln_fun, ln_cl, ln_da, ln_rec, ln_sl, ln_rc, ln_let, ln_eq, ln_in, ln_if, ln_then, ln_else, ln_print, ln_semi, ln_sp, ln_put] at *); omega)⟩
      | put x y =>
        obtain ⟨a, w1, w2, rfl, ea, h1, h2⟩ := Has.inv3 hv
        have eh : (Ex.put x y).h = 1 + max x.h y.h := rfl
        have i1 : x.h ≤ max x.h y.h := Nat.le_max_left _ _
        have i2 : y.h ≤ max x.h y.h := Nat.le_max_right _ _
        have es : (Ex.put x y).show = "put" ++ " " ++ (x.showA ++ " " ++ y.showA) := rfl
        rw [es] at hl
        refine ⟨a, [w1, w2], rfl, ea, by simp, by simp, ⟨h1, h2, True.intro⟩, fun e' he => ?_⟩
        simp [opParts] at he
        rcases he with rfl | rfl
        · exact ⟨hok.1, by omega, (by (try rw [sizeLine_eq]); (try simp only [strLen_append, ln_lp, ln_rp, ln_cm, ln_ar, ln_box, ln_fun, ln_cl, ln_da, ln_rec, ln_sl, ln_rc, ln_let, ln_eq, ln_in, ln_if, ln_then, ln_else, ln_print, ln_semi, ln_sp, ln_put] at *); omega)⟩
        · exact ⟨hok.2, by omega, (by (try rw [sizeLine_eq]); (try simp only [strLen_append, ln_lp, ln_rp, ln_cm, ln_ar, ln_box, ln_fun, ln_cl, ln_da, ln_rec, ln_sl, ln_rc, ln_let, ln_eq, ln_in, ln_if, ln_then, ln_else, ln_print, ln_semi, ln_sp, ln_put] at *); omega)⟩
      | call x y =>
        obtain ⟨a, w1, w2, rfl, ea, h1, h2⟩ := Has.inv3 hv
        have eh : (Ex.call x y).h = 1 + max x.h y.h := rfl
        have i1 : x.h ≤ max x.h y.h := Nat.le_max_left _ _
        have i2 : y.h ≤ max x.h y.h := Nat.le_max_right _ _
        have es : (Ex.call x y).show = x.showA ++ " " ++ y.showA := rfl
        rw [es] at hl
        refine ⟨a, [w1, w2], rfl, ea, by simp, by simp, ⟨h1, h2, True.intro⟩, fun e' he => ?_⟩
        simp [opParts] at he
        rcases he with rfl | rfl
        · exact ⟨hok.1, by omega, (by (try rw [sizeLine_eq]); (try simp only [strLen_append, ln_lp, ln_rp, ln_cm, ln_ar, ln_box, ln_fun, ln_cl, ln_da, ln_rec, ln_sl, ln_rc, ln_let, ln_eq, ln_in, ln_if, ln_then, ln_else, ln_print, ln_semi, ln_sp, ln_put] at *); omega)⟩
        · exact ⟨hok.2, by omega, (by (try rw [sizeLine_eq]); (try simp only [strLen_append, ln_lp, ln_rp, ln_cm, ln_ar, ln_box, ln_fun, ln_cl, ln_da, ln_rec, ln_sl, ln_rc, ln_let, ln_eq, ln_in, ln_if, ln_then, ln_else, ln_print, ln_semi, ln_sp, ln_put] at *); omega)⟩
      | _ => exact absurd hk (by intro z; cases z)
    have hro := hrest.length
    refine ⟨_, (pss_cons (ps_set (i := 1) sc_m_show_atoms.nd rfl (Or.inl rfl) (pe_ix ix_tup (pv 0) pe_int (fun _ _ => rfl)))
      (pss_cons (ps_setLc (i := 2) (own := [("part", 3)]) (g := gName 3) (by rfl) sc_m_show_atoms.nd rfl rfl (sw_true rfl rfl rfl (by decide +kernel)) (pi_tup (pe_slice sl_tup (pv 0) (po_some pe_int) po_none)) (blkOk_by (own := [("part", 3)]) (N := ["expression", "kind", "atoms", "part"]) (sc := defScope s_m_show_atoms) (by decide +kernel)) (fun _ _ _ _ _ => pg_name (i := 3) sc_m_show_atoms.nd rfl (Or.inl rfl)) (fun _ _ _ _ _ => (pts_one (pt_val (pe_callB (r := rIsi K) call_isi (by rfl) E.z_isinstance (by decide +kernel) (pa_cons (pv 3) (pa_cons (pe_bltn (v := .ty "tuple") (by rfl) E.z_tuple (by decide +kernel) rfl) pa_nil)))))) (fun _ _ _ _ _ => (pe_call g_m_show_atom h_m_show_atom rfl E.G_m_show_atom E.F_m_show_atom.kp E.B_m_show_atom .nil pass0 (pa_cons (pv 3) pa_nil))))
      (pss_cons (ps_if (pt_cmpR op_eq (pv 1) pe_str (nomark _)) (pss_one (ps_ret (pe_op op_add_str (pe_op op_add_str (pe_op op_add_str (pe_op op_add_str (pe_ix ix_list (pv 2) pe_int (fun _ _ => rfl)) pe_str) (pe_ix ix_tup (pv 0) pe_int (fun _ _ => rfl))) pe_str) (pe_ix ix_list (pv 2) pe_int (fun _ _ => rfl))))) pss_nil)
      (pss_cons (ps_if (pt_cmpR op_eq (pv 1) pe_str (nomark _)) (pss_one (ps_ret (pe_op op_add_str (pe_op op_add_str (pe_ix ix_list (pv 2) pe_int (fun _ _ => rfl)) pe_str) (pe_ix ix_list (pv 2) pe_int (fun _ _ => rfl))))) pss_nil)
      (pss_one (ps_ret (pe_op op_add_str (pe_op op_add_str (pv 1) pe_str) (pe_join pe_str (pv 2))))))))), ?_⟩
    refine ⟨_, rfl, a, _, _, _, rfl, rfl, SqT.of ea, atI_nat (j := 0) rfl, ?_⟩
    refine ⟨_, rfl, _, rfl, a, _, rfl, SqT.of ea, ?_, fun p hp => ?_⟩
    · intro z
      have z1 : HT.sIx (xs.length + 1) 0 (some ((1 : Nat) : Int)) = 0 := z.1
      rw [HT.sIx_nat] at z1
      omega
    have ec : cutV (.str e.k :: xs) (some 1) none = xs := by
      show ((V.str e.k :: xs).drop (HT.sIx (xs.length + 1) 0 (some ((1 : Nat) : Int)))).take (xs.length + 1 - HT.sIx (xs.length + 1) 0 (some ((1 : Nat) : Int))) = xs
      rw [HT.sIx_nat, Nat.min_eq_left (by omega), Nat.add_sub_cancel]
      show xs.take xs.length = xs
      exact List.take_length
    rw [ec]
    have s1 := same_new (o := .tup xs) hp
    refine ⟨p, rfl, ⟨_, SqT.of upd_same⟩, fun D hD => ?_⟩
    refine lc_tup (K := K) (a := p) (xs := xs) (fun i H' => Same (upd H p (.tup xs)) H' ∧ H' D = some (.lst (somes ((opParts e).take i)))) ⟨same_new hD, upd_same⟩ (fun i H' _ h => SqT.of (h.1 _ _ upd_same)) ?_ ?_
    · rintro i y H' hi ⟨s2, hD'⟩
      obtain ⟨o, ho, hy⟩ := hrest.get hi
      have hlen : i < (opParts e).length := (List.getElem?_eq_some_iff.mp ho).1
      refine ⟨rfl, ?_⟩
      cases o with
      | none =>
        obtain ⟨x, rfl⟩ := hy
        refine ⟨_, rfl, _, _, _, _, _, rfl, .ty "tuple", .base (.str x), kit_ty (r := false) (by decide +kernel), _, rfl, ?_⟩
        refine iteF ⟨s2, ?_⟩
        rw [somes_step ho]
        show H' D = some (.lst (somes ((opParts e).take i) ++ []))
        rw [List.append_nil]
        exact hD'
      | some e' =>
        obtain ⟨o1, o2, o3⟩ := hos e' (List.mem_of_getElem? ho)
        have hy' : Has H' e'.d y := (Has.keep (Tups.of s1) hy).keep (Tups.of s2)
        obtain ⟨b, ys, rfl, eb⟩ := Ex.has_k hy'
        refine ⟨_, rfl, _, _, _, _, _, rfl, .ty "tuple", .base (.tup eb), kit_ty (r := true) (by decide +kernel), _, rfl, ?_⟩
        refine iteT ?_
        refine ⟨_, rfl, _, e', rfl, hy', o1, rfl, o2, o3, fun H2 s3 => ⟨_, s3 _ _ hD', ?_, ?_, ?_⟩⟩
        · have := somes_len ((opParts e).take i)
          rw [List.length_take] at this
          exact small1000 (by omega)
        · intro b' o' e''
          have nb : b' ≠ D := ne_of_none e'' hD
          rw [upd_ne nb]
          exact s3 _ _ (s2 _ _ e'')
        · rw [upd_same, somes_step ho]
          rfl
    · rintro H' ⟨s2, hD'⟩
      have s12 := s1.trans s2
      rw [hro, List.take_length] at hD'
      have ea' := s12 _ _ ea
      have join1 : ∀ (A : Str), Txt.join " " [A] = A := fun A => by rw [join_eq]; rfl
      have join2 : ∀ (A B : Str), Txt.join " " [A, B] = A ++ " " ++ B := fun A B => by rw [join_eq]; rfl
      cases e with
      | op sg x y =>
        obtain ⟨a', w0, w1, w2, ra, ea2, h0, h1, h2⟩ := Has.inv4 hv
        cases ra
        have h0 := h0.str_inv
        subst h0
        have ea2' := s12 _ _ ea2
        have es : (Ex.op sg x y).show = x.showA ++ " " ++ sg.s ++ " " ++ y.showA := rfl
        rw [es] at hl q
        have hD' : H' D = some (.lst [.str x.showA, .str y.showA]) := hD'
        refine ⟨_, rfl, rfl, _, rfl, dT rfl ?_⟩
        refine ⟨_, rfl, D, _, _, _, rfl, rfl, SqL.of hD', atI_nat (j := 0) rfl, _, _, rfl, rfl, (by (try rw [sizeLine_eq]); (try simp only [strLen_append, ln_lp, ln_rp, ln_cm, ln_ar, ln_box, ln_fun, ln_cl, ln_da, ln_rec, ln_sl, ln_rc, ln_let, ln_eq, ln_in, ln_if, ln_then, ln_else, ln_print, ln_semi, ln_sp, ln_put] at *); omega), _, rfl, a, _, _, _, rfl, rfl, SqT.of ea2', atI_nat (j := 1) rfl, _, _, rfl, rfl, (by (try rw [sizeLine_eq]); (try simp only [strLen_append, ln_lp, ln_rp, ln_cm, ln_ar, ln_box, ln_fun, ln_cl, ln_da, ln_rec, ln_sl, ln_rc, ln_let, ln_eq, ln_in, ln_if, ln_then, ln_else, ln_print, ln_semi, ln_sp, ln_put] at *); omega), _, _, rfl, rfl, (by (try rw [sizeLine_eq]); (try simp only [strLen_append, ln_lp, ln_rp, ln_cm, ln_ar, ln_box, ln_fun, ln_cl, ln_da, ln_rec, ln_sl, ln_rc, ln_let, ln_eq, ln_in, ln_if, ln_then, ln_else, ln_print, ln_semi, ln_sp, ln_put] at *); omega), _, rfl, D, _, _, _, rfl, rfl, SqL.of hD', atI_nat (j := 1) rfl, _, _, rfl, rfl, (by (try rw [sizeLine_eq]); (try simp only [strLen_append, ln_lp, ln_rp, ln_cm, ln_ar, ln_box, ln_fun, ln_cl, ln_da, ln_rec, ln_sl, ln_rc, ln_let, ln_eq, ln_in, ln_if, ln_then, ln_else, ln_print, ln_semi, ln_sp, ln_put] at *); omega), q _ s12⟩
      | call x y =>
        have es : (Ex.call x y).show = x.showA ++ " " ++ y.showA := rfl
        rw [es] at hl q
        have hD' : H' D = some (.lst [.str x.showA, .str y.showA]) := hD'
        have n1 : ¬ (Ex.call x y).k = "op" := by simp only [Ex.k]; decide +kernel
        refine ⟨_, rfl, rfl, _, rfl, dF (vne n1) ⟨_, rfl, rfl, _, rfl, dT rfl ?_⟩⟩
        refine ⟨_, rfl, D, _, _, _, rfl, rfl, SqL.of hD', atI_nat (j := 0) rfl, _, _, rfl, rfl, (by (try rw [sizeLine_eq]); (try simp only [strLen_append, ln_lp, ln_rp, ln_cm, ln_ar, ln_box, ln_fun, ln_cl, ln_da, ln_rec, ln_sl, ln_rc, ln_let, ln_eq, ln_in, ln_if, ln_then, ln_else, ln_print, ln_semi, ln_sp, ln_put] at *); omega), _, rfl, D, _, _, _, rfl, rfl, SqL.of hD', atI_nat (j := 1) rfl, _, _, rfl, rfl, (by (try rw [sizeLine_eq]); (try simp only [strLen_append, ln_lp, ln_rp, ln_cm, ln_ar, ln_box, ln_fun, ln_cl, ln_da, ln_rec, ln_sl, ln_rc, ln_let, ln_eq, ln_in, ln_if, ln_then, ln_else, ln_print, ln_semi, ln_sp, ln_put] at *); omega), q _ s12⟩
      | put x y =>
        have es : (Ex.put x y).show = "put" ++ " " ++ (x.showA ++ " " ++ y.showA) := rfl
        rw [es] at hl q
        have hD' : H' D = some (.lst ([x.showA, y.showA].map V.str)) := hD'
        have n1 : ¬ (Ex.put x y).k = "op" := by simp only [Ex.k]; decide +kernel
        have n2 : ¬ (Ex.put x y).k = "call" := by simp only [Ex.k]; decide +kernel
        refine ⟨_, rfl, rfl, _, rfl, dF (vne n1) ⟨_, rfl, rfl, _, rfl, dF (vne n2) ?_⟩⟩
        refine ⟨.str "put", rfl, "put", _, rfl, rfl, (by (try rw [sizeLine_eq]); (try simp only [strLen_append, ln_lp, ln_rp, ln_cm, ln_ar, ln_box, ln_fun, ln_cl, ln_da, ln_rec, ln_sl, ln_rc, ln_let, ln_eq, ln_in, ln_if, ln_then, ln_else, ln_print, ln_semi, ln_sp, ln_put] at *); omega), ⟨_, rfl⟩, _, rfl, _, D, [x.showA, y.showA], rfl, rfl, .inl (SqL.of hD'), ?_, ?_⟩
        · simp only [List.map_cons, List.map_nil, List.sum_cons, List.sum_nil, List.length_cons, List.length_nil]
          exact (by (try rw [sizeLine_eq]); (try simp only [strLen_append, ln_lp, ln_rp, ln_cm, ln_ar, ln_box, ln_fun, ln_cl, ln_da, ln_rec, ln_sl, ln_rc, ln_let, ln_eq, ln_in, ln_if, ln_then, ln_else, ln_print, ln_semi, ln_sp, ln_put] at *); omega)
        · rw [join2]
          exact ⟨_, _, rfl, rfl, (by (try rw [sizeLine_eq]); (try simp only [strLen_append, ln_lp, ln_rp, ln_cm, ln_ar, ln_box, ln_fun, ln_cl, ln_da, ln_rec, ln_sl, ln_rc, ln_let, ln_eq, ln_in, ln_if, ln_then, ln_else, ln_print, ln_semi, ln_sp, ln_put] at *); omega), q _ s12⟩
      | un kk x =>
        have es : (Ex.un kk x).show = kk.s ++ " " ++ x.showA := rfl
        rw [es] at hl q
        have hD' : H' D = some (.lst ([x.showA].map V.str)) := hD'
        have n1 : ¬ kk.s = "op" := by cases kk <;> simp only [Un.s] <;> decide +kernel
        have n2 : ¬ kk.s = "call" := by cases kk <;> simp only [Un.s] <;> decide +kernel
        refine ⟨_, rfl, rfl, _, rfl, dF (vne n1) ⟨_, rfl, rfl, _, rfl, dF (vne n2) ?_⟩⟩
        refine ⟨.str kk.s, rfl, kk.s, _, rfl, rfl, (by (try rw [sizeLine_eq]); (try simp only [strLen_append, ln_lp, ln_rp, ln_cm, ln_ar, ln_box, ln_fun, ln_cl, ln_da, ln_rec, ln_sl, ln_rc, ln_let, ln_eq, ln_in, ln_if, ln_then, ln_else, ln_print, ln_semi, ln_sp, ln_put] at *); omega), ⟨_, rfl⟩, _, rfl, _, D, [x.showA], rfl, rfl, .inl (SqL.of hD'), ?_, ?_⟩
        · simp only [List.map_cons, List.map_nil, List.sum_cons, List.sum_nil, List.length_cons, List.length_nil]
          exact (by (try rw [sizeLine_eq]); (try simp only [strLen_append, ln_lp, ln_rp, ln_cm, ln_ar, ln_box, ln_fun, ln_cl, ln_da, ln_rec, ln_sl, ln_rc, ln_let, ln_eq, ln_in, ln_if, ln_then, ln_else, ln_print, ln_semi, ln_sp, ln_put] at *); omega)
        · rw [join1]
          exact ⟨_, _, rfl, rfl, (by (try rw [sizeLine_eq]); (try simp only [strLen_append, ln_lp, ln_rp, ln_cm, ln_ar, ln_box, ln_fun, ln_cl, ln_da, ln_rec, ln_sl, ln_rc, ln_let, ln_eq, ln_in, ln_if, ln_then, ln_else, ln_print, ln_semi, ln_sp, ln_put] at *); omega), q _ s12⟩
      | _ => exact absurd hk (by intro z; cases z)
end
end HN
/-! W4: show, and the writer's induction. -/
namespace HN
open PySem TL L2
section
variable {P : Program} {w : World} {K : PySem.W.Frag} {mg : Str → Option Value} {base : Heap}
theorem ok_show (E : Env K mg) {n : Nat} (g_m_show : OkS P w K mg base n E.a_m_show E.d_m_show (spShow n)) (g_m_show_atom : OkS P w K mg base n E.a_m_show_atom E.d_m_show_atom (spShowA n)) (g_m_show_leaf : OkS P w K mg base n E.a_m_show_leaf E.d_m_show_leaf (spLeaf n))
    (g_m_show_binder : OkS P w K mg base n E.a_m_show_binder E.d_m_show_binder (spBind n)) (g_m_show_atoms : OkS P w K mg base n E.a_m_show_atoms E.d_m_show_atoms (spAts n)) : OkS P w K mg base (n + 1) E.a_m_show E.d_m_show (spShow (n + 1)) := by
  refine E.F_m_show.ok sc_m_show (fun vs H Q E' h => ?_) (fun cdv A outer s H vs Q E' hr h => ?_)
  · obtain ⟨v, t, rfl, _⟩ := h
    rfl
  · obtain ⟨v, e, rfl, hv, hok, _, hn, hl, q⟩ := h
    have h_m_show : Room n _ := hr
    have h_m_show_atom : Room n _ := hr
    have h_m_show_leaf : Room n _ := hr
    have h_m_show_binder : Room n _ := hr
    have h_m_show_atoms : Room n _ := hr
    have g_m_show_type := (showT_all (P := P) (w := w) (base := base) E n).1
    have h_m_show_type : Room n _ := hr
    refine ⟨_, (pss_cons (ps_set (i := 1) sc_m_show.nd rfl (Or.inl rfl) (pe_ix ix_tup (pv 0) pe_int (fun _ _ => rfl)))
      (pss_cons (ps_if (pt_cmpR op_in_seq (pv 1) (pe_tup (pa_cons pe_str (pa_cons pe_str (pa_cons pe_str (pa_cons pe_str pa_nil))))) (by rfl)) (pss_one (ps_ret (pe_call g_m_show_leaf h_m_show_leaf rfl E.G_m_show_leaf E.F_m_show_leaf.kp E.B_m_show_leaf .nil pass0 (pa_cons (pv 0) pa_nil)))) pss_nil)
      (pss_cons (ps_if (pt_cmpR op_in_seq (pv 1) (pe_tup (pa_cons pe_str (pa_cons pe_str pa_nil))) (by rfl)) (pss_one (ps_ret (pe_call g_m_show_binder h_m_show_binder rfl E.G_m_show_binder E.F_m_show_binder.kp E.B_m_show_binder .nil pass0 (pa_cons (pv 0) pa_nil)))) pss_nil)
      (pss_cons (ps_if (pt_cmpR op_eq (pv 1) pe_str (nomark _)) (pss_one (ps_ret (pe_op op_add_str (pe_op op_add_str (pe_op op_add_str (pe_op op_add_str (pe_op op_add_str pe_str (pe_ix ix_tup (pv 0) pe_int (fun _ _ => rfl))) pe_str) (pe_call g_m_show h_m_show rfl E.G_m_show E.F_m_show.kp E.B_m_show .nil pass0 (pa_cons (pe_ix ix_tup (pv 0) pe_int (fun _ _ => rfl)) pa_nil))) pe_str) (pe_call g_m_show h_m_show rfl E.G_m_show E.F_m_show.kp E.B_m_show .nil pass0 (pa_cons (pe_ix ix_tup (pv 0) pe_int (fun _ _ => rfl)) pa_nil))))) pss_nil)
      (pss_cons (ps_if (pt_cmpR op_eq (pv 1) pe_str (nomark _)) (pss_cons (ps_setLc (i := 2) (own := [("part", 3)]) (g := gName 3) (tt := tYes) (by rfl) sc_m_show.nd rfl rfl (sw_true rfl rfl rfl (by decide +kernel)) (pi_tup (pe_slice sl_tup (pv 0) (po_some pe_int) po_none)) (blkOk_by (own := [("part", 3)]) (N := ["expression", "kind", "parts", "part"]) (sc := defScope s_m_show) (by decide +kernel)) (fun _ _ _ _ _ => pg_name (i := 3) sc_m_show.nd rfl (Or.inl rfl)) (fun _ _ _ _ _ => pts_nil) (fun _ _ _ _ _ => (pe_call g_m_show h_m_show rfl E.G_m_show E.F_m_show.kp E.B_m_show .nil pass0 (pa_cons (pv 3) pa_nil))))
      (pss_one (ps_ret (pe_op op_add_str (pe_op op_add_str (pe_op op_add_str (pe_op op_add_str (pe_op op_add_str pe_str (pe_ix ix_list (pv 2) pe_int (fun _ _ => rfl))) pe_str) (pe_ix ix_list (pv 2) pe_int (fun _ _ => rfl))) pe_str) (pe_ix ix_list (pv 2) pe_int (fun _ _ => rfl)))))) pss_nil)
      (pss_cons (ps_if (pt_cmpR op_eq (pv 1) pe_str (nomark _)) (pss_one (ps_ret (pe_op op_add_str (pe_op op_add_str (pe_op op_add_str pe_str (pe_call g_m_show_atom h_m_show_atom rfl E.G_m_show_atom E.F_m_show_atom.kp E.B_m_show_atom .nil pass0 (pa_cons (pe_ix ix_tup (pv 0) pe_int (fun _ _ => rfl)) pa_nil))) pe_str) (pe_call g_m_show h_m_show rfl E.G_m_show E.F_m_show.kp E.B_m_show .nil pass0 (pa_cons (pe_ix ix_tup (pv 0) pe_int (fun _ _ => rfl)) pa_nil))))) pss_nil)
      (pss_cons (ps_if (pt_cmpR op_eq (pv 1) pe_str (nomark _)) (pss_one (ps_ret (pe_op op_add_str (pe_op op_add_str (pe_op op_add_str (pe_op op_add_str pe_str (pe_call g_m_show h_m_show rfl E.G_m_show E.F_m_show.kp E.B_m_show .nil pass0 (pa_cons (pe_ix ix_tup (pv 0) pe_int (fun _ _ => rfl)) pa_nil))) pe_str) (pe_call g_m_show h_m_show rfl E.G_m_show E.F_m_show.kp E.B_m_show .nil pass0 (pa_cons (pe_ix ix_tup (pv 0) pe_int (fun _ _ => rfl)) pa_nil))) pe_str))) pss_nil)
      (pss_cons (ps_if (pt_cmpR op_eq (pv 1) pe_str (nomark _)) (pss_one (ps_ret (pe_op op_add_str (pe_op op_add_str (pe_op op_add_str (pe_op op_add_str pe_str (pe_call g_m_show h_m_show rfl E.G_m_show E.F_m_show.kp E.B_m_show .nil pass0 (pa_cons (pe_ix ix_tup (pv 0) pe_int (fun _ _ => rfl)) pa_nil))) pe_str) (pe_call g_m_show_type h_m_show_type rfl E.G_m_show_type E.F_m_show_type.kp E.B_m_show_type .nil pass0 (pa_cons (pe_ix ix_tup (pv 0) pe_int (fun _ _ => rfl)) pa_nil))) pe_str))) pss_nil)
      (pss_one (ps_ret (pe_call g_m_show_atoms h_m_show_atoms rfl E.G_m_show_atoms E.F_m_show_atoms.kp E.B_m_show_atoms .nil pass0 (pa_cons (pv 0) pa_nil)))))))))))), ?_⟩
    obtain ⟨a, xs, rfl, ea⟩ := Ex.has_k hv
    refine ⟨_, rfl, a, _, _, _, rfl, rfl, SqT.of ea, atI_nat (j := 0) rfl, ?_⟩
    refine ⟨_, rfl, (by show 4 ≤ sizeLine; decide), fun b1 hb1 => ⟨b1, _, rfl, .inr (SqT.of upd_same), rfl, rfl, _, rfl, ?_⟩⟩
    have s1 := same_new (o := .tup l4) hb1
    cases hlf : isLeaf e with
    | true =>
      refine bT ((k_leaf e).trans hlf) ?_
      exact ⟨_, rfl, _, e, rfl, hv.keep (Tups.of s1), hok, hlf, (by omega), hl, fun H2 s2 => q _ (s1.trans s2)⟩
    | false =>
      refine bF ((k_leaf e).trans hlf) ?_
      refine ⟨_, rfl, (by show 2 ≤ sizeLine; decide), fun b2 hb2 => ⟨b2, _, rfl, .inr (SqT.of upd_same), rfl, rfl, _, rfl, ?_⟩⟩
      have s2 := s1.trans (same_new (o := .tup l2) hb2)
      cases hbd : (isFun e || isRec e) with
      | true =>
        refine bT ((k_bind e).trans hbd) ?_
        exact ⟨_, rfl, _, e, rfl, hv.keep (Tups.of s2), hok, hbd, (by omega), hl, fun H3 s3 => q _ (s2.trans s3)⟩
      | false =>
        refine bF ((k_bind e).trans hbd) ?_
        cases hop : isOps e with
        | true =>
          obtain ⟨n1, n2, n3, n4, n5⟩ := k_ops hop
          refine ⟨_, rfl, rfl, _, rfl, dF (vne n1) ⟨_, rfl, rfl, _, rfl, dF (vne n2) ⟨_, rfl, rfl, _, rfl, dF (vne n3) ⟨_, rfl, rfl, _, rfl, dF (vne n4) ⟨_, rfl, rfl, _, rfl, dF (vne n5) ?_⟩⟩⟩⟩⟩
          exact ⟨_, rfl, _, e, rfl, hv.keep (Tups.of s2), hok, hop, (by omega), hl, fun H3 s3 => q _ (s2.trans s3)⟩
        | false =>
          have hv2 := hv.keep (Tups.of s2)
          have ea2 := s2 _ _ ea
          cases e with
          | letx y c d =>
            obtain ⟨a', w0, w1, w2, ra, ea', h0, h1, h2⟩ := Has.inv4 hv2
            cases ra
            have h0 := h0.str_inv
            subst h0
            have eh : (Ex.letx y c d).h = 1 + max c.h d.h := rfl
            have i1 : c.h ≤ max c.h d.h := Nat.le_max_left _ _
            have i2 : d.h ≤ max c.h d.h := Nat.le_max_right _ _
            have es : (Ex.letx y c d).show = "let " ++ y ++ " = " ++ c.show ++ " in " ++ d.show := rfl
            rw [es] at hl q
            refine ⟨_, rfl, rfl, _, rfl, dT rfl ?_⟩
            refine ⟨_, rfl, a, _, _, _, rfl, rfl, SqT.of ea', atI_nat (j := 1) rfl, _, _, rfl, rfl, (by (try rw [sizeLine_eq]); (try simp only [strLen_append, ln_lp, ln_rp, ln_cm, ln_ar, ln_box, ln_fun, ln_cl, ln_da, ln_rec, ln_sl, ln_rc, ln_let, ln_eq, ln_in, ln_if, ln_then, ln_else, ln_print, ln_semi, ln_sp, ln_put] at *); omega), _, _, rfl, rfl, (by (try rw [sizeLine_eq]); (try simp only [strLen_append, ln_lp, ln_rp, ln_cm, ln_ar, ln_box, ln_fun, ln_cl, ln_da, ln_rec, ln_sl, ln_rc, ln_let, ln_eq, ln_in, ln_if, ln_then, ln_else, ln_print, ln_semi, ln_sp, ln_put] at *); omega), _, rfl, a, _, _, _, rfl, rfl, SqT.of ea', atI_nat (j := 2) rfl, w1, c, rfl, h1, hok.2.1, rfl, (by omega), (by (try rw [sizeLine_eq]); (try simp only [strLen_append, ln_lp, ln_rp, ln_cm, ln_ar, ln_box, ln_fun, ln_cl, ln_da, ln_rec, ln_sl, ln_rc, ln_let, ln_eq, ln_in, ln_if, ln_then, ln_else, ln_print, ln_semi, ln_sp, ln_put] at *); omega), fun H3 s3 => ?_⟩
            refine ⟨_, _, rfl, rfl, (by (try rw [sizeLine_eq]); (try simp only [strLen_append, ln_lp, ln_rp, ln_cm, ln_ar, ln_box, ln_fun, ln_cl, ln_da, ln_rec, ln_sl, ln_rc, ln_let, ln_eq, ln_in, ln_if, ln_then, ln_else, ln_print, ln_semi, ln_sp, ln_put] at *); omega), _, _, rfl, rfl, (by (try rw [sizeLine_eq]); (try simp only [strLen_append, ln_lp, ln_rp, ln_cm, ln_ar, ln_box, ln_fun, ln_cl, ln_da, ln_rec, ln_sl, ln_rc, ln_let, ln_eq, ln_in, ln_if, ln_then, ln_else, ln_print, ln_semi, ln_sp, ln_put] at *); omega), _, rfl, a, _, _, _, rfl, rfl, SqT.of (s3 _ _ ea'), atI_nat (j := 3) rfl, w2, d, rfl, h2.keep (Tups.of s3), hok.2.2, rfl, (by omega), (by (try rw [sizeLine_eq]); (try simp only [strLen_append, ln_lp, ln_rp, ln_cm, ln_ar, ln_box, ln_fun, ln_cl, ln_da, ln_rec, ln_sl, ln_rc, ln_let, ln_eq, ln_in, ln_if, ln_then, ln_else, ln_print, ln_semi, ln_sp, ln_put] at *); omega), fun H4 s4 => ?_⟩
            exact ⟨_, _, rfl, rfl, (by (try rw [sizeLine_eq]); (try simp only [strLen_append, ln_lp, ln_rp, ln_cm, ln_ar, ln_box, ln_fun, ln_cl, ln_da, ln_rec, ln_sl, ln_rc, ln_let, ln_eq, ln_in, ln_if, ln_then, ln_else, ln_print, ln_semi, ln_sp, ln_put] at *); omega), q _ (s2.trans (s3.trans s4))⟩
          | print c d =>
            obtain ⟨a', w1, w2, ra, ea', h1, h2⟩ := Has.inv3 hv2
            cases ra
            have eh : (Ex.print c d).h = 1 + max c.h d.h := rfl
            have i1 : c.h ≤ max c.h d.h := Nat.le_max_left _ _
            have i2 : d.h ≤ max c.h d.h := Nat.le_max_right _ _
            have es : (Ex.print c d).show = "print " ++ c.showA ++ " ; " ++ d.show := rfl
            have n1 : ¬ (Ex.print c d).k = "let" := by simp only [Ex.k]; decide +kernel
            have n2 : ¬ (Ex.print c d).k = "if" := by simp only [Ex.k]; decide +kernel
            rw [es] at hl q
            refine ⟨_, rfl, rfl, _, rfl, dF (vne n1) ⟨_, rfl, rfl, _, rfl, dF (vne n2) ⟨_, rfl, rfl, _, rfl, dT rfl ?_⟩⟩⟩
            refine ⟨_, rfl, a, _, _, _, rfl, rfl, SqT.of ea', atI_nat (j := 1) rfl, w1, c, rfl, h1, hok.1, rfl, (by omega), (by (try rw [sizeLine_eq]); (try simp only [strLen_append, ln_lp, ln_rp, ln_cm, ln_ar, ln_box, ln_fun, ln_cl, ln_da, ln_rec, ln_sl, ln_rc, ln_let, ln_eq, ln_in, ln_if, ln_then, ln_else, ln_print, ln_semi, ln_sp, ln_put] at *); omega), fun H3 s3 => ?_⟩
            refine ⟨_, _, rfl, rfl, (by (try rw [sizeLine_eq]); (try simp only [strLen_append, ln_lp, ln_rp, ln_cm, ln_ar, ln_box, ln_fun, ln_cl, ln_da, ln_rec, ln_sl, ln_rc, ln_let, ln_eq, ln_in, ln_if, ln_then, ln_else, ln_print, ln_semi, ln_sp, ln_put] at *); omega), _, _, rfl, rfl, (by (try rw [sizeLine_eq]); (try simp only [strLen_append, ln_lp, ln_rp, ln_cm, ln_ar, ln_box, ln_fun, ln_cl, ln_da, ln_rec, ln_sl, ln_rc, ln_let, ln_eq, ln_in, ln_if, ln_then, ln_else, ln_print, ln_semi, ln_sp, ln_put] at *); omega), _, rfl, a, _, _, _, rfl, rfl, SqT.of (s3 _ _ ea'), atI_nat (j := 2) rfl, w2, d, rfl, h2.keep (Tups.of s3), hok.2, rfl, (by omega), (by (try rw [sizeLine_eq]); (try simp only [strLen_append, ln_lp, ln_rp, ln_cm, ln_ar, ln_box, ln_fun, ln_cl, ln_da, ln_rec, ln_sl, ln_rc, ln_let, ln_eq, ln_in, ln_if, ln_then, ln_else, ln_print, ln_semi, ln_sp, ln_put] at *); omega), fun H4 s4 => ?_⟩
            exact ⟨_, _, rfl, rfl, (by (try rw [sizeLine_eq]); (try simp only [strLen_append, ln_lp, ln_rp, ln_cm, ln_ar, ln_box, ln_fun, ln_cl, ln_da, ln_rec, ln_sl, ln_rc, ln_let, ln_eq, ln_in, ln_if, ln_then, ln_else, ln_print, ln_semi, ln_sp, ln_put] at *); omega), q _ (s2.trans (s3.trans s4))⟩
          | pair c d =>
            obtain ⟨a', w1, w2, ra, ea', h1, h2⟩ := Has.inv3 hv2
            cases ra
            have eh : (Ex.pair c d).h = 1 + max c.h d.h := rfl
            have i1 : c.h ≤ max c.h d.h := Nat.le_max_left _ _
            have i2 : d.h ≤ max c.h d.h := Nat.le_max_right _ _
            have es : (Ex.pair c d).show = "(" ++ c.show ++ ", " ++ d.show ++ ")" := rfl
            have n1 : ¬ (Ex.pair c d).k = "let" := by simp only [Ex.k]; decide +kernel
            have n2 : ¬ (Ex.pair c d).k = "if" := by simp only [Ex.k]; decide +kernel
            have n3 : ¬ (Ex.pair c d).k = "print" := by simp only [Ex.k]; decide +kernel
            rw [es] at hl q
            refine ⟨_, rfl, rfl, _, rfl, dF (vne n1) ⟨_, rfl, rfl, _, rfl, dF (vne n2) ⟨_, rfl, rfl, _, rfl, dF (vne n3) ⟨_, rfl, rfl, _, rfl, dT rfl ?_⟩⟩⟩⟩
            refine ⟨_, rfl, a, _, _, _, rfl, rfl, SqT.of ea', atI_nat (j := 1) rfl, w1, c, rfl, h1, hok.1, rfl, (by omega), (by (try rw [sizeLine_eq]); (try simp only [strLen_append, ln_lp, ln_rp, ln_cm, ln_ar, ln_box, ln_fun, ln_cl, ln_da, ln_rec, ln_sl, ln_rc, ln_let, ln_eq, ln_in, ln_if, ln_then, ln_else, ln_print, ln_semi, ln_sp, ln_put] at *); omega), fun H3 s3 => ?_⟩
            refine ⟨_, _, rfl, rfl, (by (try rw [sizeLine_eq]); (try simp only [strLen_append, ln_lp, ln_rp, ln_cm, ln_ar, ln_box, ln_fun, ln_cl, ln_da, ln_rec, ln_sl, ln_rc, ln_let, ln_eq, ln_in, ln_if, ln_then, ln_else, ln_print, ln_semi, ln_sp, ln_put] at *); omega), _, _, rfl, rfl, (by (try rw [sizeLine_eq]); (try simp only [strLen_append, ln_lp, ln_rp, ln_cm, ln_ar, ln_box, ln_fun, ln_cl, ln_da, ln_rec, ln_sl, ln_rc, ln_let, ln_eq, ln_in, ln_if, ln_then, ln_else, ln_print, ln_semi, ln_sp, ln_put] at *); omega), _, rfl, a, _, _, _, rfl, rfl, SqT.of (s3 _ _ ea'), atI_nat (j := 2) rfl, w2, d, rfl, h2.keep (Tups.of s3), hok.2, rfl, (by omega), (by (try rw [sizeLine_eq]); (try simp only [strLen_append, ln_lp, ln_rp, ln_cm, ln_ar, ln_box, ln_fun, ln_cl, ln_da, ln_rec, ln_sl, ln_rc, ln_let, ln_eq, ln_in, ln_if, ln_then, ln_else, ln_print, ln_semi, ln_sp, ln_put] at *); omega), fun H4 s4 => ?_⟩
            exact ⟨_, _, rfl, rfl, (by (try rw [sizeLine_eq]); (try simp only [strLen_append, ln_lp, ln_rp, ln_cm, ln_ar, ln_box, ln_fun, ln_cl, ln_da, ln_rec, ln_sl, ln_rc, ln_let, ln_eq, ln_in, ln_if, ln_then, ln_else, ln_print, ln_semi, ln_sp, ln_put] at *); omega), _, _, rfl, rfl, (by (try rw [sizeLine_eq]); (try simp only [strLen_append, ln_lp, ln_rp, ln_cm, ln_ar, ln_box, ln_fun, ln_cl, ln_da, ln_rec, ln_sl, ln_rc, ln_let, ln_eq, ln_in, ln_if, ln_then, ln_else, ln_print, ln_semi, ln_sp, ln_put] at *); omega), q _ (s2.trans (s3.trans s4))⟩
          | asT c d =>
            obtain ⟨a', w1, w2, ra, ea', h1, h2⟩ := Has.inv3 hv2
            cases ra
            have eh : (Ex.asT c d).h = 1 + max c.h d.h := rfl
            have i1 : c.h ≤ max c.h d.h := Nat.le_max_left _ _
            have i2 : d.h ≤ max c.h d.h := Nat.le_max_right _ _
            have es : (Ex.asT c d).show = "(" ++ c.show ++ " : " ++ d.show ++ ")" := rfl
            have n1 : ¬ (Ex.asT c d).k = "let" := by simp only [Ex.k]; decide +kernel
            have n2 : ¬ (Ex.asT c d).k = "if" := by simp only [Ex.k]; decide +kernel
            have n3 : ¬ (Ex.asT c d).k = "print" := by simp only [Ex.k]; decide +kernel
            have n4 : ¬ (Ex.asT c d).k = "pair" := by simp only [Ex.k]; decide +kernel
            rw [es] at hl q
            refine ⟨_, rfl, rfl, _, rfl, dF (vne n1) ⟨_, rfl, rfl, _, rfl, dF (vne n2) ⟨_, rfl, rfl, _, rfl, dF (vne n3) ⟨_, rfl, rfl, _, rfl, dF (vne n4) ⟨_, rfl, rfl, _, rfl, dT rfl ?_⟩⟩⟩⟩⟩
            refine ⟨_, rfl, a, _, _, _, rfl, rfl, SqT.of ea', atI_nat (j := 1) rfl, w1, c, rfl, h1, hok, rfl, (by omega), (by (try rw [sizeLine_eq]); (try simp only [strLen_append, ln_lp, ln_rp, ln_cm, ln_ar, ln_box, ln_fun, ln_cl, ln_da, ln_rec, ln_sl, ln_rc, ln_let, ln_eq, ln_in, ln_if, ln_then, ln_else, ln_print, ln_semi, ln_sp, ln_put] at *); omega), fun H3 s3 => ?_⟩
            refine ⟨_, _, rfl, rfl, (by (try rw [sizeLine_eq]); (try simp only [strLen_append, ln_lp, ln_rp, ln_cm, ln_ar, ln_box, ln_fun, ln_cl, ln_da, ln_rec, ln_sl, ln_rc, ln_let, ln_eq, ln_in, ln_if, ln_then, ln_else, ln_print, ln_semi, ln_sp, ln_put] at *); omega), _, _, rfl, rfl, (by (try rw [sizeLine_eq]); (try simp only [strLen_append, ln_lp, ln_rp, ln_cm, ln_ar, ln_box, ln_fun, ln_cl, ln_da, ln_rec, ln_sl, ln_rc, ln_let, ln_eq, ln_in, ln_if, ln_then, ln_else, ln_print, ln_semi, ln_sp, ln_put] at *); omega), _, rfl, a, _, _, _, rfl, rfl, SqT.of (s3 _ _ ea'), atI_nat (j := 2) rfl, w2, d, rfl, h2.keep (Tups.of s3), (by omega), (by (try rw [sizeLine_eq]); (try simp only [strLen_append, ln_lp, ln_rp, ln_cm, ln_ar, ln_box, ln_fun, ln_cl, ln_da, ln_rec, ln_sl, ln_rc, ln_let, ln_eq, ln_in, ln_if, ln_then, ln_else, ln_print, ln_semi, ln_sp, ln_put] at *); omega), fun H4 s4 => ?_⟩
            exact ⟨_, _, rfl, rfl, (by (try rw [sizeLine_eq]); (try simp only [strLen_append, ln_lp, ln_rp, ln_cm, ln_ar, ln_box, ln_fun, ln_cl, ln_da, ln_rec, ln_sl, ln_rc, ln_let, ln_eq, ln_in, ln_if, ln_then, ln_else, ln_print, ln_semi, ln_sp, ln_put] at *); omega), _, _, rfl, rfl, (by (try rw [sizeLine_eq]); (try simp only [strLen_append, ln_lp, ln_rp, ln_cm, ln_ar, ln_box, ln_fun, ln_cl, ln_da, ln_rec, ln_sl, ln_rc, ln_let, ln_eq, ln_in, ln_if, ln_then, ln_else, ln_print, ln_semi, ln_sp, ln_put] at *); omega), q _ (s2.trans (s3.trans s4))⟩
          | ite c d f =>
            obtain ⟨a', w1, w2, w3, ra, ea', h1, h2, h3⟩ := Has.inv4 hv2
            cases ra
            have eh : (Ex.ite c d f).h = 1 + max c.h (max d.h f.h) := rfl
            have i1 : c.h ≤ max c.h (max d.h f.h) := Nat.le_max_left _ _
            have i2 : max d.h f.h ≤ max c.h (max d.h f.h) := Nat.le_max_right _ _
            have i3 : d.h ≤ max d.h f.h := Nat.le_max_left _ _
            have i4 : f.h ≤ max d.h f.h := Nat.le_max_right _ _
            have es : (Ex.ite c d f).show = "if " ++ c.show ++ " then " ++ d.show ++ " else " ++ f.show := rfl
            have n1 : ¬ (Ex.ite c d f).k = "let" := by simp only [Ex.k]; decide +kernel
            rw [es] at hl q
            refine ⟨_, rfl, rfl, _, rfl, dF (vne n1) ⟨_, rfl, rfl, _, rfl, dT rfl ?_⟩⟩
            refine ⟨_, rfl, _, rfl, a, _, rfl, SqT.of ea', (by show ¬ (HT.sIx 4 0 (some 1) = 0 ∧ HT.sIx 4 4 none = 4); decide), fun p hp => ?_⟩
            have ec : cutV [.str "if", w1, w2, w3] (some 1) none = [w1, w2, w3] := rfl
            rw [ec]
            have s3 := s2.trans (same_new (o := .tup [w1, w2, w3]) hp)
            have sp := same_new (o := .tup [w1, w2, w3]) hp
            have get : ∀ (i : Nat) (y : V), ([w1, w2, w3] : List V)[i]? = some y → ∃ g : Ex, [c, d, f][i]? = some g ∧ Has (upd (upd H b1 (.tup l4)) b2 (.tup l2)) g.d y ∧ g.ok ∧ 4 * g.h + 4 ≤ n ∧ g.show.length ≤ 1000000 := by
              intro i y hi
              match i, hi with
              | 0, hi => cases hi; exact ⟨c, rfl, h1, hok.1, by omega, (by (try rw [sizeLine_eq]); (try simp only [strLen_append, ln_lp, ln_rp, ln_cm, ln_ar, ln_box, ln_fun, ln_cl, ln_da, ln_rec, ln_sl, ln_rc, ln_let, ln_eq, ln_in, ln_if, ln_then, ln_else, ln_print, ln_semi, ln_sp, ln_put] at *); omega)⟩
              | 1, hi => cases hi; exact ⟨d, rfl, h2, hok.2.1, by omega, (by (try rw [sizeLine_eq]); (try simp only [strLen_append, ln_lp, ln_rp, ln_cm, ln_ar, ln_box, ln_fun, ln_cl, ln_da, ln_rec, ln_sl, ln_rc, ln_let, ln_eq, ln_in, ln_if, ln_then, ln_else, ln_print, ln_semi, ln_sp, ln_put] at *); omega)⟩
              | 2, hi => cases hi; exact ⟨f, rfl, h3, hok.2.2, by omega, (by (try rw [sizeLine_eq]); (try simp only [strLen_append, ln_lp, ln_rp, ln_cm, ln_ar, ln_box, ln_fun, ln_cl, ln_da, ln_rec, ln_sl, ln_rc, ln_let, ln_eq, ln_in, ln_if, ln_then, ln_else, ln_print, ln_semi, ln_sp, ln_put] at *); omega)⟩
              | i + 3, hi => cases hi
            refine ⟨p, rfl, ⟨_, SqT.of upd_same⟩, fun D hD => ?_⟩
            refine lc_tup (K := K) (a := p) (xs := [w1, w2, w3]) (fun i H' => Same (upd (upd (upd H b1 (.tup l4)) b2 (.tup l2)) p (.tup [w1, w2, w3])) H' ∧ H' D = some (.lst (([c, d, f].take i).map (fun g => V.str g.show)))) ⟨same_new hD, upd_same⟩ (fun i H' _ h => SqT.of (h.1 _ _ upd_same)) ?_ ?_
            · rintro i y H' hi ⟨s4, hD'⟩
              obtain ⟨g, hg, hy, o1, o2, o3⟩ := get i y hi
              refine ⟨rfl, ?_⟩
              refine ⟨_, rfl, _, g, rfl, (hy.keep (Tups.of sp)).keep (Tups.of s4), o1, rfl, o2, o3, fun H2 s5 => ⟨_, s5 _ _ hD', ?_, ?_, ?_⟩⟩
              · rw [List.length_map, List.length_take]
                exact small1000 (by simp only [List.length_cons, List.length_nil]; omega)
              · intro b' o' e''
                have nb : b' ≠ D := ne_of_none e'' hD
                rw [upd_ne nb]
                exact s5 _ _ (s4 _ _ e'')
              · rw [upd_same, List.take_add_one, hg, List.map_append]
                rfl
            · rintro H' ⟨s4, hD'⟩
              have hD' : H' D = some (.lst [.str c.show, .str d.show, .str f.show]) := hD'
              refine ⟨_, rfl, D, _, _, _, rfl, rfl, SqL.of hD', atI_nat (j := 0) rfl, _, _, rfl, rfl, (by (try rw [sizeLine_eq]); (try simp only [strLen_append, ln_lp, ln_rp, ln_cm, ln_ar, ln_box, ln_fun, ln_cl, ln_da, ln_rec, ln_sl, ln_rc, ln_let, ln_eq, ln_in, ln_if, ln_then, ln_else, ln_print, ln_semi, ln_sp, ln_put] at *); omega), _, _, rfl, rfl, (by (try rw [sizeLine_eq]); (try simp only [strLen_append, ln_lp, ln_rp, ln_cm, ln_ar, ln_box, ln_fun, ln_cl, ln_da, ln_rec, ln_sl, ln_rc, ln_let, ln_eq, ln_in, ln_if, ln_then, ln_else, ln_print, ln_semi, ln_sp, ln_put] at *); omega), _, rfl, D, _, _, _, rfl, rfl, SqL.of hD', atI_nat (j := 1) rfl, _, _, rfl, rfl, (by (try rw [sizeLine_eq]); (try simp only [strLen_append, ln_lp, ln_rp, ln_cm, ln_ar, ln_box, ln_fun, ln_cl, ln_da, ln_rec, ln_sl, ln_rc, ln_let, ln_eq, ln_in, ln_if, ln_then, ln_else, ln_print, ln_semi, ln_sp, ln_put] at *); omega), _, _, rfl, rfl, (by (try rw [sizeLine_eq]); (try simp only [strLen_append, ln_lp, ln_rp, ln_cm, ln_ar, ln_box, ln_fun, ln_cl, ln_da, ln_rec, ln_sl, ln_rc, ln_let, ln_eq, ln_in, ln_if, ln_then, ln_else, ln_print, ln_semi, ln_sp, ln_put] at *); omega), _, rfl, D, _, _, _, rfl, rfl, SqL.of hD', atI_nat (j := 2) rfl, _, _, rfl, rfl, (by (try rw [sizeLine_eq]); (try simp only [strLen_append, ln_lp, ln_rp, ln_cm, ln_ar, ln_box, ln_fun, ln_cl, ln_da, ln_rec, ln_sl, ln_rc, ln_let, ln_eq, ln_in, ln_if, ln_then, ln_else, ln_print, ln_semi, ln_sp, ln_put] at *); omega), q _ (s3.trans s4)⟩
          | fn y t b => cases hbd
          | recf f y t u b => cases hbd
          | num m => cases hlf
          | flag b => cases hlf
          | unit => cases hlf
          | name y => cases hlf
          | op s x y => cases hop
          | un k x => cases hop
          | put x y => cases hop
          | call x y => cases hop
structure AllShow (P : Program) (w : World) (K : PySem.W.Frag) (mg : Str → Option Value) (base : Heap) (E : Env K mg) (n : Nat) : Prop where
  sh : OkS P w K mg base n E.a_m_show E.d_m_show (spShow n)
  at_ : OkS P w K mg base n E.a_m_show_atom E.d_m_show_atom (spShowA n)
  lf : OkS P w K mg base n E.a_m_show_leaf E.d_m_show_leaf (spLeaf n)
  bd : OkS P w K mg base n E.a_m_show_binder E.d_m_show_binder (spBind n)
  as_ : OkS P w K mg base n E.a_m_show_atoms E.d_m_show_atoms (spAts n)
theorem show_all (E : Env K mg) : ∀ n : Nat, AllShow P w K mg base E n
  | 0 => by
    have no : ∀ (kd : Ex → Bool) (f : Ex → Str) (c : Nat) (a : Addr) (d : FuncData), 1 ≤ c → OkS P w K mg base 0 a d (spSh kd f c 0) := fun kd f c a d hc => by
      have h0 : ∀ vs H Q E', ¬ spSh kd f c 0 vs H Q E' := fun vs H Q E' h => by
        obtain ⟨_, e, _, _, _, _, h1, _⟩ := h
        omega
      exact ⟨fun vs H Q E' h => absurd h (h0 vs H Q E'), fun A outer s H args us vs Q E' _ _ _ _ h => absurd h (h0 vs H Q E')⟩
    exact ⟨no _ _ _ _ _ (by decide), no _ _ _ _ _ (by decide), no _ _ _ _ _ (by decide), no _ _ _ _ _ (by decide), no _ _ _ _ _ (by decide)⟩
  | n + 1 => by
    have A0 := show_all E n
    exact ⟨ok_show E A0.sh A0.at_ A0.lf A0.bd A0.as_, ok_showA E A0.sh, ok_leaf E, ok_binder E A0.sh, ok_atoms E A0.at_⟩
end
end HN
/-! L0: how large what the law draws may be. -/
namespace HN
open PySem TL L2
/-- the height of the expressions alone -/
def Ex.g : Ex → Nat
  | .num _ | .flag _ | .unit | .name _ => 1
  | .fn _ _ e => 1 + e.g
  | .recf _ _ _ _ e => 1 + e.g
  | .letx _ e f | .print e f | .pair e f | .op _ e f | .put e f | .call e f => 1 + max e.g f.g
  | .ite c e f => 1 + max c.g (max e.g f.g)
  | .asT e _ => 1 + e.g
  | .un _ e => 1 + e.g
/-- types of height at most 4, no print -/
def Ex.tb : Ex → Prop
  | .num _ | .flag _ | .unit | .name _ => True
  | .fn _ t e => t.h ≤ 4 ∧ e.tb
  | .recf _ _ t u e => t.h ≤ 4 ∧ u.h ≤ 4 ∧ e.tb
  | .letx _ e f | .pair e f | .op _ e f | .put e f | .call e f => e.tb ∧ f.tb
  | .ite c e f => c.tb ∧ e.tb ∧ f.tb
  | .print _ _ => False
  | .asT e t => t.h ≤ 4 ∧ e.tb
  | .un _ e => e.tb
theorem g_pos (e : Ex) : 1 ≤ e.g := by cases e <;> simp only [Ex.g] <;> omega
theorem h_le : ∀ e : Ex, e.tb → e.h ≤ e.g + 4
  | .num _, _ => by simp [Ex.h, Ex.g]
  | .flag _, _ => by simp [Ex.h, Ex.g]
  | .unit, _ => by simp [Ex.h, Ex.g]
  | .name _, _ => by simp [Ex.h, Ex.g]
  | .fn _ t e, h => by
    have q := h_le e h.2
    have q1 := h.1
    have := g_pos e
    simp only [Ex.h, Ex.g]; omega
  | .recf _ _ t u e, h => by
    have q := h_le e h.2.2
    have q1 := h.1
    have q2 := h.2.1
    have := g_pos e
    simp only [Ex.h, Ex.g]; omega
  | .letx _ e f, h => by
    have q := h_le e h.1
    have q1 := h_le f h.2
    simp only [Ex.h, Ex.g]; omega
  | .pair e f, h => by
    have q := h_le e h.1
    have q1 := h_le f h.2
    simp only [Ex.h, Ex.g]; omega
  | .op _ e f, h => by
    have q := h_le e h.1
    have q1 := h_le f h.2
    simp only [Ex.h, Ex.g]; omega
  | .put e f, h => by
    have q := h_le e h.1
    have q1 := h_le f h.2
    simp only [Ex.h, Ex.g]; omega
  | .call e f, h => by
    have q := h_le e h.1
    have q1 := h_le f h.2
    simp only [Ex.h, Ex.g]; omega
  | .ite c e f, h => by
    have q := h_le c h.1
    have q1 := h_le e h.2.1
    have q2 := h_le f h.2.2
    simp only [Ex.h, Ex.g]; omega
  | .print _ _, h => h.elim
  | .asT e t, h => by
    have q := h_le e h.2
    have q1 := h.1
    have := g_pos e
    simp only [Ex.h, Ex.g]; omega
  | .un _ e, h => by
    have q := h_le e h
    simp only [Ex.h, Ex.g]; omega
/-! ### the texts' lengths -/
theorem two_le (h k : Nat) (q : h ≤ k) : 5 * 2 ^ h ≤ 5 * 2 ^ k := Nat.mul_le_mul_left 5 (Nat.pow_le_pow_right (by decide) q)
theorem showT_len : ∀ t : Ty, t.show.length + 6 ≤ 5 * 2 ^ t.h
  | .int => by have : ("int" : Str).length = 3 := by decide +kernel
               simp only [Ty.show, Ty.h]; omega
  | .bool => by have : ("bool" : Str).length = 4 := by decide +kernel
                simp only [Ty.show, Ty.h]; omega
  | .unit => by have : ("unit" : Str).length = 4 := by decide +kernel
                simp only [Ty.show, Ty.h]; omega
  | .any => by have : ("any" : Str).length = 3 := by decide +kernel
               simp only [Ty.show, Ty.h]; omega
  | .fn a b => by
    have qa := Nat.le_trans (showT_len a) (two_le a.h (max a.h b.h) (Nat.le_max_left _ _))
    have qb := Nat.le_trans (showT_len b) (two_le b.h (max a.h b.h) (Nat.le_max_right _ _))
    have es : (Ty.fn a b).show = a.showS ++ " -> " ++ b.show := rfl
    have eh : (Ty.fn a b).h = 1 + max a.h b.h := rfl
    have ha : a.showS.length ≤ a.show.length + 2 := by
      unfold Ty.showS
      split
      · rw [strLen_append, strLen_append, ln_lp, ln_rp]; omega
      · omega
    rw [es, eh, strLen_append, strLen_append, ln_ar, Nat.pow_add]
    omega
  | .pair a b => by
    have qa := Nat.le_trans (showT_len a) (two_le a.h (max a.h b.h) (Nat.le_max_left _ _))
    have qb := Nat.le_trans (showT_len b) (two_le b.h (max a.h b.h) (Nat.le_max_right _ _))
    have es : (Ty.pair a b).show = "(" ++ a.show ++ ", " ++ b.show ++ ")" := rfl
    have eh : (Ty.pair a b).h = 1 + max a.h b.h := rfl
    rw [es, eh, strLen_append, strLen_append, strLen_append, strLen_append, ln_lp, ln_rp, ln_cm, Nat.pow_add]
    omega
  | .box a => by
    have qa := showT_len a
    have es : (Ty.box a).show = "box " ++ a.showS := rfl
    have eh : (Ty.box a).h = 1 + a.h := rfl
    have ha : a.showS.length ≤ a.show.length + 2 := by
      unfold Ty.showS
      split
      · rw [strLen_append, strLen_append, ln_lp, ln_rp]; omega
      · omega
    rw [es, eh, strLen_append, ln_box, Nat.pow_add]
    omega
theorem showT_74 {t : Ty} (h : t.h ≤ 4) : t.show.length ≤ 74 := by
  have q := Nat.le_trans (showT_len t) (two_le t.h 4 h)
  omega
def lim : Nat → Nat
  | 0 => 20
  | 1 => 20
  | n + 2 => max (3 * lim (n + 1) + 15) (lim (n + 1) + 205)
theorem lim_ge : ∀ d, 20 ≤ lim d
  | 0 => Nat.le_refl _
  | 1 => Nat.le_refl _
  | n + 2 => by
    have := lim_ge (n + 1)
    have e : lim (n + 2) = max (3 * lim (n + 1) + 15) (lim (n + 1) + 205) := rfl
    rw [e]; omega
theorem lim_step (m : Nat) : 3 * lim (m + 1) + 15 ≤ lim (m + 2) ∧ lim (m + 1) + 205 ≤ lim (m + 2) := ⟨Nat.le_max_left _ _, Nat.le_max_right _ _⟩
theorem showA_2 (a : Ex) : a.showA.length ≤ a.show.length + 2 := by
  unfold Ex.showA
  split
  · omega
  · rw [strLen_append, strLen_append, ln_lp, ln_rp]; omega
theorem un_len (k : Un) : k.s.length = 3 := by cases k <;> simp only [Un.s] <;> decide +kernel
theorem op_len (k : Op) : k.s.length ≤ 2 := by cases k <;> simp only [Op.s] <;> decide +kernel
theorem num_len {n : Nat} (h : n < 2147483648) : (Str.ofString (toString ((n : Nat) : Int))).length ≤ 10 := by
  rw [len_tl, tl_num]
  exact numL_len (by decide) (Nat.lt_of_lt_of_le h (by decide))
theorem show_len : ∀ (e : Ex) (d : Nat), e.ok → e.tb → e.g ≤ d → e.show.length ≤ lim d
  | .num n, d, ho, _, _ => Nat.le_trans (num_len ho) (Nat.le_trans (by decide) (lim_ge d))
  | .flag b, d, _, _, _ => by
    have : (Ex.flag b).show.length ≤ 5 := by cases b <;> simp only [Ex.show] <;> decide +kernel
    have := lim_ge d
    omega
  | .unit, d, _, _, _ => by
    have : (Ex.unit).show.length = 4 := by simp only [Ex.show]; decide +kernel
    have := lim_ge d
    omega
  | .name x, d, ho, _, _ => Nat.le_trans (NameOk.len ho) (lim_ge d)
  | .fn x t e, d, ho, ht, hg => by
    have hg : 1 + e.g ≤ d := hg
    have := g_pos e
    obtain ⟨m, rfl⟩ : ∃ m, d = m + 2 := ⟨d - 2, by omega⟩
    have q := show_len e (m + 1) ho.2 ht.2 (by omega)
    have q1 := showT_74 ht.1
    have q2 := ho.1.len
    have q3 := (lim_step m).2
    have es : (Ex.fn x t e).show = "fun " ++ x ++ " : " ++ t.show ++ " => " ++ e.show := rfl
    rw [es]
    simp only [strLen_append, ln_fun, ln_cl, ln_da]
    omega
  | .recf f x t u e, d, ho, ht, hg => by
    have hg : 1 + e.g ≤ d := hg
    have := g_pos e
    obtain ⟨m, rfl⟩ : ∃ m, d = m + 2 := ⟨d - 2, by omega⟩
    have q := show_len e (m + 1) ho.2.2 ht.2.2 (by omega)
    have q1 := showT_74 ht.1
    have q1' := showT_74 ht.2.1
    have q2 := ho.1.len
    have q2' := ho.2.1.len
    have q3 := (lim_step m).2
    have es : (Ex.recf f x t u e).show = "rec " ++ f ++ " (" ++ x ++ " : " ++ t.show ++ ") : " ++ u.show ++ " => " ++ e.show := rfl
    rw [es]
    simp only [strLen_append, ln_rec, ln_sl, ln_cl, ln_rc, ln_da]
    omega
  | .letx x e f, d, ho, ht, hg => by
    have hg : 1 + max e.g f.g ≤ d := hg
    have := g_pos e
    obtain ⟨m, rfl⟩ : ∃ m, d = m + 2 := ⟨d - 2, by omega⟩
    have q := show_len e (m + 1) ho.2.1 ht.1 (by omega)
    have q' := show_len f (m + 1) ho.2.2 ht.2 (by omega)
    have q2 := ho.1.len
    have q3 := lim_step m
    have q4 := lim_ge (m + 1)
    have es : (Ex.letx x e f).show = "let " ++ x ++ " = " ++ e.show ++ " in " ++ f.show := rfl
    rw [es]
    simp only [strLen_append, ln_let, ln_eq, ln_in]
    omega
  | .ite c e f, d, ho, ht, hg => by
    have hg : 1 + max c.g (max e.g f.g) ≤ d := hg
    have := g_pos e
    obtain ⟨m, rfl⟩ : ∃ m, d = m + 2 := ⟨d - 2, by omega⟩
    have q := show_len c (m + 1) ho.1 ht.1 (by omega)
    have q' := show_len e (m + 1) ho.2.1 ht.2.1 (by omega)
    have q'' := show_len f (m + 1) ho.2.2 ht.2.2 (by omega)
    have q3 := lim_step m
    have es : (Ex.ite c e f).show = "if " ++ c.show ++ " then " ++ e.show ++ " else " ++ f.show := rfl
    rw [es]
    simp only [strLen_append, ln_if, ln_then, ln_else]
    omega
  | .print _ _, _, _, ht, _ => ht.elim
  | .pair e f, d, ho, ht, hg => by
    have hg : 1 + max e.g f.g ≤ d := hg
    have := g_pos e
    obtain ⟨m, rfl⟩ : ∃ m, d = m + 2 := ⟨d - 2, by omega⟩
    have q := show_len e (m + 1) ho.1 ht.1 (by omega)
    have q' := show_len f (m + 1) ho.2 ht.2 (by omega)
    have q3 := lim_step m
    have es : (Ex.pair e f).show = "(" ++ e.show ++ ", " ++ f.show ++ ")" := rfl
    rw [es]
    simp only [strLen_append, ln_lp, ln_rp, ln_cm]
    omega
  | .asT e t, d, ho, ht, hg => by
    have hg : 1 + e.g ≤ d := hg
    have := g_pos e
    obtain ⟨m, rfl⟩ : ∃ m, d = m + 2 := ⟨d - 2, by omega⟩
    have q := show_len e (m + 1) ho ht.2 (by omega)
    have q1 := showT_74 ht.1
    have q3 := (lim_step m).2
    have es : (Ex.asT e t).show = "(" ++ e.show ++ " : " ++ t.show ++ ")" := rfl
    rw [es]
    simp only [strLen_append, ln_lp, ln_rp, ln_cl]
    omega
  | .op s e f, d, ho, ht, hg => by
    have hg : 1 + max e.g f.g ≤ d := hg
    have := g_pos e
    obtain ⟨m, rfl⟩ : ∃ m, d = m + 2 := ⟨d - 2, by omega⟩
    have q := show_len e (m + 1) ho.1 ht.1 (by omega)
    have q' := show_len f (m + 1) ho.2 ht.2 (by omega)
    have q3 := lim_step m
    have q4 := op_len s
    have q5 := showA_2 e
    have q6 := showA_2 f
    have es : (Ex.op s e f).show = e.showA ++ " " ++ s.s ++ " " ++ f.showA := rfl
    rw [es]
    simp only [strLen_append, ln_sp]
    omega
  | .un k e, d, ho, ht, hg => by
    have hg : 1 + e.g ≤ d := hg
    have := g_pos e
    obtain ⟨m, rfl⟩ : ∃ m, d = m + 2 := ⟨d - 2, by omega⟩
    have q := show_len e (m + 1) ho ht (by omega)
    have q3 := lim_step m
    have q4 := un_len k
    have q5 := showA_2 e
    have es : (Ex.un k e).show = k.s ++ " " ++ e.showA := rfl
    rw [es]
    simp only [strLen_append, ln_sp]
    omega
  | .put e f, d, ho, ht, hg => by
    have hg : 1 + max e.g f.g ≤ d := hg
    have := g_pos e
    obtain ⟨m, rfl⟩ : ∃ m, d = m + 2 := ⟨d - 2, by omega⟩
    have q := show_len e (m + 1) ho.1 ht.1 (by omega)
    have q' := show_len f (m + 1) ho.2 ht.2 (by omega)
    have q3 := lim_step m
    have q5 := showA_2 e
    have q6 := showA_2 f
    have es : (Ex.put e f).show = "put" ++ " " ++ (e.showA ++ " " ++ f.showA) := rfl
    rw [es]
    simp only [strLen_append, ln_sp, ln_put]
    omega
  | .call e f, d, ho, ht, hg => by
    have hg : 1 + max e.g f.g ≤ d := hg
    have := g_pos e
    obtain ⟨m, rfl⟩ : ∃ m, d = m + 2 := ⟨d - 2, by omega⟩
    have q := show_len e (m + 1) ho.1 ht.1 (by omega)
    have q' := show_len f (m + 1) ho.2 ht.2 (by omega)
    have q3 := lim_step m
    have q5 := showA_2 e
    have q6 := showA_2 f
    have es : (Ex.call e f).show = e.showA ++ " " ++ f.showA := rfl
    rw [es]
    simp only [strLen_append, ln_sp]
    omega
/-- what the law draws: an expression of height at most 4, or one printed ahead of a smaller one -/
def Drawn (e : Ex) : Prop := (e.ok ∧ e.tb ∧ e.g ≤ 4) ∨ ∃ a b, e = .print a b ∧ (a.ok ∧ a.tb ∧ a.g ≤ 4) ∧ (b.ok ∧ b.tb ∧ b.g ≤ 2)
theorem Drawn.ok {e : Ex} (h : Drawn e) : e.ok := by
  rcases h with h | ⟨a, b, rfl, ha, hb⟩
  · exact h.1
  · exact ⟨ha.1, hb.1⟩
theorem Drawn.h {e : Ex} (h : Drawn e) : e.h ≤ 9 := by
  rcases h with h | ⟨a, b, rfl, ha, hb⟩
  · have := h_le e h.2.1
    omega
  · have q1 := h_le a ha.2.1
    have q2 := h_le b hb.2.1
    simp only [Ex.h]
    omega
theorem Drawn.len {e : Ex} (h : Drawn e) : e.show.length ≤ 2400 := by
  have e4 : lim 4 = 2085 := by decide
  have e2 : lim 2 = 225 := by decide
  rcases h with h | ⟨a, b, rfl, ha, hb⟩
  · have := show_len e 4 h.1 h.2.1 h.2.2
    omega
  · have q1 := show_len a 4 ha.1 ha.2.1 ha.2.2
    have q2 := show_len b 2 hb.1 hb.2.1 hb.2.2
    have q5 := showA_2 a
    have es : (Ex.print a b).show = "print " ++ a.showA ++ " ; " ++ b.show := rfl
    rw [es]
    simp only [strLen_append, ln_print, ln_semi]
    omega
end HN
/-! L0b: how long the repr of what the law draws may be. -/
namespace HN
open PySem TL L2 PyProof.Rows
mutual
def cost : PyData → Nat
  | .str x => 10 * x.length + 2
  | .int _ => 20
  | .bool _ => 5
  | .tuple ds => costs ds + 2
  | .none => 0
  | .list _ => 0
  | .dict _ => 0
def costs : List PyData → Nat
  | [] => 0
  | d :: ds => cost d + 2 + costs ds
end
mutual
def fine : PyData → Prop
  | .str x => ∀ c ∈ tl x, c < 4294967296
  | .int i => ∃ n : Nat, i = (n : Int) ∧ n < 2147483648
  | .bool _ => True
  | .tuple ds => fines ds
  | .none => False
  | .list _ => False
  | .dict _ => False
def fines : List PyData → Prop
  | [] => True
  | d :: ds => fine d ∧ fines ds
end
mutual
theorem shown_cost : ∀ d : PyData, fine d → (PyData.shown d).length ≤ cost d
  | .str x, h => by
    unfold PyData.shown cost
    exact StrLaws.reprText_len x h
  | .int i, h => by
    obtain ⟨n, rfl, hn⟩ := h
    unfold PyData.shown cost
    exact Nat.le_trans (num_len hn) (by decide)
  | .bool b, _ => by
    unfold PyData.shown cost
    cases b <;> decide +kernel
  | .tuple ds, h => by
    unfold PyData.shown cost
    have q := piled_cost ds h
    exact Nat.le_trans (fmt_text _) (by omega)
  | .none, h => h.elim
  | .list _, h => h.elim
  | .dict _, h => h.elim
theorem piled_cost : ∀ ds : List PyData, fines ds → piled (PyData.shownAll ds) ≤ costs ds
  | [], _ => by unfold PyData.shownAll costs; exact Nat.le_refl _
  | d :: ds, h => by
    unfold PyData.shownAll costs
    rw [piled_cons]
    have q1 := shown_cost d h.1
    have q2 := piled_cost ds h.2
    omega
end
mutual
theorem showable_of : ∀ d : PyData, fine d → PyData.showable d = true
  | .str x, h => by unfold PyData.showable; rfl
  | .int i, h => by
    obtain ⟨n, rfl, hn⟩ := h
    unfold PyData.showable
    rw [Int.natAbs_natCast]
    have hb : n.log2 < 32 := by
      by_cases hz : n = 0
      · subst hz; decide
      · exact (Nat.log2_lt hz).mpr (Nat.lt_of_lt_of_le hn (by decide))
    exact decide_eq_true (by omega)
  | .bool b, _ => by unfold PyData.showable; rfl
  | .tuple ds, h => by
    unfold PyData.showable
    exact showableAll_of ds h
  | .none, h => h.elim
  | .list _, h => h.elim
  | .dict _, h => h.elim
theorem showableAll_of : ∀ ds : List PyData, fines ds → PyData.showableAll ds = true
  | [], _ => by unfold PyData.showableAll; rfl
  | d :: ds, h => by
    unfold PyData.showableAll
    rw [showable_of d h.1, showableAll_of ds h.2]
    rfl
end
mutual
theorem nodict_of : ∀ d : PyData, fine d → PyData.hasDict d = false
  | .str x, h => by unfold PyData.hasDict; rfl
  | .int i, h => by unfold PyData.hasDict; rfl
  | .bool b, _ => by unfold PyData.hasDict; rfl
  | .tuple ds, h => by
    unfold PyData.hasDict
    exact nodicts_of ds h
  | .none, h => h.elim
  | .list _, h => h.elim
  | .dict _, h => h.elim
theorem nodicts_of : ∀ ds : List PyData, fines ds → PyData.hasDictAll ds = false
  | [], _ => by unfold PyData.hasDictAll; rfl
  | d :: ds, h => by
    unfold PyData.hasDictAll
    rw [nodict_of d h.1, nodicts_of ds h.2]
    rfl
end
/-- a text whose signs are small -/
def low (x : Str) : Prop := ∀ c ∈ tl x, c < 4294967296
def lowB (x : Str) : Bool := (tl x).all (fun c => decide (c < 4294967296))
theorem low_of {x : Str} (h : lowB x = true) : low x := fun c hc => of_decide_eq_true (List.all_eq_true.mp h c hc)
theorem NameOk.low {x : Str} (h : NameOk x) : low x := fun c hc => by
  have q := h.rest c hc
  unfold inner lower digit at q
  omega
theorem Ty.fine : ∀ t : Ty, fine t.d
  | .int => ⟨low_of (by decide +kernel), True.intro⟩
  | .bool => ⟨low_of (by decide +kernel), True.intro⟩
  | .unit => ⟨low_of (by decide +kernel), True.intro⟩
  | .any => ⟨low_of (by decide +kernel), True.intro⟩
  | .fn a b => ⟨low_of (by decide +kernel), Ty.fine a, Ty.fine b, True.intro⟩
  | .pair a b => ⟨low_of (by decide +kernel), Ty.fine a, Ty.fine b, True.intro⟩
  | .box a => ⟨low_of (by decide +kernel), Ty.fine a, True.intro⟩
theorem Op.low (s : Op) : low s.s := low_of (by cases s <;> decide +kernel)
theorem Un.low (s : Un) : low s.s := low_of (by cases s <;> decide +kernel)
theorem Ex.fine : ∀ e : Ex, e.ok → fine e.d
  | .num n, h => ⟨low_of (by decide +kernel), ⟨n, rfl, h⟩, True.intro⟩
  | .flag b, h => ⟨low_of (by decide +kernel), True.intro, True.intro⟩
  | .unit, h => ⟨low_of (by decide +kernel), True.intro⟩
  | .name x, h => ⟨low_of (by decide +kernel), NameOk.low h, True.intro⟩
  | .fn x t e, h => ⟨low_of (by decide +kernel), h.1.low, Ty.fine t, Ex.fine e h.2, True.intro⟩
  | .recf f x t u e, h => ⟨low_of (by decide +kernel), h.1.low, h.2.1.low, Ty.fine t, Ty.fine u, Ex.fine e h.2.2, True.intro⟩
  | .letx x e f, h => ⟨low_of (by decide +kernel), h.1.low, Ex.fine e h.2.1, Ex.fine f h.2.2, True.intro⟩
  | .ite c e f, h => ⟨low_of (by decide +kernel), Ex.fine c h.1, Ex.fine e h.2.1, Ex.fine f h.2.2, True.intro⟩
  | .print e f, h => ⟨low_of (by decide +kernel), Ex.fine e h.1, Ex.fine f h.2, True.intro⟩
  | .pair e f, h => ⟨low_of (by decide +kernel), Ex.fine e h.1, Ex.fine f h.2, True.intro⟩
  | .asT e t, h => ⟨low_of (by decide +kernel), Ex.fine e h, Ty.fine t, True.intro⟩
  | .op s e f, h => ⟨low_of (by decide +kernel), s.low, Ex.fine e h.1, Ex.fine f h.2, True.intro⟩
  | .un k e, h => ⟨k.low, Ex.fine e h, True.intro⟩
  | .put e f, h => ⟨low_of (by decide +kernel), Ex.fine e h.1, Ex.fine f h.2, True.intro⟩
  | .call e f, h => ⟨low_of (by decide +kernel), Ex.fine e h.1, Ex.fine f h.2, True.intro⟩
theorem Ty.depth : ∀ t : Ty, t.d.depth ≤ t.h
  | .int => by simp [Ty.d, Ty.h, PyData.depth, PyData.depthAll]
  | .bool => by simp [Ty.d, Ty.h, PyData.depth, PyData.depthAll]
  | .unit => by simp [Ty.d, Ty.h, PyData.depth, PyData.depthAll]
  | .any => by simp [Ty.d, Ty.h, PyData.depth, PyData.depthAll]
  | .fn a b => by
    have q1 := Ty.depth a
    have q2 := Ty.depth b
    simp [Ty.d, Ty.h, PyData.depth, PyData.depthAll]; omega
  | .pair a b => by
    have q1 := Ty.depth a
    have q2 := Ty.depth b
    simp [Ty.d, Ty.h, PyData.depth, PyData.depthAll]; omega
  | .box a => by
    have q1 := Ty.depth a
    simp [Ty.d, Ty.h, PyData.depth, PyData.depthAll]; omega
theorem Ex.depth : ∀ e : Ex, e.d.depth ≤ e.h
  | .num n => by simp [Ex.d, Ex.h, PyData.depth, PyData.depthAll]
  | .flag b => by simp [Ex.d, Ex.h, PyData.depth, PyData.depthAll]
  | .unit => by simp [Ex.d, Ex.h, PyData.depth, PyData.depthAll]
  | .name x => by simp [Ex.d, Ex.h, PyData.depth, PyData.depthAll]
  | .fn x t e => by
    have q1 := Ty.depth t
    have q2 := Ex.depth e
    simp [Ex.d, Ex.h, PyData.depth, PyData.depthAll]; omega
  | .recf f x t u e => by
    have q1 := Ty.depth t
    have q2 := Ex.depth e
    have q3 := Ty.depth u
    simp [Ex.d, Ex.h, PyData.depth, PyData.depthAll]; omega
  | .letx x e f => by
    have q1 := Ex.depth e
    have q2 := Ex.depth f
    simp [Ex.d, Ex.h, PyData.depth, PyData.depthAll]; omega
  | .ite c e f => by
    have q1 := Ex.depth e
    have q2 := Ex.depth f
    have q3 := Ex.depth c
    simp [Ex.d, Ex.h, PyData.depth, PyData.depthAll]; omega
  | .print e f => by
    have q1 := Ex.depth e
    have q2 := Ex.depth f
    simp [Ex.d, Ex.h, PyData.depth, PyData.depthAll]; omega
  | .pair e f => by
    have q1 := Ex.depth e
    have q2 := Ex.depth f
    simp [Ex.d, Ex.h, PyData.depth, PyData.depthAll]; omega
  | .asT e t => by
    have q1 := Ex.depth e
    have q2 := Ty.depth t
    simp [Ex.d, Ex.h, PyData.depth, PyData.depthAll]; omega
  | .op s e f => by
    have q1 := Ex.depth e
    have q2 := Ex.depth f
    simp [Ex.d, Ex.h, PyData.depth, PyData.depthAll]; omega
  | .un k e => by
    have q1 := Ex.depth e
    simp [Ex.d, Ex.h, PyData.depth, PyData.depthAll]; omega
  | .put e f => by
    have q1 := Ex.depth e
    have q2 := Ex.depth f
    simp [Ex.d, Ex.h, PyData.depth, PyData.depthAll]; omega
  | .call e f => by
    have q1 := Ex.depth e
    have q2 := Ex.depth f
    simp [Ex.d, Ex.h, PyData.depth, PyData.depthAll]; omega
/-! ### the costs -/
theorem kc (s : Str) (h : s.length ≤ 5) : cost (.str s) ≤ 52 := by unfold cost; omega
theorem two_le' (h k : Nat) (q : h ≤ k) : 100 * 2 ^ h ≤ 100 * 2 ^ k := Nat.mul_le_mul_left 100 (Nat.pow_le_pow_right (by decide) q)
theorem Ty.cost_le : ∀ t : Ty, cost t.d + 70 ≤ 100 * 2 ^ t.h
  | .int => by
    have := kc "int" (by decide +kernel)
    simp only [Ty.d, cost, costs, Ty.h] at *; omega
  | .bool => by
    have := kc "bool" (by decide +kernel)
    simp only [Ty.d, cost, costs, Ty.h] at *; omega
  | .unit => by
    have := kc "unit" (by decide +kernel)
    simp only [Ty.d, cost, costs, Ty.h] at *; omega
  | .any => by
    have := kc "any" (by decide +kernel)
    simp only [Ty.d, cost, costs, Ty.h] at *; omega
  | .fn a b => by
    have := kc "fun" (by decide +kernel)
    have qa := Nat.le_trans (Ty.cost_le a) (two_le' a.h (max a.h b.h) (Nat.le_max_left _ _))
    have qb := Nat.le_trans (Ty.cost_le b) (two_le' b.h (max a.h b.h) (Nat.le_max_right _ _))
    have eh : (Ty.fn a b).h = 1 + max a.h b.h := rfl
    rw [eh, Nat.pow_add]
    simp only [Ty.d, cost, costs] at *; omega
  | .pair a b => by
    have := kc "pair" (by decide +kernel)
    have qa := Nat.le_trans (Ty.cost_le a) (two_le' a.h (max a.h b.h) (Nat.le_max_left _ _))
    have qb := Nat.le_trans (Ty.cost_le b) (two_le' b.h (max a.h b.h) (Nat.le_max_right _ _))
    have eh : (Ty.pair a b).h = 1 + max a.h b.h := rfl
    rw [eh, Nat.pow_add]
    simp only [Ty.d, cost, costs] at *; omega
  | .box a => by
    have := kc "box" (by decide +kernel)
    have qa := Ty.cost_le a
    have eh : (Ty.box a).h = 1 + a.h := rfl
    rw [eh, Nat.pow_add]
    simp only [Ty.d, cost, costs] at *; omega
theorem Ty.cost_4 {t : Ty} (h : t.h ≤ 4) : cost t.d ≤ 1600 := by
  have q := Nat.le_trans (Ty.cost_le t) (two_le' t.h 4 h)
  omega
/-- what an expression of height d may cost -/
def lim2 : Nat → Nat
  | 0 => 300
  | n + 1 => 3 * lim2 n + 4000
theorem lim2_ge : ∀ d, 300 ≤ lim2 d
  | 0 => Nat.le_refl _
  | n + 1 => by
    have := lim2_ge n
    have e : lim2 (n + 1) = 3 * lim2 n + 4000 := rfl
    omega
theorem name_cost {x : Str} (h : NameOk x) : cost (.str x) ≤ 202 := by
  have := h.len
  unfold cost; omega
theorem Ex.cost_le : ∀ (e : Ex) (d : Nat), e.ok → e.tb → e.g ≤ d → cost e.d ≤ lim2 d
  | .num n, d, _, _, _ => by
    have := kc "num" (by decide +kernel)
    have := lim2_ge d
    simp only [Ex.d, cost, costs] at *; omega
  | .flag n, d, _, _, _ => by
    have := kc "flag" (by decide +kernel)
    have := lim2_ge d
    simp only [Ex.d, cost, costs] at *; omega
  | .unit, d, _, _, _ => by
    have := kc "unit" (by decide +kernel)
    have := lim2_ge d
    simp only [Ex.d, cost, costs] at *; omega
  | .name x, d, ho, _, _ => by
    have := kc "name" (by decide +kernel)
    have := lim2_ge d
    have := name_cost ho
    simp only [Ex.d, cost, costs] at *; omega
  | .fn x t e, d, ho, ht, hg => by
    have hg : 1 + e.g ≤ d := hg
    obtain ⟨m, rfl⟩ : ∃ m, d = m + 1 := ⟨d - 1, by omega⟩
    have := kc "fun" (by decide +kernel)
    have := name_cost ho.1
    have := Ty.cost_4 ht.1
    have := Ex.cost_le e m ho.2 ht.2 (by omega)
    have : lim2 (m + 1) = 3 * lim2 m + 4000 := rfl
    simp only [Ex.d, cost, costs] at *; omega
  | .recf f x t u e, d, ho, ht, hg => by
    have hg : 1 + e.g ≤ d := hg
    obtain ⟨m, rfl⟩ : ∃ m, d = m + 1 := ⟨d - 1, by omega⟩
    have := kc "rec" (by decide +kernel)
    have := name_cost ho.1
    have := name_cost ho.2.1
    have := Ty.cost_4 ht.1
    have := Ty.cost_4 ht.2.1
    have := Ex.cost_le e m ho.2.2 ht.2.2 (by omega)
    have : lim2 (m + 1) = 3 * lim2 m + 4000 := rfl
    simp only [Ex.d, cost, costs] at *; omega
  | .letx x e f, d, ho, ht, hg => by
    have hg : 1 + max e.g f.g ≤ d := hg
    obtain ⟨m, rfl⟩ : ∃ m, d = m + 1 := ⟨d - 1, by omega⟩
    have := kc "let" (by decide +kernel)
    have := name_cost ho.1
    have := Ex.cost_le e m ho.2.1 ht.1 (by omega)
    have := Ex.cost_le f m ho.2.2 ht.2 (by omega)
    have : lim2 (m + 1) = 3 * lim2 m + 4000 := rfl
    simp only [Ex.d, cost, costs] at *; omega
  | .ite c e f, d, ho, ht, hg => by
    have hg : 1 + max c.g (max e.g f.g) ≤ d := hg
    obtain ⟨m, rfl⟩ : ∃ m, d = m + 1 := ⟨d - 1, by omega⟩
    have := kc "if" (by decide +kernel)
    have := Ex.cost_le c m ho.1 ht.1 (by omega)
    have := Ex.cost_le e m ho.2.1 ht.2.1 (by omega)
    have := Ex.cost_le f m ho.2.2 ht.2.2 (by omega)
    have : lim2 (m + 1) = 3 * lim2 m + 4000 := rfl
    simp only [Ex.d, cost, costs] at *; omega
  | .print _ _, _, _, ht, _ => ht.elim
  | .pair e f, d, ho, ht, hg => by
    have hg : 1 + max e.g f.g ≤ d := hg
    obtain ⟨m, rfl⟩ : ∃ m, d = m + 1 := ⟨d - 1, by omega⟩
    have := kc "pair" (by decide +kernel)
    have := Ex.cost_le e m ho.1 ht.1 (by omega)
    have := Ex.cost_le f m ho.2 ht.2 (by omega)
    have : lim2 (m + 1) = 3 * lim2 m + 4000 := rfl
    simp only [Ex.d, cost, costs] at *; omega
  | .asT e t, d, ho, ht, hg => by
    have hg : 1 + e.g ≤ d := hg
    obtain ⟨m, rfl⟩ : ∃ m, d = m + 1 := ⟨d - 1, by omega⟩
    have := kc "as" (by decide +kernel)
    have := Ex.cost_le e m ho ht.2 (by omega)
    have := Ty.cost_4 ht.1
    have : lim2 (m + 1) = 3 * lim2 m + 4000 := rfl
    simp only [Ex.d, cost, costs] at *; omega
  | .op s e f, d, ho, ht, hg => by
    have hg : 1 + max e.g f.g ≤ d := hg
    obtain ⟨m, rfl⟩ : ∃ m, d = m + 1 := ⟨d - 1, by omega⟩
    have := kc "op" (by decide +kernel)
    have := kc s.s (Nat.le_trans (op_len s) (by decide))
    have := Ex.cost_le e m ho.1 ht.1 (by omega)
    have := Ex.cost_le f m ho.2 ht.2 (by omega)
    have : lim2 (m + 1) = 3 * lim2 m + 4000 := rfl
    simp only [Ex.d, cost, costs] at *; omega
  | .un k e, d, ho, ht, hg => by
    have hg : 1 + e.g ≤ d := hg
    obtain ⟨m, rfl⟩ : ∃ m, d = m + 1 := ⟨d - 1, by omega⟩
    have := kc k.s (by rw [un_len k]; decide)
    have := Ex.cost_le e m ho ht (by omega)
    have : lim2 (m + 1) = 3 * lim2 m + 4000 := rfl
    simp only [Ex.d, cost, costs] at *; omega
  | .put e f, d, ho, ht, hg => by
    have hg : 1 + max e.g f.g ≤ d := hg
    obtain ⟨m, rfl⟩ : ∃ m, d = m + 1 := ⟨d - 1, by omega⟩
    have := kc "put" (by decide +kernel)
    have := Ex.cost_le e m ho.1 ht.1 (by omega)
    have := Ex.cost_le f m ho.2 ht.2 (by omega)
    have : lim2 (m + 1) = 3 * lim2 m + 4000 := rfl
    simp only [Ex.d, cost, costs] at *; omega
  | .call e f, d, ho, ht, hg => by
    have hg : 1 + max e.g f.g ≤ d := hg
    obtain ⟨m, rfl⟩ : ∃ m, d = m + 1 := ⟨d - 1, by omega⟩
    have := kc "call" (by decide +kernel)
    have := Ex.cost_le e m ho.1 ht.1 (by omega)
    have := Ex.cost_le f m ho.2 ht.2 (by omega)
    have : lim2 (m + 1) = 3 * lim2 m + 4000 := rfl
    simp only [Ex.d, cost, costs] at *; omega
theorem Drawn.cost {e : Ex} (h : Drawn e) : cost e.d ≤ 1000000 := by
  have e4 : lim2 4 = 184300 := by decide
  have e2 : lim2 2 = 18700 := by decide
  rcases h with h | ⟨a, b, rfl, ha, hb⟩
  · have := Ex.cost_le e 4 h.1 h.2.1 h.2.2
    omega
  · have := Ex.cost_le a 4 ha.1 ha.2.1 ha.2.2
    have := Ex.cost_le b 2 hb.1 hb.2.1 hb.2.2
    have := kc "print" (by decide +kernel)
    simp only [Ex.d, HN.cost, costs] at *; omega
/-- the pair that the law keeps by its repr -/
theorem kept_fits {e : Ex} {t : Ty} (h : Drawn e) (ht : t.h ≤ 4) : fine (.tuple [e.d, t.d]) ∧ (PyData.shown (.tuple [e.d, t.d])).length ≤ sizeLine ∧ PyData.depth (.tuple [e.d, t.d]) ≤ 10 := by
  have f : fine (.tuple [e.d, t.d]) := ⟨Ex.fine e h.ok, Ty.fine t, True.intro⟩
  refine ⟨f, ?_, ?_⟩
  · have q := shown_cost _ f
    have q1 := h.cost
    have q2 := Ty.cost_4 ht
    rw [sizeLine_eq]
    simp only [HN.cost, costs] at q
    omega
  · have q1 := Ex.depth e
    have q2 := Ty.depth t
    have q3 := h.h
    simp [PyData.depth, PyData.depthAll]
    omega
end HN
/-! L1: the law's draws: a state, an int, a name. -/
namespace HN
open PySem TL L2
/-- the state at s: a count and the list of cells at c -/
def StAt (H : Hp) (s c : Addr) : Prop := ∃ (k : Int) (ns : List Int), H s = some (.lst [.int k, .ref c]) ∧ H c = some (.lst (ns.map V.int)) ∧ ns ≠ [] ∧ ns.length ≤ 63
/-- all but the state is as it was -/
def Draw (s c : Addr) (H H' : Hp) : Prop := ∀ a o, a ≠ s → a ≠ c → H a = some o → H' a = some o
theorem Draw.refl {s c : Addr} {H : Hp} : Draw s c H H := fun _ _ _ _ h => h
theorem Draw.trans {s c : Addr} {H H1 H2 : Hp} (a : Draw s c H H1) (b : Draw s c H1 H2) : Draw s c H H2 := fun x o n1 n2 h => b x o n1 n2 (a x o n1 n2 h)
theorem Draw.of {s c : Addr} {H H' : Hp} (h : Same H H') : Draw s c H H' := fun a o _ _ e => h a o e
theorem Draw.same {s c : Addr} {H H1 H2 : Hp} (a : Draw s c H H1) (b : Same H1 H2) : Draw s c H H2 := a.trans (Draw.of b)
theorem StAt.same {H H' : Hp} {s c : Addr} (h : StAt H s c) (k : Same H H') : StAt H' s c := by
  obtain ⟨n, ns, h1, h2, h3, h4⟩ := h
  exact ⟨n, ns, k _ _ h1, k _ _ h2, h3, h4⟩
theorem Draw.tups {s c : Addr} {H H' : Hp} (d : Draw s c H H') (h : StAt H s c) : Tups H H' := fun a xs e => by
  obtain ⟨n, ns, h1, h2, _⟩ := h
  exact d a _ (ne_of e h1 (by intro z; cases z)) (ne_of e h2 (by intro z; cases z)) e
/-- a new object stands apart from the state -/
theorem StAt.apart {H : Hp} {s c p : Addr} (h : StAt H s c) (n : H p = none) : p ≠ s ∧ p ≠ c := by
  obtain ⟨k, ns, h1, h2, _⟩ := h
  exact ⟨(ne_of_none h1 n).symm, (ne_of_none h2 n).symm⟩
theorem atI_in {α : Type} {xs : List α} {i : Int} (h0 : 0 ≤ i) (h1 : i < xs.length) : ∃ v, atI xs i = some v ∧ xs[i.toNat]? = some v := by
  have hj : i.toNat < xs.length := by omega
  have e : ((i.toNat : Nat) : Int) = i := by omega
  have q : atI xs ((i.toNat : Nat) : Int) = some xs[i.toNat] := atI_nat (List.getElem?_eq_getElem hj)
  rw [e] at q
  exact ⟨xs[i.toNat], q, List.getElem?_eq_getElem hj⟩
theorem ixN_in {n : Nat} {i : Int} (h0 : 0 ≤ i) (h1 : i < n) : ixN n i = some i.toNat := by
  unfold ixN
  rw [if_pos h0, if_pos h1]
theorem fmod_in {a m : Int} (h : 0 < m) : 0 ≤ a.fmod m ∧ a.fmod m < m := ⟨Int.fmod_nonneg_of_pos a h, Int.fmod_lt_of_pos a h⟩
section
variable {P : Program} {w : World} {K : PySem.W.Frag} {mg : Str → Option Value} {base : Heap}
def spDraw : Sp := fun vs H Q _ => ∃ (s c : Addr) (m : Int), vs = [.ref s, .int m] ∧ StAt H s c ∧ 0 < m ∧ m < 1073741824 ∧ ∀ (r : Int) (H' : Hp), 0 ≤ r → r < m → Draw s c H H' → StAt H' s c → Q (.int r) H'
theorem ok_draw (E : Env K mg) : FnOk P w K mg base CX0 1 E.a_m_law_take E.d_m_law_take ["_law_state_here", "_law_most"] spDraw := by
  refine E.F_m_law_take.ok sc_m_law_take (fun vs H Q E' h => ?_) (fun cdv A outer s0 H vs Q E' hr h => ?_)
  · obtain ⟨s, c, m, rfl, _⟩ := h
    rfl
  · obtain ⟨s, c, m, rfl, ⟨k, ns, hs, hc, hne, h63⟩, m0, m1, q⟩ := h
    have nsc : s ≠ c := ne_of hs hc (by
      intro z
      have z := HO.lst.inj z
      cases ns with
      | nil => exact hne rfl
      | cons a r =>
        cases r with
        | nil => cases z
        | cons b r => cases z)
    have hl : (ns.map V.int).length = ns.length := List.length_map _
    have hpos : 0 < ns.length := List.length_pos_iff.mpr hne
    refine ⟨_, (pss_cons (ps_set (i := 2) sc_m_law_take.nd rfl (Or.inl rfl) (pe_ix ix_list (pv 0) pe_int (fun _ _ => rfl)))
      (pss_cons (ps_set (i := 3) sc_m_law_take.nd rfl (Or.inl rfl) (pe_op op_modN (pe_ix ix_list (pv 0) pe_int (fun _ _ => rfl)) (pe_callB call_len_seq (by rfl) E.z_len (by decide +kernel) (pa_cons (pv 2) pa_nil))))
      (pss_cons (ps_set (i := 4) sc_m_law_take.nd rfl (Or.inl rfl) (pe_ix ix_list (pv 2) (pv 3) (fun _ _ => rfl)))
      (pss_cons (ps_if (pt_cmpR op_ge (pv 4) pe_int (nomark _)) (pss_cons (ps_asg (pe_op op_fdivN (pv 4) (pv 1)) (pg_sub (pv 2) (pv 3) set_list))
      (pss_one (ps_ret (pe_op op_modN (pv 4) (pv 1))))) pss_nil)
      (pss_cons (ps_asg (pe_op op_add (pe_ix ix_list (pv 0) pe_int (fun _ _ => rfl)) pe_int) (pg_sub (pv 0) pe_int set_list))
      (pss_cons (ps_set (i := 5) sc_m_law_take.nd rfl (Or.inl rfl) (pe_op op_modN (pe_callTy call_int1 (by rfl) E.z_int (by decide +kernel) (pa_cons (pe_op op_add (pe_op op_mul (pv 4) pe_int) (pe_op op_mul (pe_ix ix_list (pv 0) pe_int (fun _ _ => rfl)) pe_int)) pa_nil)) pe_int))
      (pss_cons (ps_set (i := 5) sc_m_law_take.nd rfl (Or.inl rfl) (pe_op op_modN (pe_callTy call_int1 (by rfl) E.z_int (by decide +kernel) (pa_cons (pe_op op_add (pe_op op_mul (pv 5) pe_int) (pe_op op_mul (pe_ix ix_list (pv 0) pe_int (fun _ _ => rfl)) pe_int)) pa_nil)) pe_int))
      (pss_one (ps_ret (pe_op op_modN (pe_op op_fdivN (pv 5) pe_int) (pv 1))))))))))), ?_⟩
    refine ⟨_, rfl, s, _, _, _, rfl, rfl, SqL.of hs, atI_nat (j := 1) rfl, ?_⟩
    refine ⟨_, rfl, s, _, _, _, rfl, rfl, SqL.of hs, atI_nat (j := 0) rfl, _, rfl, c, _, rfl, .inl (SqL.of hc), _, _, rfl, rfl, ?_, ?_⟩
    · rw [hl]; omega
    obtain ⟨f0, f1⟩ := fmod_in (a := k) (m := (((ns.map V.int).length : Nat) : Int)) (by rw [hl]; omega)
    rw [hl] at f0 f1
    obtain ⟨v, hv, hv2⟩ := atI_in (xs := ns.map V.int) (i := k.fmod (((ns.map V.int).length : Nat) : Int)) (by rw [hl]; exact f0) (by rw [hl]; exact f1)
    obtain ⟨cell, rfl⟩ : ∃ x, v = V.int x := by
      rw [List.getElem?_map] at hv2
      obtain ⟨x, _, e⟩ := Option.map_eq_some_iff.mp hv2
      exact ⟨x, e.symm⟩
    refine ⟨_, rfl, _, rfl, c, _, _, _, rfl, rfl, SqL.of hc, hv, ?_⟩
    refine ⟨_, rfl, _, _, rfl, rfl, _, rfl, ?_⟩
    refine ite2 (fun _ => ?_) (fun _ => ?_)
    · -- a great cell
      refine ⟨_, rfl, _, rfl, _, _, rfl, rfl, ⟨by omega, by omega⟩, _, rfl, _, rfl, c, _, _, _, rfl, rfl, hc, ixN_in (by rw [hl]; exact f0) (by rw [hl]; exact f1), ?_⟩
      refine ⟨_, rfl, _, rfl, _, _, rfl, rfl, by omega, ?_⟩
      obtain ⟨g0, g1⟩ := fmod_in (a := cell) (m := m) m0
      refine q _ _ g0 g1 (fun a o n1 n2 e => by rw [upd_ne n2]; exact e) ⟨k, ns.set (k.fmod (((ns.map V.int).length : Nat) : Int)).toNat (cell.fdiv m), by rw [upd_ne nsc]; exact hs, ?_, ?_, ?_⟩
      · rw [upd_same, List.map_set]
      · intro z
        have := congrArg List.length z
        rw [List.length_set] at this
        exact hne (List.length_eq_zero_iff.mp this)
      · rw [List.length_set]; exact h63
    · refine ⟨_, rfl, s, _, _, _, rfl, rfl, SqL.of hs, atI_nat (j := 0) rfl, _, _, rfl, rfl, _, rfl, s, _, _, _, rfl, rfl, hs, ixN_in (by decide) (by show (0 : Int) < 2; decide), ?_⟩
      have hs' : upd H s (.lst [.int (k + 1), .ref c]) s = some (.lst [.int (k + 1), .ref c]) := upd_same
      refine ⟨_, rfl, _, _, rfl, rfl, .inr (by decide), _, rfl, s, _, _, _, rfl, rfl, SqL.of hs', atI_nat (j := 0) rfl, _, _, rfl, rfl, .inr (by decide), _, _, rfl, rfl, .inl ⟨_, rfl, _, _, rfl, rfl, (by show (2147483647 : Int) ≠ 0; decide), ?_⟩⟩
      refine ⟨_, rfl, _, _, rfl, rfl, .inr (by decide), _, rfl, s, _, _, _, rfl, rfl, SqL.of hs', atI_nat (j := 0) rfl, _, _, rfl, rfl, .inr (by decide), _, _, rfl, rfl, .inl ⟨_, rfl, _, _, rfl, rfl, (by show (1000000007 : Int) ≠ 0; decide), ?_⟩⟩
      refine ⟨_, rfl, _, _, rfl, rfl, ⟨by decide, by decide⟩, _, rfl, _, _, rfl, rfl, by omega, ?_⟩
      obtain ⟨g0, g1⟩ := fmod_in (a := Int.fdiv (Int.fmod (Int.fmod (cell * 48271 + (k + 1) * 69621) 2147483647 * 16807 + (k + 1) * 7919) 1000000007) 7) (m := m) m0
      exact q _ _ g0 g1 (fun a o n1 n2 e => by rw [upd_ne n1]; exact e) ⟨k + 1, ns, hs', by rw [upd_ne nsc.symm]; exact hc, hne, h63⟩
end
end HN
/-! L2a: the law's state and its names. -/
namespace HN
open PySem TL L2
def w14 : List Str := ["any", "as", "bool", "box", "else", "false", "fst", "fun", "get", "if", "in", "int", "let", "not"]
def w7 : List Str := ["print", "put", "rec", "snd", "then", "true", "unit"]
theorem words_eq : words = w14 ++ w7 := rfl
theorem words_len : ∀ w ∈ words, w.length ≤ 5 := by decide +kernel
/-- letters, digits and underscores, a letter first -/
structure NameIn (x : Str) : Prop where
  first : ∃ c r, tl x = c :: r ∧ lower c
  rest : ∀ c ∈ tl x, inner c
theorem NameIn.ok {x : Str} (h : NameIn x) (l : x.length ≤ 20) (n : x ∉ words) : NameOk x := ⟨h.first, h.rest, n, l⟩
theorem NameIn.under {x : Str} (h : NameIn x) (hw : x ∈ words) : NameOk (x ++ "_") := by
  have e : tl (x ++ "_") = tl x ++ [95] := by rw [tl_append, l_under]
  refine ⟨?_, ?_, ?_, ?_⟩
  · obtain ⟨c, r, h1, h2⟩ := h.first
    exact ⟨c, r ++ [95], by rw [e, h1]; rfl, h2⟩
  · intro c hc
    rw [e] at hc
    rcases List.mem_append.mp hc with hc | hc
    · exact h.rest c hc
    · rw [List.mem_singleton.mp hc]; exact .inr (.inr rfl)
  · intro hm
    have := (word_lower hm).1 95 (by rw [e]; exact List.mem_append_right _ (List.mem_singleton.mpr rfl))
    unfold lower at this
    omega
  · have := words_len x hw
    have e1 : ("_" : Str).length = 1 := by decide +kernel
    rw [strLen_append, e1]; omega
theorem NameIn.one {c : Nat} (h : lower c) : NameIn ⟨#[c]⟩ := ⟨⟨c, [], rfl, h⟩, fun d hd => by
  have hd : d ∈ [c] := hd
  rw [List.mem_singleton.mp hd]; exact .inl h⟩
theorem NameIn.snoc {x : Str} {c : Nat} (h : NameIn x) (hc : inner c) : NameIn (x ++ ⟨#[c]⟩) := by
  have e : tl (x ++ ⟨#[c]⟩) = tl x ++ [c] := by rw [tl_append]
  refine ⟨?_, ?_⟩
  · obtain ⟨d, r, h1, h2⟩ := h.first
    exact ⟨d, r ++ [c], by rw [e, h1]; rfl, h2⟩
  · intro d hd
    rw [e] at hd
    rcases List.mem_append.mp hd with hd | hd
    · exact h.rest d hd
    · rw [List.mem_singleton.mp hd]; exact hc
section
variable {P : Program} {w : World} {K : PySem.W.Frag} {mg : Str → Option Value} {base : Heap}
def spState (K : PySem.W.Frag) : Sp := fun vs H Q _ => ∃ (a : Addr) (ns : List Int), vs = [.ref a] ∧ SqL K H a (ns.map V.int) ∧ ns.length ≤ 63 ∧ ∀ (s c : Addr) (H' : Hp), Same H H' → StAt H' s c → Q (.ref s) H'
theorem ok_state (E : Env K mg) : FnOk P w K mg base CX0 1 E.a_m_law_state E.d_m_law_state ["_law_script"] (spState K) := by
  refine E.F_m_law_state.ok sc_m_law_state (fun vs H Q E' h => ?_) (fun cdv A outer s H vs Q E' hr h => ?_)
  · obtain ⟨a, ns, rfl, _⟩ := h
    rfl
  · obtain ⟨a, ns, rfl, hS, h63, q⟩ := h
    refine ⟨_, (pss_cons (ps_setLc (i := 1) (own := [("_law_cell", 2)]) (g := gName 2) (tt := tYes) (by rfl) sc_m_law_state.nd rfl rfl (sw_true rfl rfl rfl (by decide +kernel)) (pi_list (pe_slice sl_list (pv 0) po_none (po_some pe_int))) (blkOk_by (own := [("_law_cell", 2)]) (N := ["_law_script", "_law_cells", "_law_cell"]) (sc := defScope s_m_law_state) (by decide +kernel)) (fun _ _ _ _ _ => pg_name (i := 2) sc_m_law_state.nd rfl (Or.inl rfl)) (fun _ _ _ _ _ => pts_nil) (fun _ _ _ _ _ => (pe_callB call_abs (by rfl) E.z_abs (by decide +kernel) (pa_cons (pv 2) pa_nil))))
      (pss_cons (ps_if (pt_cmpR op_eq (pe_callB call_len_seq (by rfl) E.z_len (by decide +kernel) (pa_cons (pv 1) pa_nil)) pe_int (nomark _)) (pss_one (ps_set (i := 1) sc_m_law_state.nd rfl (Or.inl rfl) (pe_lst (pa_cons pe_int pa_nil)))) pss_nil)
      (pss_one (ps_ret (pe_lst (pa_cons pe_int (pa_cons (pv 1) pa_nil))))))), ?_⟩
    refine ⟨_, rfl, _, rfl, a, _, rfl, hS, fun p hp => ?_⟩
    obtain ⟨ms, em, lm⟩ : ∃ ms : List Int, cutV (ns.map V.int) none (some 63) = ms.map V.int ∧ ms.length ≤ 63 := by
      refine ⟨(ns.drop (HT.sIx (ns.map V.int).length 0 none)).take (HT.sIx (ns.map V.int).length (ns.map V.int).length (some 63) - HT.sIx (ns.map V.int).length 0 none), ?_, ?_⟩
      · rw [List.map_take, List.map_drop]
        rfl
      · rw [List.length_take, List.length_drop]; omega
    rw [em]
    have s1 := same_new (o := .lst (ms.map V.int)) hp
    refine ⟨p, rfl, ⟨_, SqL.of upd_same⟩, fun D hD => ?_⟩
    refine lc_list (K := K) (a := p) (xs := ms.map V.int) (fun i H' => Same (upd H p (.lst (ms.map V.int))) H' ∧ ∃ ks : List Int, H' D = some (.lst (ks.map V.int)) ∧ ks.length = i) ⟨same_new hD, [], upd_same, rfl⟩ (fun i H' _ h => SqL.of (h.1 _ _ upd_same)) ?_ ?_
    · rintro i y H' hi ⟨s2, ks, hD', hk⟩
      rw [List.getElem?_map] at hi
      obtain ⟨u, hu, rfl⟩ := Option.map_eq_some_iff.mp hi
      have hlt : i < ms.length := (List.getElem?_eq_some_iff.mp hu).1
      refine ⟨rfl, ?_⟩
      refine ⟨_, rfl, u, rfl, _, hD', ?_, ?_, ks ++ [if u < 0 then -u else u], ?_, ?_⟩
      · rw [List.length_map]; exact small1000 (by omega)
      · intro b o e
        have nb : b ≠ D := ne_of_none e hD
        rw [upd_ne nb]
        exact s2 b o e
      · rw [upd_same, List.map_append]
        rfl
      · rw [List.length_append, hk]; rfl
    · rintro H' ⟨s2, ks, hD', hk⟩
      have s12 := s1.trans s2
      rw [List.length_map] at hk
      refine ⟨_, rfl, D, _, rfl, .inl (SqL.of hD'), rfl, _, rfl, ?_⟩
      refine ite2 (fun _ => ?_) (fun c => ?_)
      · refine ⟨by show 1 ≤ sizeLine; decide, fun z hz => ?_⟩
        refine ⟨_, rfl, by show 2 ≤ sizeLine; decide, fun s' hs' => ?_⟩
        have s3 := s12.trans (same_new (o := .lst [.int 0]) hz)
        refine q s' z _ (s3.trans (same_new hs')) ⟨0, [0], upd_same, ?_, by simp, by simp⟩
        exact same_new hs' _ _ upd_same
      · have c' : ¬ V.int (((ks.map V.int).length : Nat) : Int) = .int 0 := of_decide_eq_false (Bool.eq_false_iff.mpr c)
        refine ⟨_, rfl, by show 2 ≤ sizeLine; decide, fun s' hs' => ?_⟩
        refine q s' D _ (s12.trans (same_new hs')) ⟨0, ks, upd_same, same_new hs' _ _ hD', ?_, by omega⟩
        intro z
        subst z
        exact c' rfl
theorem size_in {r i : Int} {v : V} (h : atI [V.int 0, .int 1, .int 2, .int 0, .int 19, .int r] i = some v) (h0 : 0 ≤ i) (h6 : i < 6) (r0 : 0 ≤ r) (r1 : r < 20) : ∃ z : Int, v = .int z ∧ 0 ≤ z ∧ z ≤ 19 := by
  obtain ⟨v', h1, h2⟩ := atI_in (xs := [V.int 0, .int 1, .int 2, .int 0, .int 19, .int r]) h0 (by show i < 6; exact h6)
  rw [h] at h1
  cases h1
  have hi : i.toNat = 0 ∨ i.toNat = 1 ∨ i.toNat = 2 ∨ i.toNat = 3 ∨ i.toNat = 4 ∨ i.toNat = 5 := by omega
  rcases hi with e | e | e | e | e | e <;> rw [e] at h2 <;> cases h2
  · exact ⟨0, rfl, by omega, by omega⟩
  · exact ⟨1, rfl, by omega, by omega⟩
  · exact ⟨2, rfl, by omega, by omega⟩
  · exact ⟨0, rfl, by omega, by omega⟩
  · exact ⟨19, rfl, by omega, by omega⟩
  · exact ⟨r, rfl, by omega, by omega⟩
theorem ltrs_len : (tl "abcdefghijklmnopqrstuvwxyz").length = 26 := by rw [l_letters]; rfl
theorem inn_len : (tl ("abcdefghijklmnopqrstuvwxyz" ++ "0123456789_" : Str)).length = 37 := by decide +kernel
theorem inn_mem {c : Nat} (h : c ∈ tl ("abcdefghijklmnopqrstuvwxyz" ++ "0123456789_" : Str)) : inner c := by
  have e : tl "0123456789_" = tl ("0123456789" ++ "_" : Str) := by decide +kernel
  rw [tl_append, e, ← tl_append] at h
  have e2 : tl ("abcdefghijklmnopqrstuvwxyz" ++ ("0123456789" ++ "_") : Str) = tl ("abcdefghijklmnopqrstuvwxyz" ++ "0123456789" ++ "_" : Str) := by
    rw [tl_append, tl_append, tl_append, tl_append, List.append_assoc]
  rw [e2] at h
  exact mem_inner.mp h
def spLName : Sp := fun vs H Q _ => ∃ (s c : Addr), vs = [.ref s] ∧ StAt H s c ∧ ∀ (x : Str) (H' : Hp), NameOk x → Draw s c H H' → StAt H' s c → Q (.str x) H'
theorem ok_lname (E : Env K mg) : FnOk P w K mg base CX0 2 E.a_m_law_name E.d_m_law_name ["_law_state_here"] spLName := by
  refine E.F_m_law_name.ok sc_m_law_name (fun vs H Q E' h => ?_) (fun cdv A outer s0 H vs Q E' hr h => ?_)
  · obtain ⟨s, c, rfl, _⟩ := h
    rfl
  · obtain ⟨s, c, rfl, hst, q⟩ := h
    have g_m_law_take := ok_draw (P := P) (w := w) (base := base) E
    have h_m_law_take : Room 1 _ := hr
    refine ⟨_, (pss_cons (ps_set (i := 1) sc_m_law_name.nd rfl (Or.inl rfl) pe_str)
      (pss_cons (ps_set (i := 2) sc_m_law_name.nd rfl (Or.inl rfl) (pe_ix ix_str (pv 1) (pe_call g_m_law_take h_m_law_take rfl E.G_m_law_take E.F_m_law_take.kp E.B_m_law_take .nil pass0 (pa_cons (pv 0) (pa_cons pe_int pa_nil))) (fun _ _ => rfl)))
      (pss_cons (ps_set (i := 3) sc_m_law_name.nd rfl (Or.inl rfl) (pe_ix ix_list (pe_lst (pa_cons pe_int (pa_cons pe_int (pa_cons pe_int (pa_cons pe_int (pa_cons pe_int (pa_cons (pe_call g_m_law_take h_m_law_take rfl E.G_m_law_take E.F_m_law_take.kp E.B_m_law_take .nil pass0 (pa_cons (pv 0) (pa_cons pe_int pa_nil))) pa_nil))))))) (pe_call g_m_law_take h_m_law_take rfl E.G_m_law_take E.F_m_law_take.kp E.B_m_law_take .nil pass0 (pa_cons (pv 0) (pa_cons pe_int pa_nil))) (fun _ _ => rfl)))
      (pss_cons (ps_for PassesOwn.never rfl (pi_range1 rfl E.z_range (pa_cons (pv 3) pa_nil)) (pg_name (i := 4) sc_m_law_name.nd rfl (Or.inl rfl)) (pss_one (ps_set (i := 2) sc_m_law_name.nd rfl (Or.inl rfl) (pe_op op_add_str (pv 2) (pe_ix ix_str (pe_op op_add_str (pv 1) pe_str) (pe_call g_m_law_take h_m_law_take rfl E.G_m_law_take E.F_m_law_take.kp E.B_m_law_take .nil pass0 (pa_cons (pv 0) (pa_cons pe_int pa_nil))) (fun _ _ => rfl))))))
      (pss_cons (ps_if (pt_cmpR op_in_seq (pv 2) (pe_lst (pa_cons pe_str (pa_cons pe_str (pa_cons pe_str (pa_cons pe_str (pa_cons pe_str (pa_cons pe_str (pa_cons pe_str (pa_cons pe_str (pa_cons pe_str (pa_cons pe_str (pa_cons pe_str (pa_cons pe_str (pa_cons pe_str (pa_cons pe_str pa_nil))))))))))))))) (by rfl)) (pss_one (ps_ret (pe_op op_add_str (pv 2) pe_str))) pss_nil)
      (pss_cons (ps_if (pt_cmpR op_in_seq (pv 2) (pe_lst (pa_cons pe_str (pa_cons pe_str (pa_cons pe_str (pa_cons pe_str (pa_cons pe_str (pa_cons pe_str (pa_cons pe_str pa_nil)))))))) (by rfl)) (pss_one (ps_ret (pe_op op_add_str (pv 2) pe_str))) pss_nil)
      (pss_one (ps_ret (pv 2))))))))), ?_⟩
    -- the first letter
    refine ⟨_, rfl, _, rfl, s, c, 26, rfl, hst, by decide, by decide, fun r1 H1 z0 z1 d1 st1 => ?_⟩
    obtain ⟨c1, hc1, hm1⟩ := atI_in (xs := tl "abcdefghijklmnopqrstuvwxyz") z0 (by rw [ltrs_len]; exact z1)
    have lc1 : lower c1 := mem_letters.mp (List.mem_of_getElem? hm1)
    refine ⟨_, _, _, rfl, rfl, (by decide +kernel), hc1, ?_⟩
    -- the size
    refine ⟨_, rfl, s, c, 20, rfl, st1, by decide, by decide, fun r2 H2 y0 y1 d2 st2 => ?_⟩
    refine ⟨by show 6 ≤ sizeLine; decide, fun L hL => ?_⟩
    obtain ⟨nLs, nLc⟩ := st2.apart hL
    have s3 := same_new (o := .lst [.int 0, .int 1, .int 2, .int 0, .int 19, .int r2]) hL
    refine ⟨_, rfl, s, c, 6, rfl, st2.same s3, by decide, by decide, fun r3 H3 x0 x1 d3 st3 => ?_⟩
    obtain ⟨v, hv, _⟩ := atI_in (xs := [V.int 0, .int 1, .int 2, .int 0, .int 19, .int r2]) x0 (by show r3 < 6; exact x1)
    obtain ⟨sz, rfl, sz0, sz1⟩ := size_in hv x0 x1 y0 y1
    refine ⟨L, _, _, _, rfl, rfl, SqL.of (d3 _ _ nLs nLc upd_same), hv, ?_⟩
    have dd : Draw s c H H3 := ((d1.trans d2).same s3).trans d3
    -- the loop
    refine ⟨_, rfl, sz, rfl, by omega, by omega, for_range (lo := 0) (n := sz.toNat) (fun i σ H' => ∃ (x : Str) (kk : Option V), σ = [some (.ref s), some (.str "abcdefghijklmnopqrstuvwxyz"), some (.str x), some (.int sz), kk] ∧ Draw s c H H' ∧ StAt H' s c ∧ NameIn x ∧ x.length = 1 + i)
      ⟨⟨#[c1]⟩, none, rfl, dd, st3, NameIn.one lc1, rfl⟩ ?_ ?_⟩
    · rintro i σ H' hi ⟨x, kk, rfl, dH, stH, nx, lx⟩
      refine ⟨_, rfl, _, rfl, _, _, rfl, rfl, (by decide +kernel), _, rfl, s, c, 37, rfl, stH, by decide, by decide, fun r4 H4 u0 u1 d4 st4 => ?_⟩
      obtain ⟨c4, hc4, hm4⟩ := atI_in (xs := tl ("abcdefghijklmnopqrstuvwxyz" ++ "0123456789_" : Str)) u0 (by rw [inn_len]; exact u1)
      refine ⟨_, _, _, rfl, rfl, (by decide +kernel), hc4, ?_⟩
      have l1 : (⟨#[c4]⟩ : Str).length = 1 := rfl
      refine ⟨_, _, rfl, rfl, (by rw [sizeLine_eq, l1]; omega), ?_⟩
      refine ⟨_, _, rfl, dH.trans d4, st4, nx.snoc (inn_mem (List.mem_of_getElem? hm4)), ?_⟩
      rw [strLen_append, l1, lx]; omega
    · rintro σ H' ⟨x, kk, rfl, dH, stH, nx, lx⟩
      have lx20 : x.length ≤ 20 := by omega
      have l1 : ("_" : Str).length = 1 := by decide +kernel
      refine ⟨_, rfl, (by show 14 ≤ sizeLine; decide), fun L4 hL4 => ⟨L4, w14.map V.str, rfl, .inl (SqL.of upd_same), rfl, flat_strs _, _, rfl, ?_⟩⟩
      have s4 := same_new (o := .lst (w14.map V.str)) hL4
      by_cases hx : x ∈ w14
      · refine bT ((in_strs x w14).trans (decide_eq_true hx)) ?_
        refine ⟨_, rfl, _, _, rfl, rfl, (by rw [sizeLine_eq, l1]; omega), ?_⟩
        exact q _ _ (nx.under (by rw [words_eq]; exact List.mem_append_left _ hx)) (dH.same s4) (stH.same s4)
      · refine bF ((in_strs x w14).trans (decide_eq_false hx)) ?_
        refine ⟨_, rfl, (by show 7 ≤ sizeLine; decide), fun L5 hL5 => ⟨L5, w7.map V.str, rfl, .inl (SqL.of upd_same), rfl, flat_strs _, _, rfl, ?_⟩⟩
        have s5 := s4.trans (same_new (o := .lst (w7.map V.str)) hL5)
        by_cases hx7 : x ∈ w7
        · refine bT ((in_strs x w7).trans (decide_eq_true hx7)) ?_
          refine ⟨_, rfl, _, _, rfl, rfl, (by rw [sizeLine_eq, l1]; omega), ?_⟩
          exact q _ _ (nx.under (by rw [words_eq]; exact List.mem_append_right _ hx7)) (dH.same s5) (stH.same s5)
        · refine bF ((in_strs x w7).trans (decide_eq_false hx7)) ?_
          refine ⟨_, rfl, q _ _ (nx.ok lx20 fun hw => ?_) (dH.same s5) (stH.same s5)⟩
          rw [words_eq] at hw
          rcases List.mem_append.mp hw with hw | hw
          · exact hx hw
          · exact hx7 hw
end
end HN
/-! L3: the law's types, numbers, leaves and expressions. -/
namespace HN
open PySem TL L2
theorem four_in {a b c d : Addr} {i : Int} {v : V} (h : atI [V.ref a, .ref b, .ref c, .ref d] i = some v) (h0 : 0 ≤ i) (h4 : i < 4) : v = .ref a ∨ v = .ref b ∨ v = .ref c ∨ v = .ref d := by
  obtain ⟨v', h1, h2⟩ := atI_in (xs := [V.ref a, .ref b, .ref c, .ref d]) h0 (by show i < 4; exact h4)
  rw [h] at h1
  cases h1
  have hi : i.toNat = 0 ∨ i.toNat = 1 ∨ i.toNat = 2 ∨ i.toNat = 3 := by omega
  rcases hi with e | e | e | e <;> rw [e] at h2 <;> cases h2
  · exact .inl rfl
  · exact .inr (.inl rfl)
  · exact .inr (.inr (.inl rfl))
  · exact .inr (.inr (.inr rfl))
theorem un_in {i : Int} {v : V} (h : atI [V.str "fst", .str "snd", .str "box", .str "get", .str "not"] i = some v) (h0 : 0 ≤ i) (h5 : i < 5) : ∃ k : Un, v = .str k.s := by
  obtain ⟨v', h1, h2⟩ := atI_in (xs := [V.str "fst", .str "snd", .str "box", .str "get", .str "not"]) h0 (by show i < 5; exact h5)
  rw [h] at h1
  cases h1
  have hi : i.toNat = 0 ∨ i.toNat = 1 ∨ i.toNat = 2 ∨ i.toNat = 3 ∨ i.toNat = 4 := by omega
  rcases hi with e | e | e | e | e <;> rw [e] at h2 <;> cases h2
  · exact ⟨.fst, rfl⟩
  · exact ⟨.snd, rfl⟩
  · exact ⟨.box, rfl⟩
  · exact ⟨.get, rfl⟩
  · exact ⟨.not, rfl⟩
theorem op_in {i : Int} {v : V} (h : atI [V.str "+", .str "-", .str "*", .str "<", .str "=="] i = some v) (h0 : 0 ≤ i) (h5 : i < 5) : ∃ k : Op, v = .str k.s := by
  obtain ⟨v', h1, h2⟩ := atI_in (xs := [V.str "+", .str "-", .str "*", .str "<", .str "=="]) h0 (by show i < 5; exact h5)
  rw [h] at h1
  cases h1
  have hi : i.toNat = 0 ∨ i.toNat = 1 ∨ i.toNat = 2 ∨ i.toNat = 3 ∨ i.toNat = 4 := by omega
  rcases hi with e | e | e | e | e <;> rw [e] at h2 <;> cases h2
  · exact ⟨.plus, rfl⟩
  · exact ⟨.minus, rfl⟩
  · exact ⟨.times, rfl⟩
  · exact ⟨.lt, rfl⟩
  · exact ⟨.eq, rfl⟩
theorem last_in {i : Int} {v : V} (h : atI [V.str "call", .str "call", .str "pair", .str "put"] i = some v) (h0 : 0 ≤ i) (h4 : i < 4) : v = .str "call" ∨ v = .str "pair" ∨ v = .str "put" := by
  obtain ⟨v', h1, h2⟩ := atI_in (xs := [V.str "call", .str "call", .str "pair", .str "put"]) h0 (by show i < 4; exact h4)
  rw [h] at h1
  cases h1
  have hi : i.toNat = 0 ∨ i.toNat = 1 ∨ i.toNat = 2 ∨ i.toNat = 3 := by omega
  rcases hi with e | e | e | e <;> rw [e] at h2 <;> cases h2
  · exact .inl rfl
  · exact .inl rfl
  · exact .inr (.inl rfl)
  · exact .inr (.inr rfl)
section
variable {P : Program} {w : World} {K : PySem.W.Frag} {mg : Str → Option Value} {base : Heap}
def spLType (n : Nat) : Sp := fun vs H Q _ => ∃ (s c : Addr) (d : Nat), vs = [.ref s, .int d] ∧ StAt H s c ∧ 1 ≤ d ∧ d + 2 ≤ n ∧ ∀ (v : V) (t : Ty) (H' : Hp), t.h ≤ d → Has H' t.d v → Draw s c H H' → StAt H' s c → Q v H'
theorem ok_ltype (E : Env K mg) {n : Nat} (g_m_law_type : FnOk P w K mg base CX0 n E.a_m_law_type E.d_m_law_type ["_law_state_here", "_law_depth"] (spLType n)) : FnOk P w K mg base CX0 (n + 1) E.a_m_law_type E.d_m_law_type ["_law_state_here", "_law_depth"] (spLType (n + 1)) := by
  refine E.F_m_law_type.ok sc_m_law_type (fun vs H Q E' h => ?_) (fun cdv A outer s0 H vs Q E' hr h => ?_)
  · obtain ⟨s, c, d, rfl, _⟩ := h
    rfl
  · obtain ⟨s, c, d, rfl, hst, hd1, hdn, q⟩ := h
    have g_m_law_take := ok_draw (P := P) (w := w) (base := base) E
    have h_m_law_take : Room 1 _ := hr.mono (by omega)
    have h_m_law_type : Room n _ := hr
    refine ⟨_, (pss_cons (ps_set (i := 2) sc_m_law_type.nd rfl (Or.inl rfl) (pe_call g_m_law_take h_m_law_take rfl E.G_m_law_take E.F_m_law_take.kp E.B_m_law_take .nil pass0 (pa_cons (pv 0) (pa_cons pe_int pa_nil))))
      (pss_cons (ps_if (PW.pt (pw_or (pt_cmpR op_eq (pv 1) pe_int (nomark _)) (pw_or1 (pt_cmpR op_lt (pv 2) pe_int (nomark _))))) (pss_one (ps_ret (pe_ix ix_list (pe_lst (pa_cons (pe_tup (pa_cons pe_str pa_nil)) (pa_cons (pe_tup (pa_cons pe_str pa_nil)) (pa_cons (pe_tup (pa_cons pe_str pa_nil)) (pa_cons (pe_tup (pa_cons pe_str pa_nil)) pa_nil))))) (pe_op op_modN (pv 2) pe_int) (fun _ _ => rfl)))) pss_nil)
      (pss_cons (ps_set (i := 3) sc_m_law_type.nd rfl (Or.inl rfl) (pe_call g_m_law_type h_m_law_type rfl E.G_m_law_type E.F_m_law_type.kp E.B_m_law_type .nil pass0 (pa_cons (pv 0) (pa_cons (pe_op op_sub (pv 1) pe_int) pa_nil))))
      (pss_cons (ps_if (pt_cmpR op_eq (pv 2) pe_int (nomark _)) (pss_one (ps_ret (pe_tup (pa_cons pe_str (pa_cons (pv 3) pa_nil))))) pss_nil)
      (pss_cons (ps_set (i := 4) sc_m_law_type.nd rfl (Or.inl rfl) (pe_call g_m_law_type h_m_law_type rfl E.G_m_law_type E.F_m_law_type.kp E.B_m_law_type .nil pass0 (pa_cons (pv 0) (pa_cons (pe_op op_sub (pv 1) pe_int) pa_nil))))
      (pss_cons (ps_if (pt_cmpR op_eq (pv 2) pe_int (nomark _)) (pss_one (ps_ret (pe_tup (pa_cons pe_str (pa_cons (pv 3) (pa_cons (pv 4) pa_nil)))))) pss_nil)
      (pss_one (ps_ret (pe_tup (pa_cons pe_str (pa_cons (pv 3) (pa_cons (pv 4) pa_nil)))))))))))), ?_⟩
    refine ⟨_, rfl, s, c, 8, rfl, hst, by decide, by decide, fun r H1 z0 z1 d1 st1 => ?_⟩
    have leaf : ∀ σ : St, σ = [some (.ref s), some (.int d), some (.int r), none, none] →
        tRet (tOp (rIxL K) (tLst (tCons (tTup (tCons (tC (.str "int")) tNil)) (tCons (tTup (tCons (tC (.str "bool")) tNil)) (tCons (tTup (tCons (tC (.str "unit")) tNil)) (tCons (tTup (tCons (tC (.str "any")) tNil)) tNil)))))
          (tOp (rI (fun _ j => j ≠ 0) fun i j => .int (i.fmod j)) (tVar 2) (tC (.int 4)))) { nx := fun _ H' => Q .non H', rt := Q } σ H1 := by
      rintro σ rfl
      refine ⟨(by show 1 ≤ sizeLine; decide), fun a1 h1 => ⟨(by show 1 ≤ sizeLine; decide), fun a2 h2 => ⟨(by show 1 ≤ sizeLine; decide), fun a3 h3 => ⟨(by show 1 ≤ sizeLine; decide), fun a4 h4 => ⟨(by show 4 ≤ sizeLine; decide), fun L hL => ?_⟩⟩⟩⟩⟩
      have k1 := same_new (o := .tup [.str "int"]) h1
      have k2 := same_new (o := .tup [.str "bool"]) h2
      have k3 := same_new (o := .tup [.str "unit"]) h3
      have k4 := same_new (o := .tup [.str "any"]) h4
      have k5 := same_new (o := .lst [.ref a1, .ref a2, .ref a3, .ref a4]) hL
      have kk := k1.trans (k2.trans (k3.trans (k4.trans k5)))
      obtain ⟨f0, f1⟩ := fmod_in (a := r) (m := 4) (by decide)
      obtain ⟨v, hv, _⟩ := atI_in (xs := [V.ref a1, .ref a2, .ref a3, .ref a4]) f0 (by show r.fmod 4 < 4; exact f1)
      refine ⟨_, rfl, _, _, rfl, rfl, (by show (4 : Int) ≠ 0; decide), L, _, _, _, rfl, rfl, SqL.of upd_same, hv, ?_⟩
      rcases four_in hv f0 f1 with rfl | rfl | rfl | rfl
      · exact q _ .int _ hd1 (.tup (k5 _ _ (k4 _ _ (k3 _ _ (k2 _ _ upd_same)))) (.cons (.str _) .nil)) (d1.same kk) (st1.same kk)
      · exact q _ .bool _ hd1 (.tup (k5 _ _ (k4 _ _ (k3 _ _ upd_same))) (.cons (.str _) .nil)) (d1.same kk) (st1.same kk)
      · exact q _ .unit _ hd1 (.tup (k5 _ _ (k4 _ _ upd_same)) (.cons (.str _) .nil)) (d1.same kk) (st1.same kk)
      · exact q _ .any _ hd1 (.tup (k5 _ _ upd_same) (.cons (.str _) .nil)) (d1.same kk) (st1.same kk)
    refine ⟨_, rfl, rfl, _, rfl, ?_⟩
    refine ite2 (fun _ => leaf _ rfl) (fun cd => ?_)
    have nd1 : ¬ V.int (d : Int) = .int 1 := of_decide_eq_false (Bool.eq_false_iff.mpr cd)
    have hd2 : 2 ≤ d := by
      by_cases h : d = 1
      · subst h; exact absurd rfl nd1
      · omega
    refine ⟨_, rfl, _, _, rfl, rfl, _, rfl, ?_⟩
    refine ite2 (fun _ => leaf _ rfl) (fun _ => ?_)
    have ed : (d : Int) - 1 = ((d - 1 : Nat) : Int) := by omega
    refine ⟨_, rfl, _, rfl, _, _, rfl, rfl, ?_⟩
    refine ⟨s, c, d - 1, by rw [← ed]; rfl, st1, by omega, by omega, fun v1 t1 H2 l1 hv1 d2 st2 => ?_⟩
    refine ⟨_, rfl, rfl, _, rfl, ?_⟩
    refine ite2 (fun _ => ?_) (fun _ => ?_)
    · refine ⟨_, rfl, (by show 2 ≤ sizeLine; decide), fun a ha => ?_⟩
      have k1 := same_new (o := .tup [.str "box", v1]) ha
      refine q _ (.box t1) _ (by show 1 + t1.h ≤ d; omega) (.tup upd_same (.cons (.str _) (.cons (hv1.keep (Tups.of k1)) .nil))) ((d1.trans d2).same k1) (st2.same k1)
    · refine ⟨_, rfl, _, rfl, _, _, rfl, rfl, ?_⟩
      refine ⟨s, c, d - 1, by rw [← ed]; rfl, st2, by omega, by omega, fun v2 t2 H3 l2 hv2 d3 st3 => ?_⟩
      have hv1' := hv1.keep (d3.tups st2)
      have lm : max t1.h t2.h ≤ d - 1 := Nat.max_le.mpr ⟨l1, l2⟩
      refine ⟨_, rfl, rfl, _, rfl, ?_⟩
      refine ite2 (fun _ => ?_) (fun _ => ?_)
      · refine ⟨_, rfl, _, rfl, (by show 3 ≤ sizeLine; decide), fun a ha => ?_⟩
        have k1 := same_new (o := .tup [.str "pair", v1, v2]) ha
        exact q _ (.pair t1 t2) _ (by show 1 + max t1.h t2.h ≤ d; omega) (.tup upd_same (.cons (.str _) (.cons (hv1'.keep (Tups.of k1)) (.cons (hv2.keep (Tups.of k1)) .nil)))) (((d1.trans d2).trans d3).same k1) (st3.same k1)
      · refine ⟨_, rfl, _, rfl, (by show 3 ≤ sizeLine; decide), fun a ha => ?_⟩
        have k1 := same_new (o := .tup [.str "fun", v1, v2]) ha
        exact q _ (.fn t1 t2) _ (by show 1 + max t1.h t2.h ≤ d; omega) (.tup upd_same (.cons (.str _) (.cons (hv1'.keep (Tups.of k1)) (.cons (hv2.keep (Tups.of k1)) .nil)))) (((d1.trans d2).trans d3).same k1) (st3.same k1)
theorem ltype_all (E : Env K mg) : ∀ n : Nat, FnOk P w K mg base CX0 n E.a_m_law_type E.d_m_law_type ["_law_state_here", "_law_depth"] (spLType n)
  | 0 => by
    have no : ∀ vs H Q E', ¬ spLType 0 vs H Q E' := fun vs H Q E' h => by
      obtain ⟨_, _, _, _, _, _, h1, _⟩ := h
      omega
    exact ⟨fun vs H Q E' h => absurd h (no vs H Q E'), fun A outer s H args us vs Q E' _ _ _ _ h => absurd h (no vs H Q E')⟩
  | n + 1 => ok_ltype E (ltype_all E n)
def spLNum : Sp := fun vs H Q _ => ∃ (s c : Addr), vs = [.ref s] ∧ StAt H s c ∧ ∀ (m : Nat) (H' : Hp), m < 2147483648 → Draw s c H H' → StAt H' s c → Q (.int m) H'
theorem ok_lnum (E : Env K mg) : FnOk P w K mg base CX0 2 E.a_m_law_number E.d_m_law_number ["_law_state_here"] spLNum := by
  refine E.F_m_law_number.ok sc_m_law_number (fun vs H Q E' h => ?_) (fun cdv A outer s0 H vs Q E' hr h => ?_)
  · obtain ⟨s, c, rfl, _⟩ := h
    rfl
  · obtain ⟨s, c, rfl, hst, q⟩ := h
    have g_m_law_take := ok_draw (P := P) (w := w) (base := base) E
    have h_m_law_take : Room 1 _ := hr
    refine ⟨_, (pss_cons (ps_set (i := 1) sc_m_law_number.nd rfl (Or.inl rfl) (pe_call g_m_law_take h_m_law_take rfl E.G_m_law_take E.F_m_law_take.kp E.B_m_law_take .nil pass0 (pa_cons (pv 0) (pa_cons pe_int pa_nil))))
      (pss_cons (ps_if (pt_cmpR op_eq (pe_call g_m_law_take h_m_law_take rfl E.G_m_law_take E.F_m_law_take.kp E.B_m_law_take .nil pass0 (pa_cons (pv 0) (pa_cons pe_int pa_nil))) pe_int (nomark _)) (pss_one (ps_set (i := 1) sc_m_law_number.nd rfl (Or.inl rfl) (pe_op op_sub (pe_op op_sub (pe_op op_pow pe_int pe_int) pe_int) (pv 1)))) pss_nil)
      (pss_cons (ps_if (pt_cmpR op_eq (pe_call g_m_law_take h_m_law_take rfl E.G_m_law_take E.F_m_law_take.kp E.B_m_law_take .nil pass0 (pa_cons (pv 0) (pa_cons pe_int pa_nil))) pe_int (nomark _)) (pss_one (ps_set (i := 1) sc_m_law_number.nd rfl (Or.inl rfl) (pe_call g_m_law_take h_m_law_take rfl E.G_m_law_take E.F_m_law_take.kp E.B_m_law_take .nil pass0 (pa_cons (pv 0) (pa_cons pe_int pa_nil))))) pss_nil)
      (pss_one (ps_ret (pv 1)))))), ?_⟩
    refine ⟨_, rfl, s, c, 50, rfl, hst, by decide, by decide, fun r1 H1 z0 z1 d1 st1 => ?_⟩
    refine ⟨_, rfl, s, c, 4, rfl, st1, by decide, by decide, fun r2 H2 y0 y1 d2 st2 => ?_⟩
    have fin : ∀ (m : Int) (H' : Hp), 0 ≤ m → m < 2147483648 → Draw s c H H' → StAt H' s c → Q (.int m) H' := fun m H' m0 m1 dd ss => by
      have e : m = ((m.toNat : Nat) : Int) := by omega
      rw [e]
      exact q m.toNat H' (by omega) dd ss
    refine ⟨rfl, _, rfl, ?_⟩
    refine ite2 (fun _ => ?_) (fun _ => ?_)
    · refine ⟨_, _, rfl, rfl, ⟨by decide, by decide, by decide⟩, _, _, rfl, rfl, _, rfl, _, _, rfl, rfl, ?_⟩
      refine ⟨_, rfl, s, c, 4, rfl, st2, by decide, by decide, fun r3 H3 x0 x1 d3 st3 => ?_⟩
      refine ⟨rfl, _, rfl, ?_⟩
      refine ite2 (fun _ => ?_) (fun _ => ?_)
      · refine ⟨_, rfl, s, c, 1000000, rfl, st3, by decide, by decide, fun r4 H4 w0 w1 d4 st4 => ?_⟩
        exact ⟨_, rfl, fin _ _ w0 (by omega) (((d1.trans d2).trans d3).trans d4) st4⟩
      · refine ⟨_, rfl, fin _ _ ?_ ?_ ((d1.trans d2).trans d3) st3⟩
        · rw [pow31]; omega
        · rw [pow31]; omega
    · refine ⟨_, rfl, s, c, 4, rfl, st2, by decide, by decide, fun r3 H3 x0 x1 d3 st3 => ?_⟩
      refine ⟨rfl, _, rfl, ?_⟩
      refine ite2 (fun _ => ?_) (fun _ => ?_)
      · refine ⟨_, rfl, s, c, 1000000, rfl, st3, by decide, by decide, fun r4 H4 w0 w1 d4 st4 => ?_⟩
        exact ⟨_, rfl, fin _ _ w0 (by omega) (((d1.trans d2).trans d3).trans d4) st4⟩
      · exact ⟨_, rfl, fin _ _ z0 (by omega) ((d1.trans d2).trans d3) st3⟩
def spLExpr (k : Nat) (n : Nat) : Sp := fun vs H Q _ => ∃ (s c : Addr) (d : Nat), vs = [.ref s, .int d] ∧ StAt H s c ∧ 1 ≤ d ∧ d + k ≤ n ∧ ∀ (v : V) (e : Ex) (H' : Hp), e.ok → e.tb → e.g ≤ d → Has H' e.d v → Draw s c H H' → StAt H' s c → Q v H'
def spLLeaf : Sp := fun vs H Q _ => ∃ (s c : Addr), vs = [.ref s] ∧ StAt H s c ∧ ∀ (v : V) (e : Ex) (H' : Hp), e.ok → e.tb → e.g ≤ 1 → Has H' e.d v → Draw s c H H' → StAt H' s c → Q v H'
theorem ok_lleaf (E : Env K mg) : FnOk P w K mg base CX0 3 E.a_m_law_leaf E.d_m_law_leaf ["_law_state_here"] spLLeaf := by
  refine E.F_m_law_leaf.ok sc_m_law_leaf (fun vs H Q E' h => ?_) (fun cdv A outer s0 H vs Q E' hr h => ?_)
  · obtain ⟨s, c, rfl, _⟩ := h
    rfl
  · obtain ⟨s, c, rfl, hst, q⟩ := h
    have g_m_law_take := ok_draw (P := P) (w := w) (base := base) E
    have h_m_law_take : Room 1 _ := hr.mono (by omega)
    have g_m_law_number := ok_lnum (P := P) (w := w) (base := base) E
    have h_m_law_number : Room 2 _ := hr
    have g_m_law_name := ok_lname (P := P) (w := w) (base := base) E
    have h_m_law_name : Room 2 _ := hr
    refine ⟨_, (pss_cons (ps_set (i := 1) sc_m_law_leaf.nd rfl (Or.inl rfl) (pe_call g_m_law_take h_m_law_take rfl E.G_m_law_take E.F_m_law_take.kp E.B_m_law_take .nil pass0 (pa_cons (pv 0) (pa_cons pe_int pa_nil))))
      (pss_cons (ps_if (pt_cmpR op_eq (pv 1) pe_int (nomark _)) (pss_one (ps_ret (pe_tup (pa_cons pe_str (pa_cons (pe_call g_m_law_number h_m_law_number rfl E.G_m_law_number E.F_m_law_number.kp E.B_m_law_number .nil pass0 (pa_cons (pv 0) pa_nil)) pa_nil))))) pss_nil)
      (pss_cons (ps_if (pt_cmpR op_eq (pv 1) pe_int (nomark _)) (pss_one (ps_ret (pe_tup (pa_cons pe_str (pa_cons (pe_cmpR op_eq (pe_call g_m_law_take h_m_law_take rfl E.G_m_law_take E.F_m_law_take.kp E.B_m_law_take .nil pass0 (pa_cons (pv 0) (pa_cons pe_int pa_nil))) pe_int (nomark _)) pa_nil))))) pss_nil)
      (pss_cons (ps_if (pt_cmpR op_eq (pv 1) pe_int (nomark _)) (pss_one (ps_ret (pe_tup (pa_cons pe_str pa_nil)))) pss_nil)
      (pss_one (ps_ret (pe_tup (pa_cons pe_str (pa_cons (pe_call g_m_law_name h_m_law_name rfl E.G_m_law_name E.F_m_law_name.kp E.B_m_law_name .nil pass0 (pa_cons (pv 0) pa_nil)) pa_nil))))))))), ?_⟩
    refine ⟨_, rfl, s, c, 5, rfl, hst, by decide, by decide, fun r1 H1 z0 z1 d1 st1 => ?_⟩
    refine ⟨_, rfl, rfl, _, rfl, ?_⟩
    refine ite2 (fun _ => ?_) (fun _ => ?_)
    · refine ⟨_, rfl, s, c, rfl, st1, fun m H2 hm d2 st2 => ⟨(by show 2 ≤ sizeLine; decide), fun a ha => ?_⟩⟩
      have k1 := same_new (o := .tup [.str "num", .int m]) ha
      exact q _ (.num m) _ hm True.intro (Nat.le_refl _) (.tup upd_same (.cons (.str _) (.cons (.int _) .nil))) ((d1.trans d2).same k1) (st2.same k1)
    · refine ⟨_, rfl, rfl, _, rfl, ?_⟩
      refine ite2 (fun _ => ?_) (fun _ => ?_)
      · refine ⟨_, rfl, s, c, 2, rfl, st1, by decide, by decide, fun r2 H2 y0 y1 d2 st2 => ⟨rfl, (by show 2 ≤ sizeLine; decide), fun a ha => ?_⟩⟩
        have k1 := same_new (o := .tup [.str "flag", .bl (decide (V.int r2 = V.int 1))]) ha
        exact q _ (.flag (decide (V.int r2 = V.int 1))) _ True.intro True.intro (Nat.le_refl _) (.tup upd_same (.cons (.str _) (.cons (.bl _) .nil))) ((d1.trans d2).same k1) (st2.same k1)
      · refine ⟨_, rfl, rfl, _, rfl, ?_⟩
        refine ite2 (fun _ => ?_) (fun _ => ?_)
        · refine ⟨(by show 1 ≤ sizeLine; decide), fun a ha => ?_⟩
          have k1 := same_new (o := .tup [.str "unit"]) ha
          exact q _ .unit _ True.intro True.intro (Nat.le_refl _) (.tup upd_same (.cons (.str _) .nil)) (d1.same k1) (st1.same k1)
        · refine ⟨_, rfl, s, c, rfl, st1, fun x H2 hx d2 st2 => ⟨(by show 2 ≤ sizeLine; decide), fun a ha => ?_⟩⟩
          have k1 := same_new (o := .tup [.str "name", .str x]) ha
          exact q _ (.name x) _ hx True.intro (Nat.le_refl _) (.tup upd_same (.cons (.str _) (.cons (.str _) .nil))) ((d1.trans d2).same k1) (st2.same k1)
theorem ok_lexpr (E : Env K mg) {n : Nat} (g_m_law_expr : FnOk P w K mg base CX0 n E.a_m_law_expr E.d_m_law_expr ["_law_state_here", "_law_depth"] (spLExpr 7 n)) : FnOk P w K mg base CX0 (n + 1) E.a_m_law_expr E.d_m_law_expr ["_law_state_here", "_law_depth"] (spLExpr 7 (n + 1)) := by
  refine E.F_m_law_expr.ok sc_m_law_expr (fun vs H Q E' h => ?_) (fun cdv A outer s0 H vs Q E' hr h => ?_)
  · obtain ⟨s, c, d, rfl, _⟩ := h
    rfl
  · obtain ⟨s, c, d, rfl, hst, hd1, hdn, q⟩ := h
    have g_m_law_take := ok_draw (P := P) (w := w) (base := base) E
    have h_m_law_take : Room 1 _ := hr.mono (by omega)
    have g_m_law_name := ok_lname (P := P) (w := w) (base := base) E
    have h_m_law_name : Room 2 _ := hr.mono (by omega)
    have g_m_law_leaf := ok_lleaf (P := P) (w := w) (base := base) E
    have h_m_law_leaf : Room 3 _ := hr.mono (by omega)
    have g_m_law_type := ltype_all (P := P) (w := w) (base := base) E 6
    have h_m_law_type : Room 6 _ := hr.mono (by omega)
    have h_m_law_expr : Room n _ := hr
    refine ⟨_, (pss_cons (ps_set (i := 2) sc_m_law_expr.nd rfl (Or.inl rfl) (pe_call g_m_law_take h_m_law_take rfl E.G_m_law_take E.F_m_law_take.kp E.B_m_law_take .nil pass0 (pa_cons (pv 0) (pa_cons pe_int pa_nil))))
      (pss_cons (ps_if (PW.pt (pw_or (pt_cmpR op_eq (pv 1) pe_int (nomark _)) (pw_or1 (pt_cmpR op_lt (pv 2) pe_int (nomark _))))) (pss_one (ps_ret (pe_call g_m_law_leaf h_m_law_leaf rfl E.G_m_law_leaf E.F_m_law_leaf.kp E.B_m_law_leaf .nil pass0 (pa_cons (pv 0) pa_nil)))) pss_nil)
      (pss_cons (ps_set (i := 3) sc_m_law_expr.nd rfl (Or.inl rfl) (pe_call g_m_law_expr h_m_law_expr rfl E.G_m_law_expr E.F_m_law_expr.kp E.B_m_law_expr .nil pass0 (pa_cons (pv 0) (pa_cons (pe_op op_sub (pv 1) pe_int) pa_nil))))
      (pss_cons (ps_if (pt_cmpR op_eq (pv 2) pe_int (nomark _)) (pss_one (ps_ret (pe_tup (pa_cons pe_str (pa_cons (pe_call g_m_law_name h_m_law_name rfl E.G_m_law_name E.F_m_law_name.kp E.B_m_law_name .nil pass0 (pa_cons (pv 0) pa_nil)) (pa_cons (pe_call g_m_law_type h_m_law_type rfl E.G_m_law_type E.F_m_law_type.kp E.B_m_law_type .nil pass0 (pa_cons (pv 0) (pa_cons pe_int pa_nil))) (pa_cons (pv 3) pa_nil))))))) pss_nil)
      (pss_cons (ps_if (pt_cmpR op_eq (pv 2) pe_int (nomark _)) (pss_one (ps_ret (pe_tup (pa_cons pe_str (pa_cons (pe_call g_m_law_name h_m_law_name rfl E.G_m_law_name E.F_m_law_name.kp E.B_m_law_name .nil pass0 (pa_cons (pv 0) pa_nil)) (pa_cons (pe_call g_m_law_name h_m_law_name rfl E.G_m_law_name E.F_m_law_name.kp E.B_m_law_name .nil pass0 (pa_cons (pv 0) pa_nil)) (pa_cons (pe_call g_m_law_type h_m_law_type rfl E.G_m_law_type E.F_m_law_type.kp E.B_m_law_type .nil pass0 (pa_cons (pv 0) (pa_cons pe_int pa_nil))) (pa_cons (pe_call g_m_law_type h_m_law_type rfl E.G_m_law_type E.F_m_law_type.kp E.B_m_law_type .nil pass0 (pa_cons (pv 0) (pa_cons pe_int pa_nil))) (pa_cons (pv 3) pa_nil))))))))) pss_nil)
      (pss_cons (ps_if (pt_cmpR op_lt (pv 2) pe_int (nomark _)) (pss_one (ps_ret (pe_tup (pa_cons (pe_ix ix_list (pe_lst (pa_cons pe_str (pa_cons pe_str (pa_cons pe_str (pa_cons pe_str (pa_cons pe_str pa_nil)))))) (pe_op op_sub (pv 2) pe_int) (fun _ _ => rfl)) (pa_cons (pv 3) pa_nil))))) pss_nil)
      (pss_cons (ps_if (pt_cmpR op_eq (pv 2) pe_int (nomark _)) (pss_one (ps_ret (pe_tup (pa_cons pe_str (pa_cons (pv 3) (pa_cons (pe_call g_m_law_type h_m_law_type rfl E.G_m_law_type E.F_m_law_type.kp E.B_m_law_type .nil pass0 (pa_cons (pv 0) (pa_cons pe_int pa_nil))) pa_nil)))))) pss_nil)
      (pss_cons (ps_set (i := 4) sc_m_law_expr.nd rfl (Or.inl rfl) (pe_call g_m_law_expr h_m_law_expr rfl E.G_m_law_expr E.F_m_law_expr.kp E.B_m_law_expr .nil pass0 (pa_cons (pv 0) (pa_cons (pe_op op_sub (pv 1) pe_int) pa_nil))))
      (pss_cons (ps_if (pt_cmpR op_eq (pv 2) pe_int (nomark _)) (pss_one (ps_ret (pe_tup (pa_cons pe_str (pa_cons (pe_call g_m_law_name h_m_law_name rfl E.G_m_law_name E.F_m_law_name.kp E.B_m_law_name .nil pass0 (pa_cons (pv 0) pa_nil)) (pa_cons (pv 3) (pa_cons (pv 4) pa_nil))))))) pss_nil)
      (pss_cons (ps_if (pt_cmpR op_eq (pv 2) pe_int (nomark _)) (pss_one (ps_ret (pe_tup (pa_cons pe_str (pa_cons (pv 3) (pa_cons (pv 4) (pa_cons (pe_call g_m_law_expr h_m_law_expr rfl E.G_m_law_expr E.F_m_law_expr.kp E.B_m_law_expr .nil pass0 (pa_cons (pv 0) (pa_cons (pe_op op_sub (pv 1) pe_int) pa_nil))) pa_nil))))))) pss_nil)
      (pss_cons (ps_if (pt_cmpR op_lt (pv 2) pe_int (nomark _)) (pss_one (ps_ret (pe_tup (pa_cons pe_str (pa_cons (pe_ix ix_list (pe_lst (pa_cons pe_str (pa_cons pe_str (pa_cons pe_str (pa_cons pe_str (pa_cons pe_str pa_nil)))))) (pe_call g_m_law_take h_m_law_take rfl E.G_m_law_take E.F_m_law_take.kp E.B_m_law_take .nil pass0 (pa_cons (pv 0) (pa_cons pe_int pa_nil))) (fun _ _ => rfl)) (pa_cons (pv 3) (pa_cons (pv 4) pa_nil))))))) pss_nil)
      (pss_one (ps_ret (pe_tup (pa_cons (pe_ix ix_list (pe_lst (pa_cons pe_str (pa_cons pe_str (pa_cons pe_str (pa_cons pe_str pa_nil))))) (pe_op op_sub (pv 2) pe_int) (fun _ _ => rfl)) (pa_cons (pv 3) (pa_cons (pv 4) pa_nil))))))))))))))))), ?_⟩
    refine ⟨_, rfl, s, c, 18, rfl, hst, by decide, by decide, fun r H1 z0 z1 d1 st1 => ?_⟩
    have leaf : ∀ σ : St, σ = [some (.ref s), some (.int d), some (.int r), none, none] →
        tRet (tCall spLLeaf [] E0 (tCons (tVar 0) tNil)) { nx := fun _ H' => Q .non H', rt := Q } σ H1 := by
      rintro σ rfl
      exact ⟨_, rfl, s, c, rfl, st1, fun v e H2 o1 o2 o3 hv d2 st2 => q v e H2 o1 o2 (Nat.le_trans o3 hd1) hv (d1.trans d2) st2⟩
    refine ⟨_, rfl, rfl, _, rfl, ?_⟩
    refine ite2 (fun _ => leaf _ rfl) (fun cd => ?_)
    have nd1 : ¬ V.int (d : Int) = .int 1 := of_decide_eq_false (Bool.eq_false_iff.mpr cd)
    have hd2 : 2 ≤ d := by
      by_cases h : d = 1
      · subst h; exact absurd rfl nd1
      · omega
    refine ⟨_, rfl, _, _, rfl, rfl, _, rfl, ?_⟩
    refine ite2 (fun _ => leaf _ rfl) (fun c2 => ?_)
    have c2 : ¬ r < 2 := of_decide_eq_false (Bool.eq_false_iff.mpr c2)
    have ed : (d : Int) - 1 = ((d - 1 : Nat) : Int) := by omega
    refine ⟨_, rfl, _, rfl, _, _, rfl, rfl, ?_⟩
    refine ⟨s, c, d - 1, by rw [← ed]; rfl, st1, by omega, by omega, fun v1 e1 H2 o1 t1 l1 hv1 d2 st2 => ?_⟩
    have dd := d1.trans d2
    refine ⟨_, rfl, rfl, _, rfl, ?_⟩
    refine ite2 (fun _ => ?_) (fun c3 => ?_)
    · -- fun
      refine ⟨_, rfl, s, c, rfl, st2, fun x H3 hx d3 st3 => ?_⟩
      refine ⟨_, rfl, s, c, 3, rfl, st3, by decide, by omega, fun v2 t2 H4 l2 hv2 d4 st4 => ?_⟩
      have hv1' := (hv1.keep (d3.tups st2)).keep (d4.tups st3)
      refine ⟨_, rfl, (by show 4 ≤ sizeLine; decide), fun a ha => ?_⟩
      have k1 := same_new (o := .tup [.str "fun", .str x, v2, v1]) ha
      exact q _ (.fn x t2 e1) _ ⟨hx, o1⟩ ⟨by omega, t1⟩ (by show 1 + e1.g ≤ d; omega) (.tup upd_same (.cons (.str _) (.cons (.str _) (.cons (hv2.keep (Tups.of k1)) (.cons (hv1'.keep (Tups.of k1)) .nil))))) (((dd.trans d3).trans d4).same k1) (st4.same k1)
    have c3 : ¬ V.int r = .int 2 := of_decide_eq_false (Bool.eq_false_iff.mpr c3)
    have c3 : r ≠ 2 := fun z => c3 (by rw [z])
    refine ⟨_, rfl, rfl, _, rfl, ?_⟩
    refine ite2 (fun _ => ?_) (fun c4 => ?_)
    · -- rec
      refine ⟨_, rfl, s, c, rfl, st2, fun x H3 hx d3 st3 => ?_⟩
      refine ⟨_, rfl, s, c, rfl, st3, fun y H4 hy d4 st4 => ?_⟩
      refine ⟨_, rfl, s, c, 2, rfl, st4, by decide, by omega, fun v2 t2 H5 l2 hv2 d5 st5 => ?_⟩
      refine ⟨_, rfl, s, c, 3, rfl, st5, by decide, by omega, fun v3 t3 H6 l3 hv3 d6 st6 => ?_⟩
      have hv1' := (((hv1.keep (d3.tups st2)).keep (d4.tups st3)).keep (d5.tups st4)).keep (d6.tups st5)
      have hv2' := hv2.keep (d6.tups st5)
      refine ⟨_, rfl, (by show 6 ≤ sizeLine; decide), fun a ha => ?_⟩
      have k1 := same_new (o := .tup [.str "rec", .str x, .str y, v2, v3, v1]) ha
      exact q _ (.recf x y t2 t3 e1) _ ⟨hx, hy, o1⟩ ⟨by omega, by omega, t1⟩ (by show 1 + e1.g ≤ d; omega)
        (.tup upd_same (.cons (.str _) (.cons (.str _) (.cons (.str _) (.cons (hv2'.keep (Tups.of k1)) (.cons (hv3.keep (Tups.of k1)) (.cons (hv1'.keep (Tups.of k1)) .nil))))))) ((((dd.trans d3).trans d4).trans (d5.trans d6)).same k1) (st6.same k1)
    have c4 : ¬ V.int r = .int 3 := of_decide_eq_false (Bool.eq_false_iff.mpr c4)
    have c4 : r ≠ 3 := fun z => c4 (by rw [z])
    refine ⟨_, rfl, _, _, rfl, rfl, _, rfl, ?_⟩
    refine ite2 (fun c5 => ?_) (fun c5 => ?_)
    · -- a word in front
      have c5 : r < 9 := of_decide_eq_true c5
      refine ⟨(by show 5 ≤ sizeLine; decide), fun L hL => ?_⟩
      have k0 := same_new (o := .lst [.str "fst", .str "snd", .str "box", .str "get", .str "not"]) hL
      obtain ⟨v, hv, _⟩ := atI_in (xs := [V.str "fst", .str "snd", .str "box", .str "get", .str "not"]) (i := r - 4) (by omega) (by show r - 4 < 5; omega)
      obtain ⟨kk, rfl⟩ := un_in hv (by omega) (by omega)
      refine ⟨_, rfl, _, _, rfl, rfl, L, _, _, _, rfl, rfl, SqL.of upd_same, hv, _, rfl, (by show 2 ≤ sizeLine; decide), fun a ha => ?_⟩
      have k1 := k0.trans (same_new (o := .tup [.str kk.s, v1]) ha)
      exact q _ (.un kk e1) _ o1 t1 (by show 1 + e1.g ≤ d; omega) (.tup upd_same (.cons (.str _) (.cons (hv1.keep (Tups.of k1)) .nil))) (dd.same k1) (st2.same k1)
    have c5 : ¬ r < 9 := of_decide_eq_false (Bool.eq_false_iff.mpr c5)
    refine ⟨_, rfl, rfl, _, rfl, ?_⟩
    refine ite2 (fun _ => ?_) (fun c6 => ?_)
    · -- as
      refine ⟨_, rfl, _, rfl, s, c, 4, rfl, st2, by decide, by omega, fun v2 t2 H4 l2 hv2 d4 st4 => ?_⟩
      have hv1' := hv1.keep (d4.tups st2)
      refine ⟨(by show 3 ≤ sizeLine; decide), fun a ha => ?_⟩
      have k1 := same_new (o := .tup [.str "as", v1, v2]) ha
      exact q _ (.asT e1 t2) _ o1 ⟨l2, t1⟩ (by show 1 + e1.g ≤ d; omega) (.tup upd_same (.cons (.str _) (.cons (hv1'.keep (Tups.of k1)) (.cons (hv2.keep (Tups.of k1)) .nil)))) ((dd.trans d4).same k1) (st4.same k1)
    have c6 : ¬ V.int r = .int 9 := of_decide_eq_false (Bool.eq_false_iff.mpr c6)
    have c6 : r ≠ 9 := fun z => c6 (by rw [z])
    refine ⟨_, rfl, _, rfl, _, _, rfl, rfl, ?_⟩
    refine ⟨s, c, d - 1, by rw [← ed]; rfl, st2, by omega, by omega, fun v2 e2 H3 o2 t2 l2 hv2 d3 st3 => ?_⟩
    have hv1 := hv1.keep (d3.tups st2)
    have dd := dd.trans d3
    have lm : max e1.g e2.g ≤ d - 1 := Nat.max_le.mpr ⟨l1, l2⟩
    refine ⟨_, rfl, rfl, _, rfl, ?_⟩
    refine ite2 (fun _ => ?_) (fun c7 => ?_)
    · -- let
      refine ⟨_, rfl, s, c, rfl, st3, fun x H4 hx d4 st4 => ?_⟩
      have hv1' := hv1.keep (d4.tups st3)
      have hv2' := hv2.keep (d4.tups st3)
      refine ⟨_, rfl, _, rfl, (by show 4 ≤ sizeLine; decide), fun a ha => ?_⟩
      have k1 := same_new (o := .tup [.str "let", .str x, v1, v2]) ha
      exact q _ (.letx x e1 e2) _ ⟨hx, o1, o2⟩ ⟨t1, t2⟩ (by show 1 + max e1.g e2.g ≤ d; omega) (.tup upd_same (.cons (.str _) (.cons (.str _) (.cons (hv1'.keep (Tups.of k1)) (.cons (hv2'.keep (Tups.of k1)) .nil))))) ((dd.trans d4).same k1) (st4.same k1)
    have c7 : ¬ V.int r = .int 10 := of_decide_eq_false (Bool.eq_false_iff.mpr c7)
    have c7 : r ≠ 10 := fun z => c7 (by rw [z])
    refine ⟨_, rfl, rfl, _, rfl, ?_⟩
    refine ite2 (fun _ => ?_) (fun c8 => ?_)
    · -- if
      refine ⟨_, rfl, _, rfl, _, rfl, _, rfl, _, _, rfl, rfl, ?_⟩
      refine ⟨s, c, d - 1, by rw [← ed]; rfl, st3, by omega, by omega, fun v3 e3 H4 o3 t3 l3 hv3 d4 st4 => ?_⟩
      have hv1' := hv1.keep (d4.tups st3)
      have hv2' := hv2.keep (d4.tups st3)
      have lm2 : max e1.g (max e2.g e3.g) ≤ d - 1 := Nat.max_le.mpr ⟨l1, Nat.max_le.mpr ⟨l2, l3⟩⟩
      refine ⟨(by show 4 ≤ sizeLine; decide), fun a ha => ?_⟩
      have k1 := same_new (o := .tup [.str "if", v1, v2, v3]) ha
      exact q _ (.ite e1 e2 e3) _ ⟨o1, o2, o3⟩ ⟨t1, t2, t3⟩ (by show 1 + max e1.g (max e2.g e3.g) ≤ d; omega) (.tup upd_same (.cons (.str _) (.cons (hv1'.keep (Tups.of k1)) (.cons (hv2'.keep (Tups.of k1)) (.cons (hv3.keep (Tups.of k1)) .nil))))) ((dd.trans d4).same k1) (st4.same k1)
    have c8 : ¬ V.int r = .int 11 := of_decide_eq_false (Bool.eq_false_iff.mpr c8)
    have c8 : r ≠ 11 := fun z => c8 (by rw [z])
    refine ⟨_, rfl, _, _, rfl, rfl, _, rfl, ?_⟩
    refine ite2 (fun _ => ?_) (fun c9 => ?_)
    · -- op
      refine ⟨(by show 5 ≤ sizeLine; decide), fun L hL => ?_⟩
      have k0 := same_new (o := .lst [.str "+", .str "-", .str "*", .str "<", .str "=="]) hL
      obtain ⟨nLs, nLc⟩ := st3.apart hL
      refine ⟨_, rfl, s, c, 5, rfl, st3.same k0, by decide, by decide, fun r5 H4 w0 w1 d4 st4 => ?_⟩
      obtain ⟨v, hv, _⟩ := atI_in (xs := [V.str "+", .str "-", .str "*", .str "<", .str "=="]) w0 (by show r5 < 5; exact w1)
      obtain ⟨kk, rfl⟩ := op_in hv w0 w1
      have hv1' := (hv1.keep (Tups.of k0)).keep (d4.tups (st3.same k0))
      have hv2' := (hv2.keep (Tups.of k0)).keep (d4.tups (st3.same k0))
      refine ⟨L, _, _, _, rfl, rfl, SqL.of (d4 _ _ nLs nLc upd_same), hv, _, rfl, _, rfl, (by show 4 ≤ sizeLine; decide), fun a ha => ?_⟩
      have k1 := same_new (o := .tup [.str "op", .str kk.s, v1, v2]) ha
      exact q _ (.op kk e1 e2) _ ⟨o1, o2⟩ ⟨t1, t2⟩ (by show 1 + max e1.g e2.g ≤ d; omega) (.tup upd_same (.cons (.str _) (.cons (.str _) (.cons (hv1'.keep (Tups.of k1)) (.cons (hv2'.keep (Tups.of k1)) .nil))))) (((dd.same k0).trans d4).same k1) (st4.same k1)
    have c9 : ¬ r < 14 := of_decide_eq_false (Bool.eq_false_iff.mpr c9)
    · refine ⟨(by show 4 ≤ sizeLine; decide), fun L hL => ?_⟩
      have k0 := same_new (o := .lst [.str "call", .str "call", .str "pair", .str "put"]) hL
      obtain ⟨v, hv, _⟩ := atI_in (xs := [V.str "call", .str "call", .str "pair", .str "put"]) (i := r - 14) (by omega) (by show r - 14 < 4; omega)
      refine ⟨_, rfl, _, _, rfl, rfl, L, _, _, _, rfl, rfl, SqL.of upd_same, hv, _, rfl, _, rfl, (by show 3 ≤ sizeLine; decide), fun a ha => ?_⟩
      have k1 := k0.trans (same_new (o := .tup [v, v1, v2]) ha)
      rcases last_in hv (by omega) (by omega) with rfl | rfl | rfl
      · exact q _ (.call e1 e2) _ ⟨o1, o2⟩ ⟨t1, t2⟩ (by show 1 + max e1.g e2.g ≤ d; omega) (.tup upd_same (.cons (.str _) (.cons (hv1.keep (Tups.of k1)) (.cons (hv2.keep (Tups.of k1)) .nil)))) (dd.same k1) (st3.same k1)
      · exact q _ (.pair e1 e2) _ ⟨o1, o2⟩ ⟨t1, t2⟩ (by show 1 + max e1.g e2.g ≤ d; omega) (.tup upd_same (.cons (.str _) (.cons (hv1.keep (Tups.of k1)) (.cons (hv2.keep (Tups.of k1)) .nil)))) (dd.same k1) (st3.same k1)
      · exact q _ (.put e1 e2) _ ⟨o1, o2⟩ ⟨t1, t2⟩ (by show 1 + max e1.g e2.g ≤ d; omega) (.tup upd_same (.cons (.str _) (.cons (hv1.keep (Tups.of k1)) (.cons (hv2.keep (Tups.of k1)) .nil)))) (dd.same k1) (st3.same k1)
theorem lexpr_all (E : Env K mg) : ∀ n : Nat, FnOk P w K mg base CX0 n E.a_m_law_expr E.d_m_law_expr ["_law_state_here", "_law_depth"] (spLExpr 7 n)
  | 0 => by
    have no : ∀ vs H Q E', ¬ spLExpr 7 0 vs H Q E' := fun vs H Q E' h => by
      obtain ⟨_, _, _, _, _, _, h1, _⟩ := h
      omega
    exact ⟨fun vs H Q E' h => absurd h (no vs H Q E'), fun A outer s H args us vs Q E' _ _ _ _ h => absurd h (no vs H Q E')⟩
  | n + 1 => ok_lexpr E (lexpr_all E n)
end
end HN
/-! L4: the law's comparison, and its spread text. -/
namespace HN
open PySem TL L2
mutual
def wid : PyData → Prop
  | .tuple ds => ds.length ≤ 10 ∧ wids ds
  | _ => True
def wids : List PyData → Prop
  | [] => True
  | d :: ds => wid d ∧ wids ds
end
theorem wids_get : ∀ {ds : List PyData} {i : Nat} {d : PyData}, wids ds → ds[i]? = some d → wid d
  | _ :: _, 0, _, h, e => by
    simp at e
    subst e
    exact h.1
  | _ :: _, i + 1, _, h, e => wids_get (i := i) h.2 (by simpa using e)
theorem depth_get : ∀ {ds : List PyData} {i : Nat} {d : PyData}, ds[i]? = some d → d.depth ≤ PyData.depthAll ds
  | d' :: ds, 0, _, e => by
    simp at e
    subst e
    rw [PyData.depthAll]
    exact Nat.le_max_left _ _
  | d' :: ds, i + 1, d, e => by
    rw [PyData.depthAll]
    exact Nat.le_trans (depth_get (i := i) (by simpa using e)) (Nat.le_max_right _ _)
theorem Ty.wid : ∀ t : Ty, wid t.d
  | .int => ⟨by decide, True.intro, True.intro⟩
  | .bool => ⟨by decide, True.intro, True.intro⟩
  | .unit => ⟨by decide, True.intro, True.intro⟩
  | .any => ⟨by decide, True.intro, True.intro⟩
  | .fn a b => ⟨by show 3 ≤ 10; decide, True.intro, Ty.wid a, Ty.wid b, True.intro⟩
  | .pair a b => ⟨by show 3 ≤ 10; decide, True.intro, Ty.wid a, Ty.wid b, True.intro⟩
  | .box a => ⟨by show 2 ≤ 10; decide, True.intro, Ty.wid a, True.intro⟩
theorem Ex.wid : ∀ e : Ex, wid e.d
  | .num n => ⟨by show 2 ≤ 10; decide, True.intro, True.intro, True.intro⟩
  | .flag b => ⟨by show 2 ≤ 10; decide, True.intro, True.intro, True.intro⟩
  | .unit => ⟨by show 1 ≤ 10; decide, True.intro, True.intro⟩
  | .name x => ⟨by show 2 ≤ 10; decide, True.intro, True.intro, True.intro⟩
  | .fn x t e => ⟨by show 4 ≤ 10; decide, True.intro, True.intro, Ty.wid t, Ex.wid e, True.intro⟩
  | .recf f x t u e => ⟨by show 6 ≤ 10; decide, True.intro, True.intro, True.intro, Ty.wid t, Ty.wid u, Ex.wid e, True.intro⟩
  | .letx x e f => ⟨by show 4 ≤ 10; decide, True.intro, True.intro, Ex.wid e, Ex.wid f, True.intro⟩
  | .ite c e f => ⟨by show 4 ≤ 10; decide, True.intro, Ex.wid c, Ex.wid e, Ex.wid f, True.intro⟩
  | .print e f => ⟨by show 3 ≤ 10; decide, True.intro, Ex.wid e, Ex.wid f, True.intro⟩
  | .pair e f => ⟨by show 3 ≤ 10; decide, True.intro, Ex.wid e, Ex.wid f, True.intro⟩
  | .asT e t => ⟨by show 3 ≤ 10; decide, True.intro, Ex.wid e, Ty.wid t, True.intro⟩
  | .op s e f => ⟨by show 4 ≤ 10; decide, True.intro, True.intro, Ex.wid e, Ex.wid f, True.intro⟩
  | .un k e => ⟨by show 2 ≤ 10; decide, True.intro, Ex.wid e, True.intro⟩
  | .put e f => ⟨by show 3 ≤ 10; decide, True.intro, Ex.wid e, Ex.wid f, True.intro⟩
  | .call e f => ⟨by show 3 ≤ 10; decide, True.intro, Ex.wid e, Ex.wid f, True.intro⟩
section
variable {P : Program} {w : World} {K : PySem.W.Frag} {mg : Str → Option Value} {base : Heap}
def spEq (n : Nat) : Sp := fun vs H Q _ => ∃ (x y : V) (d : PyData), vs = [x, y] ∧ Has H d x ∧ Has H d y ∧ wid d ∧ d.depth + 1 ≤ n ∧ ∀ H' : Hp, Same H H' → Q (.bl true) H'
theorem ok_eq (E : Env K mg) {n : Nat} (g_m_law_equal : FnOk P w K mg base CX0 n E.a_m_law_equal E.d_m_law_equal ["_law_told", "_law_due"] (spEq n)) : FnOk P w K mg base CX0 (n + 1) E.a_m_law_equal E.d_m_law_equal ["_law_told", "_law_due"] (spEq (n + 1)) := by
  refine E.F_m_law_equal.ok sc_m_law_equal (fun vs H Q E' h => ?_) (fun cdv A outer s0 H vs Q E' hr h => ?_)
  · obtain ⟨x, y, d, rfl, _⟩ := h
    rfl
  · obtain ⟨x, y, d, rfl, hx, hy, hw, hn, q⟩ := h
    have h_m_law_equal : Room n _ := hr
    refine ⟨_, (pss_cons (ps_if (pt_val (pe_callB call_isi (by rfl) E.z_isinstance (by decide +kernel) (pa_cons (pv 1) (pa_cons (pe_bltn (v := .ty "tuple") (by rfl) E.z_tuple (by decide +kernel) rfl) pa_nil)))) (pss_cons (ps_if (PW.pt (pw_or (pt_not (pt_val (pe_callB call_isi (by rfl) E.z_isinstance (by decide +kernel) (pa_cons (pv 0) (pa_cons (pe_bltn (v := .ty "tuple") (by rfl) E.z_tuple (by decide +kernel) rfl) pa_nil))))) (pw_or1 (pt_cmpR op_ne (pe_callB call_len_seq (by rfl) E.z_len (by decide +kernel) (pa_cons (pv 0) pa_nil)) (pe_callB call_len_seq (by rfl) E.z_len (by decide +kernel) (pa_cons (pv 1) pa_nil)) (nomark _))))) (pss_one (ps_ret pe_bl)) pss_nil)
      (pss_one (ps_ret (pe_cmpR op_eq (pe_callB call_len_seq (by rfl) E.z_len (by decide +kernel) (pa_cons (pe_lc (own := [("_law_k", 2)]) (g := gName 2) (by rfl) sc_m_law_equal.nd (pi_range1 rfl E.z_range (pa_cons (pe_callB call_len_seq (by rfl) E.z_len (by decide +kernel) (pa_cons (pv 1) pa_nil)) pa_nil)) (blkOk_by (own := [("_law_k", 2)]) (N := ["_law_told", "_law_due", "_law_k"]) (sc := defScope s_m_law_equal) (by decide +kernel)) (fun _ _ _ _ _ => pg_name (i := 2) sc_m_law_equal.nd rfl (Or.inl rfl)) (fun _ _ _ _ _ => (pts_one (pt_not (pt_val (pe_call g_m_law_equal h_m_law_equal rfl E.G_m_law_equal E.F_m_law_equal.kp E.B_m_law_equal .nil pass0 (pa_cons (pe_ix (r := rIxT K) ix_tup (pv 0) (pv 2) (fun _ _ => rfl)) (pa_cons (pe_ix (r := rIxT K) ix_tup (pv 1) (pv 2) (fun _ _ => rfl)) pa_nil))))))) (fun _ _ _ _ _ => (pv 2))) pa_nil)) pe_int (nomark _))))) pss_nil)
      (pss_one (ps_ret (pe_and (pe_cmpR op_eq (pe_callB call_isi (by rfl) E.z_isinstance (by decide +kernel) (pa_cons (pv 0) (pa_cons (pe_bltn (v := .ty "bool") (by rfl) E.z_bool (by decide +kernel) rfl) pa_nil))) (pe_callB call_isi (by rfl) E.z_isinstance (by decide +kernel) (pa_cons (pv 1) (pa_cons (pe_bltn (v := .ty "bool") (by rfl) E.z_bool (by decide +kernel) rfl) pa_nil))) (nomark _)) (pe_and (pe_cmpR op_eq (pe_callB call_isi (by rfl) E.z_isinstance (by decide +kernel) (pa_cons (pv 0) (pa_cons (pe_bltn (v := .ty "str") (by rfl) E.z_str (by decide +kernel) rfl) pa_nil))) (pe_callB call_isi (by rfl) E.z_isinstance (by decide +kernel) (pa_cons (pv 1) (pa_cons (pe_bltn (v := .ty "str") (by rfl) E.z_str (by decide +kernel) rfl) pa_nil))) (nomark _)) (pe_one (pe_cmpR op_eq (pv 0) (pv 1) (nomark _)))))))), ?_⟩
    cases d with
    | tuple ds =>
      obtain ⟨a, xs, rfl, ea, hxs⟩ := hx.inv
      obtain ⟨b, ys, rfl, eb, hys⟩ := hy.inv
      have lx := hxs.length
      have ly := hys.length
      have hw1 : ds.length ≤ 10 := hw.1
      have hdp : PyData.depth (.tuple ds) = PyData.depthAll ds + 1 := by rw [PyData.depth]
      refine ⟨_, rfl, _, _, _, _, _, rfl, .ty "tuple", .base (.tup eb), kit_ty (r := true) (by decide +kernel), _, rfl, ?_⟩
      refine iteT ?_
      refine ⟨_, rfl, _, _, _, _, _, rfl, .ty "tuple", .base (.tup ea), kit_ty (r := true) (by decide +kernel), _, rfl, ?_⟩
      refine nT rfl ?_
      refine ⟨_, rfl, a, _, rfl, .inr (SqT.of ea), _, rfl, b, _, rfl, .inr (SqT.of eb), rfl, _, rfl, ?_⟩
      refine iteNS (by rw [← lx, ← ly]) ?_
      refine ⟨_, rfl, b, _, rfl, .inr (SqT.of eb), _, rfl, (by omega), (by omega), fun D hD => ?_⟩
      refine lc_range (lo := 0) (n := (((ys.length : Nat) : Int)).toNat) (fun i H' => Same H H' ∧ H' D = some (.lst [])) ⟨same_new hD, upd_same⟩ ?_ ?_
      · rintro i H' hi ⟨s1, hD'⟩
        have hi : i < ds.length := by omega
        obtain ⟨u, hu1, hu2⟩ := hxs.get (List.getElem?_eq_getElem hi)
        obtain ⟨v, hv1, hv2⟩ := hys.get (List.getElem?_eq_getElem hi)
        have au : atI xs ((0 : Int) + ((i : Nat) : Int)) = some u := by rw [Int.zero_add]; exact atI_nat hu1
        have av : atI ys ((0 : Int) + ((i : Nat) : Int)) = some v := by rw [Int.zero_add]; exact atI_nat hv1
        refine ⟨rfl, ?_⟩
        refine ⟨_, rfl, _, rfl, a, _, _, _, rfl, rfl, SqT.of (s1 _ _ ea), au, _, rfl, _, rfl, b, _, _, _, rfl, rfl, SqT.of (s1 _ _ eb), av, ?_⟩
        refine ⟨u, v, ds[i], rfl, hu2.keep (Tups.of s1), hv2.keep (Tups.of s1), wids_get hw.2 (List.getElem?_eq_getElem hi), ?_, fun H2 s2 => ⟨_, rfl, ?_⟩⟩
        · have := depth_get (List.getElem?_eq_getElem hi)
          omega
        · refine nT rfl ?_
          exact ⟨s1.trans s2, s2 _ _ hD'⟩
      · rintro H' ⟨s1, hD'⟩
        refine ⟨D, _, rfl, .inl (SqL.of hD'), rfl, ?_⟩
        exact q _ s1
    | int i =>
      have e1 := hx.int_inv
      have e2 := hy.int_inv
      subst e1 e2
      refine ⟨_, rfl, _, _, _, _, _, rfl, .ty "tuple", .base (.int i), kit_ty (r := false) (by decide +kernel), _, rfl, ?_⟩
      refine iteF ?_
      refine ⟨_, rfl, _, _, _, _, _, rfl, .ty "bool", .base (.int i), kit_ty (r := false) (by decide +kernel), _, rfl, _, _, _, _, _, rfl, .ty "bool", .base (.int i), kit_ty (r := false) (by decide +kernel), rfl, _, rfl, ?_⟩
      refine iteT ?_
      refine ⟨_, rfl, _, _, _, _, _, rfl, .ty "str", .base (.int i), kit_ty (r := false) (by decide +kernel), _, rfl, _, _, _, _, _, rfl, .ty "str", .base (.int i), kit_ty (r := false) (by decide +kernel), rfl, _, rfl, ?_⟩
      refine iteT ?_
      refine ⟨_, rfl, _, rfl, rfl, ?_⟩
      have e : decide (V.int i = V.int i) = true := decide_eq_true rfl
      rw [e]
      exact q _ (Same.refl _)
    | str i =>
      have e1 := hx.str_inv
      have e2 := hy.str_inv
      subst e1 e2
      refine ⟨_, rfl, _, _, _, _, _, rfl, .ty "tuple", .base (.str i), kit_ty (r := false) (by decide +kernel), _, rfl, ?_⟩
      refine iteF ?_
      refine ⟨_, rfl, _, _, _, _, _, rfl, .ty "bool", .base (.str i), kit_ty (r := false) (by decide +kernel), _, rfl, _, _, _, _, _, rfl, .ty "bool", .base (.str i), kit_ty (r := false) (by decide +kernel), rfl, _, rfl, ?_⟩
      refine iteT ?_
      refine ⟨_, rfl, _, _, _, _, _, rfl, .ty "str", .base (.str i), kit_ty (r := true) (by decide +kernel), _, rfl, _, _, _, _, _, rfl, .ty "str", .base (.str i), kit_ty (r := true) (by decide +kernel), rfl, _, rfl, ?_⟩
      refine iteT ?_
      refine ⟨_, rfl, _, rfl, rfl, ?_⟩
      have e : decide (V.str i = V.str i) = true := decide_eq_true rfl
      rw [e]
      exact q _ (Same.refl _)
    | bool i =>
      have e1 := hx.bl_inv
      have e2 := hy.bl_inv
      subst e1 e2
      refine ⟨_, rfl, _, _, _, _, _, rfl, .ty "tuple", .base (.bl i), kit_ty (r := false) (by decide +kernel), _, rfl, ?_⟩
      refine iteF ?_
      refine ⟨_, rfl, _, _, _, _, _, rfl, .ty "bool", .base (.bl i), kit_ty (r := true) (by decide +kernel), _, rfl, _, _, _, _, _, rfl, .ty "bool", .base (.bl i), kit_ty (r := true) (by decide +kernel), rfl, _, rfl, ?_⟩
      refine iteT ?_
      refine ⟨_, rfl, _, _, _, _, _, rfl, .ty "str", .base (.bl i), kit_ty (r := false) (by decide +kernel), _, rfl, _, _, _, _, _, rfl, .ty "str", .base (.bl i), kit_ty (r := false) (by decide +kernel), rfl, _, rfl, ?_⟩
      refine iteT ?_
      refine ⟨_, rfl, _, rfl, rfl, ?_⟩
      have e : decide (V.bl i = V.bl i) = true := decide_eq_true rfl
      rw [e]
      exact q _ (Same.refl _)
    | none => cases hx
    | list _ => cases hx
    | dict _ => cases hx
theorem eq_all (E : Env K mg) : ∀ n : Nat, FnOk P w K mg base CX0 n E.a_m_law_equal E.d_m_law_equal ["_law_told", "_law_due"] (spEq n)
  | 0 => by
    have no : ∀ vs H Q E', ¬ spEq 0 vs H Q E' := fun vs H Q E' h => by
      obtain ⟨_, _, _, _, _, _, _, h1, _⟩ := h
      omega
    exact ⟨fun vs H Q E' h => absurd h (no vs H Q E'), fun A outer s H args us vs Q E' _ _ _ _ h => absurd h (no vs H Q E')⟩
  | n + 1 => ok_eq E (eq_all E n)
end
end HN
/-! L5: the law's text with other separators. -/
namespace HN
open PySem TL L2
theorem lex_seps {ts : List Tk} : ∀ {g X : List Nat}, (∀ c ∈ g, sepC c) → Lex ts X → Lex ts (g ++ X)
  | [], _, _, h => h
  | c :: g, X, hg, h => .sep (hg c (List.mem_cons_self ..)) (lex_seps (fun d hd => hg d (List.mem_cons_of_mem _ hd)) h)
theorem end_seps {g X : List Nat} (hg : ∀ c ∈ g, sepC c) (hne : g ≠ []) : EndOk (g ++ X) := by
  cases g with
  | nil => exact absurd rfl hne
  | cons c g =>
    rcases hg c (List.mem_cons_self ..) with e | e
    · exact .inl e
    · exact .inr (.inl e)
theorem tl_rest {z : Str} {pre rem : List Nat} (h : tl z = pre ++ rem) : tl (cutS z (some ((pre.length : Nat) : Int)) none) = rem := by
  have hl : z.length = pre.length + rem.length := by rw [len_tl, h, List.length_append]
  show ((tl z).drop (HT.sIx z.length 0 (some ((pre.length : Nat) : Int)))).take (z.length - HT.sIx z.length 0 (some ((pre.length : Nat) : Int))) = _
  rw [HT.sIx_nat, Nat.min_eq_left (by omega), h, List.drop_left, hl, Nat.add_sub_cancel_left, List.take_length]
theorem kinds_in {i : Int} {v : V} (h : atI [V.str " ", .str "\n", .str "  ", .str " \n "] i = some v) (h0 : 0 ≤ i) (h4 : i < 4) : ∃ y : Str, v = .str y ∧ (∀ c ∈ tl y, sepC c) ∧ tl y ≠ [] ∧ y.length ≤ 3 := by
  obtain ⟨v', h1, h2⟩ := atI_in (xs := [V.str " ", .str "\n", .str "  ", .str " \n "]) h0 (by show i < 4; exact h4)
  rw [h] at h1
  cases h1
  have a1 : tl " " = [32] := by decide +kernel
  have a2 : tl "\n" = [10] := by decide +kernel
  have a3 : tl "  " = [32, 32] := by decide +kernel
  have a4 : tl " \n " = [32, 10, 32] := by decide +kernel
  have hi : i.toNat = 0 ∨ i.toNat = 1 ∨ i.toNat = 2 ∨ i.toNat = 3 := by omega
  rcases hi with e | e | e | e <;> rw [e] at h2 <;> cases h2
  · exact ⟨_, rfl, by rw [a1]; unfold sepC; simp, by rw [a1]; simp, by rw [len_tl, a1]; decide⟩
  · exact ⟨_, rfl, by rw [a2]; unfold sepC; simp, by rw [a2]; simp, by rw [len_tl, a2]; decide⟩
  · exact ⟨_, rfl, by rw [a3]; unfold sepC; simp, by rw [a3]; simp, by rw [len_tl, a3]; decide⟩
  · exact ⟨_, rfl, by rw [a4]; unfold sepC; simp, by rw [a4]; simp, by rw [len_tl, a4]; decide⟩
/-- how far the spreading has come: i tokens, from the place last on nothing is copied yet -/
def Sprd (z : Str) (tps : List (Tk × Nat)) (i : Nat) (R : Str) (last : Nat) : Prop := ∃ pre rem : List Nat, tl z = pre ++ rem ∧ last = pre.length ∧
  ((i = 0 ∧ pre = [] ∧ PLex 0 tps rem) ∨ ∃ t' r', 1 ≤ i ∧ tps[i - 1]? = some (t', pre.length) ∧ rem = t'.cs ++ r' ∧ t'.ok ∧ PLex (pre.length + t'.cs.length) (tps.drop i) r') ∧
  (∀ X, Lex ((tps.drop (i - 1)).map Prod.fst) X → Lex (tps.map Prod.fst) (tl R ++ X)) ∧ R.length ≤ last + 3 * i
/-- one token further: what is copied, and whether a separator must follow -/
theorem Sprd.step {z : Str} {tps : List (Tk × Nat)} {i : Nat} {R : Str} {last : Nat} {t : Tk} {n : Nat} (h : Sprd z tps i R last) (ht : tps[i]? = some (t, n)) :
    ∃ cp : Str, cutS z (some (last : Int)) (some (n : Int)) = cp ∧ cp.length + last = n ∧ n ≤ z.length ∧
      (∀ sp : Str, (∀ c ∈ tl sp, sepC c) → tl sp ≠ [] → sp.length ≤ 3 → Sprd z tps (i + 1) (R ++ cp ++ sp) n) ∧ (n = 0 → Sprd z tps (i + 1) (R ++ cp) n) := by
  obtain ⟨pre, rem, ez, rfl, hc, cont, hl⟩ := h
  have hi : i < tps.length := (List.getElem?_eq_some_iff.mp ht).1
  have ed : tps.drop i = (t, n) :: tps.drop (i + 1) := by
    rw [List.drop_eq_getElem_cons hi]
    rw [List.getElem?_eq_getElem hi] at ht
    rw [Option.some.inj ht]
  rcases hc with ⟨rfl, rfl, hP⟩ | ⟨t', r', h1, h2, rfl, hok, hP⟩
  · -- the first token
    obtain ⟨g, r1, e1, hg, hh⟩ := hP.gap
    rcases hh with ⟨_, e2⟩ | ⟨t2, ts2, r2, e2, rfl, ok2, end2, hP2⟩
    · rw [e2] at hi; exact absurd hi (Nat.not_lt_zero _)
    rw [Nat.zero_add] at e2 hP2
    have e3 : (t, n) = (t2, g.length) := by rw [e2] at ht; exact (Option.some.inj ht).symm
    cases e3
    have ez' : tl z = [] ++ (g ++ (t.cs ++ r2)) := by rw [ez, e1]
    have ecp := tl_mid ez'
    have hzl : z.length = g.length + (t.cs.length + r2.length) := by rw [len_tl, ez', List.nil_append, List.length_append, List.length_append]
    rw [List.length_nil, Nat.zero_add] at ecp
    have lcp : (cutS z (some ((0 : Nat) : Int)) (some ((g.length : Nat) : Int))).length = g.length := by rw [len_tl, ecp]
    refine ⟨_, rfl, by rw [List.length_nil]; omega, by omega, fun sp hs hsn hs3 => ?_, fun hn => ?_⟩
    · refine ⟨g, t.cs ++ r2, by rw [ez']; rfl, rfl, .inr ⟨t, r2, by omega, by rw [e2]; rfl, rfl, ok2, by rw [e2]; exact hP2⟩, fun X hX => ?_, ?_⟩
      · rw [tl_append, tl_append]
        have q := cont (g ++ (tl sp ++ X)) (lex_seps hg (lex_seps hs hX))
        rw [List.append_assoc, List.append_assoc]
        have e4 : tl (cutS z (some ((([] : List Nat).length : Nat) : Int)) (some ((g.length : Nat) : Int))) = g := ecp
        rw [e4]
        exact q
      · rw [strLen_append, strLen_append]
        have e4 : (cutS z (some ((([] : List Nat).length : Nat) : Int)) (some ((g.length : Nat) : Int))).length = g.length := lcp
        rw [List.length_nil] at hl
        omega
    · refine ⟨g, t.cs ++ r2, by rw [ez']; rfl, rfl, .inr ⟨t, r2, by omega, by rw [e2]; rfl, rfl, ok2, by rw [e2]; exact hP2⟩, fun X hX => ?_, ?_⟩
      · rw [tl_append]
        have q := cont (g ++ X) (lex_seps hg hX)
        rw [List.append_assoc]
        have e4 : tl (cutS z (some ((([] : List Nat).length : Nat) : Int)) (some ((g.length : Nat) : Int))) = g := ecp
        rw [e4]
        exact q
      · rw [strLen_append]
        have e4 : (cutS z (some ((([] : List Nat).length : Nat) : Int)) (some ((g.length : Nat) : Int))).length = g.length := lcp
        rw [List.length_nil] at hl
        omega
  · obtain ⟨g, r1, e1, hg, hh⟩ := hP.gap
    rcases hh with ⟨_, e2⟩ | ⟨t2, ts2, r2, e2, rfl, ok2, end2, hP2⟩
    · rw [e2] at ed; cases ed
    have e3 : (t, n) = (t2, pre.length + t'.cs.length + g.length) ∧ tps.drop (i + 1) = ts2 := by
      rw [e2] at ed
      cases ed
      exact ⟨rfl, rfl⟩
    obtain ⟨e3, e5⟩ := e3
    cases e3
    obtain ⟨c0, l0, ec0, _⟩ := t'.head hok
    have ez' : tl z = pre ++ ((t'.cs ++ g) ++ (t.cs ++ r2)) := by rw [ez, e1, List.append_assoc]
    have ecp := tl_mid ez'
    have en : ((pre.length + (t'.cs ++ g).length : Nat) : Int) = ((pre.length + t'.cs.length + g.length : Nat) : Int) := by rw [List.length_append, Nat.add_assoc]
    rw [en] at ecp
    have hzl : z.length = pre.length + ((t'.cs.length + g.length) + (t.cs.length + r2.length)) := by rw [len_tl, ez', List.length_append, List.length_append, List.length_append, List.length_append]
    have lcp : (cutS z (some ((pre.length : Nat) : Int)) (some ((pre.length + t'.cs.length + g.length : Nat) : Int))).length = t'.cs.length + g.length := by rw [len_tl, ecp, List.length_append]
    refine ⟨_, rfl, by omega, by omega, fun sp hs hsn hs3 => ?_, fun hn => ?_⟩
    · refine ⟨pre ++ t'.cs ++ g, t.cs ++ r2, by rw [ez']; simp, by rw [List.length_append, List.length_append], .inr ⟨t, r2, by omega, ?_, rfl, ok2, ?_⟩, fun X hX => ?_, ?_⟩
      · rw [Nat.add_sub_cancel, ht, List.length_append, List.length_append]
      · rw [List.length_append, List.length_append, e5]; exact hP2
      · rw [Nat.add_sub_cancel] at hX
        rw [tl_append, tl_append, ecp]
        have hd : (tps.drop (i - 1)).map Prod.fst = t' :: (tps.drop i).map Prod.fst := by
          have hi1 : i - 1 < tps.length := by omega
          rw [List.drop_eq_getElem_cons hi1, List.map_cons]
          rw [List.getElem?_eq_getElem hi1] at h2
          rw [Option.some.inj h2, Nat.sub_add_cancel h1]
        have q := cont (t'.cs ++ (g ++ (tl sp ++ X))) (by
          rw [hd]
          refine .tok hok (.inr ?_) (lex_seps hg (lex_seps hs hX))
          rw [← List.append_assoc]
          exact end_seps (fun c hc => (List.mem_append.mp hc).elim (hg c) (hs c)) (fun z => hsn (List.append_eq_nil_iff.mp z).2))
        simpa only [List.append_assoc] using q
      · rw [strLen_append, strLen_append, lcp]
        omega
    · exfalso
      rw [ec0, List.length_cons] at hn
      omega
/-- the end: the rest and a newline -/
theorem Sprd.done {z : Str} {tps : List (Tk × Nat)} {R : Str} {last : Nat} (h : Sprd z tps tps.length R last) : Lex (tps.map Prod.fst) (tl (R ++ cutS z (some (last : Int)) none ++ "\n")) ∧
    (R ++ cutS z (some (last : Int)) none ++ "\n" : Str).length ≤ z.length + 3 * tps.length + 1 := by
  obtain ⟨pre, rem, ez, rfl, hc, cont, hl⟩ := h
  have er := tl_rest ez
  have hzl : z.length = pre.length + rem.length := by rw [len_tl, ez, List.length_append]
  have lr : (cutS z (some ((pre.length : Nat) : Int)) none).length = rem.length := by rw [len_tl, er]
  have a2 : tl "\n" = [10] := by decide +kernel
  have l2 : ("\n" : Str).length = 1 := by decide +kernel
  refine ⟨?_, by rw [strLen_append, strLen_append, lr, l2]; omega⟩
  rw [tl_append, tl_append, er, a2]
  have nl : ∀ c ∈ [10], sepC c := fun c hc => by rw [List.mem_singleton.mp hc]; exact .inr rfl
  rcases hc with ⟨h0, rfl, hP⟩ | ⟨t', r', h1, h2, rfl, hok, hP⟩
  · have e0 : tps = [] := List.length_eq_zero_iff.mp h0
    subst e0
    obtain ⟨g, r1, e1, hg, hh⟩ := hP.gap
    rcases hh with ⟨e2, _⟩ | ⟨_, _, _, e2, _⟩
    · rw [e2, List.append_nil] at e1
      subst e1
      rw [List.append_assoc]
      have := cont (rem ++ [10]) (lex_seps hg (by have := lex_seps (X := []) nl Lex.nil; simpa using this))
      exact this
    · cases e2
  · rw [List.drop_length] at hP
    obtain ⟨g, r1, e1, hg, hh⟩ := hP.gap
    rcases hh with ⟨e2, _⟩ | ⟨_, _, _, e2, _⟩
    · rw [e2, List.append_nil] at e1
      subst e1
      have hd : (tps.drop (tps.length - 1)).map Prod.fst = [t'] := by
        have hi1 : tps.length - 1 < tps.length := by omega
        rw [List.drop_eq_getElem_cons hi1, List.map_cons]
        rw [List.getElem?_eq_getElem hi1] at h2
        rw [Option.some.inj h2, Nat.sub_add_cancel h1, List.drop_length]
        rfl
      have q := cont (t'.cs ++ (r' ++ ([10] ++ []))) (by
        rw [hd]
        refine .tok hok (.inr ?_) (lex_seps hg (lex_seps nl Lex.nil))
        rw [← List.append_assoc]
        exact end_seps (fun c hc => (List.mem_append.mp hc).elim (hg c) (nl c)) (fun z => absurd (List.append_eq_nil_iff.mp z).2 (by simp)))
      rw [List.append_nil] at q
      simpa only [List.append_assoc] using q
    · cases e2
section
variable {P : Program} {w : World} {K : PySem.W.Frag} {mg : Str → Option Value} {base : Heap}
def spSpread : Sp := fun vs H Q _ => ∃ (s c : Addr) (z : Str) (tps : List (Tk × Nat)), vs = [.ref s, .str z] ∧ StAt H s c ∧ PLex 0 tps (tl z) ∧ z.length ≤ 2400 ∧
  ∀ (y : Str) (H' : Hp), Lex (tps.map Prod.fst) (tl y) → y.length ≤ 10000 → Draw s c H H' → StAt H' s c → Q (.str y) H'
theorem ok_spread (E : Env K mg) : FnOk P w K mg base CX0 5 E.a_m_law_spread E.d_m_law_spread ["_law_state_here", "_law_text"] spSpread := by
  refine E.F_m_law_spread.ok sc_m_law_spread (fun vs H Q E' h => ?_) (fun cdv A outer s0 H vs Q E' hr h => ?_)
  · obtain ⟨s, c, z, tps, rfl, _⟩ := h
    rfl
  · obtain ⟨s, c, z, tps, rfl, hst, hP, hl, q⟩ := h
    have g_m_law_take := ok_draw (P := P) (w := w) (base := base) E
    have h_m_law_take : Room 1 _ := hr.mono (by omega)
    have g_m_tokenize := ok_tokenize (P := P) (w := w) (base := base) E
    have h_m_tokenize : Room 4 _ := hr
    have hsz : z.length ≤ sizeLine := Nat.le_trans hl (by decide)
    have htl := hP.len
    rw [← len_tl] at htl
    refine ⟨_, (pss_cons (ps_set (i := 2) sc_m_law_spread.nd rfl (Or.inl rfl) (pe_lst (pa_cons pe_str (pa_cons pe_str (pa_cons pe_str (pa_cons pe_str pa_nil))))))
      (pss_cons (ps_set (i := 3) sc_m_law_spread.nd rfl (Or.inl rfl) pe_str)
      (pss_cons (ps_set (i := 4) sc_m_law_spread.nd rfl (Or.inl rfl) pe_int)
      (pss_cons (ps_for PassesOwn.never rfl (pi_list (pe_call g_m_tokenize h_m_tokenize rfl E.G_m_tokenize E.F_m_tokenize.kp E.B_m_tokenize .nil pass0 (pa_cons (pv 1) pa_nil))) (pg_name (i := 5) sc_m_law_spread.nd rfl (Or.inl rfl)) (pss_cons (ps_set (i := 3) sc_m_law_spread.nd rfl (Or.inl rfl) (pe_op op_add_str (pv 3) (pe_slice sl_str (pv 1) (po_some (pv 4)) (po_some (pe_ix ix_tup (pv 5) pe_int (fun _ _ => rfl))))))
      (pss_cons (ps_if (pt_cmpR op_gt (pe_ix ix_tup (pv 5) pe_int (fun _ _ => rfl)) pe_int (nomark _)) (pss_one (ps_set (i := 3) sc_m_law_spread.nd rfl (Or.inl rfl) (pe_op op_add_str (pv 3) (pe_ix ix_list (pv 2) (pe_call g_m_law_take h_m_law_take rfl E.G_m_law_take E.F_m_law_take.kp E.B_m_law_take .nil pass0 (pa_cons (pv 0) (pa_cons pe_int pa_nil))) (fun _ _ => rfl))))) pss_nil)
      (pss_one (ps_set (i := 4) sc_m_law_spread.nd rfl (Or.inl rfl) (pe_ix ix_tup (pv 5) pe_int (fun _ _ => rfl)))))))
      (pss_one (ps_ret (pe_op op_add_str (pe_op op_add_str (pv 3) (pe_slice sl_str (pv 1) (po_some (pv 4)) po_none)) pe_str))))))), ?_⟩
    refine ⟨by show 4 ≤ sizeLine; decide, fun L hL => ?_⟩
    have s1 := same_new (o := .lst [.str " ", .str "\n", .str "  ", .str " \n "]) hL
    obtain ⟨nLs, nLc⟩ := hst.apart hL
    refine ⟨_, rfl, z, tps, rfl, hP, by omega, fun T H1 s2 hT hTP => ?_⟩
    obtain ⟨rs, hTl, hrl, hrf⟩ := hTP
    have st1 := (hst.same s1).same s2
    have nTs : T ≠ s ∧ T ≠ c := (hst.same s1).apart hT
    have hL1 := s2 _ _ (upd_same (H := H) (a := L) (o := .lst [.str " ", .str "\n", .str "  ", .str " \n "]))
    refine ⟨T, rfl, ⟨_, SqL.of hTl⟩, for_list (K := K) (a := T) (xs := rs.map V.ref) (fun i σ H' => ∃ (R : Str) (last : Nat) (tk : Option V), σ = [some (.ref s), some (.str z), some (.ref L), some (.str R), some (.int last), tk] ∧ Draw s c H1 H' ∧ StAt H' s c ∧ Sprd z tps i R last ∧ i ≤ tps.length)
      ⟨"", 0, none, rfl, Draw.refl, st1, ⟨[], tl z, rfl, rfl, .inl ⟨rfl, rfl, hP⟩, fun X hX => hX, by decide +kernel⟩, Nat.zero_le _⟩ (fun i σ H' _ h => by
        obtain ⟨_, _, _, _, d, _⟩ := h
        exact SqL.of (d _ _ nTs.1 nTs.2 hTl)) ?_ ?_⟩
    · rintro i y σ H' hi ⟨R, last, tk, rfl, dH, stH, hS, _⟩
      rw [List.getElem?_map] at hi
      obtain ⟨r, hr1, rfl⟩ := Option.map_eq_some_iff.mp hi
      have hit : i < tps.length := by rw [← hrl]; exact (List.getElem?_eq_some_iff.mp hr1).1
      obtain ⟨⟨t, n⟩, htn⟩ : ∃ p, tps[i]? = some p := ⟨tps[i], List.getElem?_eq_getElem hit⟩
      obtain ⟨r', hr2, hr3⟩ := hrf i t n htn
      rw [hr1] at hr2
      cases hr2
      have hr3' : H' r = some (.tup [.str t.kind, t.val, .int n]) := dH.tups st1 _ _ hr3
      obtain ⟨cp, ecp, lcp, lnz, sp1, sp2⟩ := hS.step htn
      have hRl : R.length ≤ last + 3 * i := by
        obtain ⟨_, _, _, _, _, _, h⟩ := hS
        exact h
      refine ⟨_, rfl, _, rfl, _, rfl, _, rfl, _, rfl, r, _, _, _, rfl, rfl, SqT.of hr3', atI_nat (j := 2) rfl, _, rfl, z, rfl, hsz, ?_⟩
      rw [ecp]
      refine ⟨_, _, rfl, rfl, (by rw [sizeLine_eq]; omega), ?_⟩
      refine ⟨_, rfl, r, _, _, _, rfl, rfl, SqT.of hr3', atI_nat (j := 2) rfl, _, _, rfl, rfl, _, rfl, ?_⟩
      refine ite2 (fun _ => ?_) (fun c0 => ?_)
      · refine ⟨_, rfl, _, rfl, _, rfl, s, c, 4, rfl, stH, by decide, by decide, fun r5 H4 w0 w1 d4 st4 => ?_⟩
        obtain ⟨v, hv, _⟩ := atI_in (xs := [V.str " ", .str "\n", .str "  ", .str " \n "]) w0 (by show r5 < 4; exact w1)
        obtain ⟨yy, rfl, y1, y2, y3⟩ := kinds_in hv w0 w1
        have hL4 := d4 _ _ nLs nLc (dH _ _ nLs nLc hL1)
        refine ⟨L, _, _, _, rfl, rfl, SqL.of hL4, hv, _, _, rfl, rfl, (by rw [sizeLine_eq, strLen_append]; omega), ?_⟩
        refine ⟨_, rfl, r, _, _, _, rfl, rfl, SqT.of (d4.tups stH _ _ hr3'), atI_nat (j := 2) rfl, ?_⟩
        exact ⟨_, n, _, rfl, dH.trans d4, st4, sp1 yy y1 y2 y3, hit⟩
      · have c0 : ¬ (n : Int) > 0 := of_decide_eq_false (Bool.eq_false_iff.mpr c0)
        refine ⟨_, rfl, r, _, _, _, rfl, rfl, SqT.of hr3', atI_nat (j := 2) rfl, ?_⟩
        exact ⟨_, n, _, rfl, dH, stH, sp2 (by omega), hit⟩
    · rintro σ H' ⟨R, last, tk, rfl, dH, stH, hS, _⟩
      have el : (rs.map V.ref).length = tps.length := by rw [List.length_map, hrl]
      rw [el] at hS
      obtain ⟨f1, f2⟩ := hS.done
      have hll : R.length ≤ last + 3 * tps.length ∧ last ≤ z.length := by
        obtain ⟨pre, rem, ez, e1, _, _, h⟩ := hS
        have : z.length = pre.length + rem.length := by rw [len_tl, ez, List.length_append]
        exact ⟨h, by omega⟩
      have lcut := cutS_length z (some (last : Int)) none
      have ln1 : ("\n" : Str).length = 1 := by decide +kernel
      refine ⟨_, rfl, _, rfl, _, rfl, _, rfl, z, rfl, hsz, _, _, rfl, rfl, (by rw [sizeLine_eq]; omega), _, _, rfl, rfl, (by rw [sizeLine_eq, strLen_append, ln1]; omega), ?_⟩
      exact q _ _ f1 (by omega) (((Draw.of s1).same s2).trans dH) stH
end
end HN
/-! L6: the repr of data where nothing is being shown; a def entered by the law's caller. -/
namespace HN
open PySem TL L2 PyProof.Rows
section
variable {X : Cx}
/-- repr of data, where no repr is under way -/
theorem call_repr_data {k : Nat} (gd : X.A.guards = some []) (hu : X.A.units + 16 * k + 200 < cLine) : CallR X (.builtin "repr") (fun xs H Q => ∃ (a : Addr) (d : PyData), xs = [.ref a] ∧ Has H d (.ref a) ∧ fine d ∧ (PyData.shown d).length ≤ sizeLine ∧ PyData.depth d ≤ 100 ∧ Q (.str (PyData.shown d)) H) := by
  intro pins st env hp ws uu Q inv rel want
  obtain ⟨a, d, rfl, hd, hf, hz, hdep, q⟩ := want
  obtain ⟨u, rfl, ru⟩ := vals1 rel
  obtain ⟨as, rd⟩ := Dp.reads inv d _ u (hd.dp (K := X.K)) ru
  cases (show u = Value.ref a from ru)
  refine repr_of_reads' (h₀ := st.heap) rd (showable_of d hf) (fun hx => ?_) gd (by omega) (fun _ _ e => e) (fun h' u' tk kept => ?_) hz
  · rw [nodict_of d hf] at hx
    cases hx
  · exact ⟨.str (PyData.shown d), hp, inv.un (Un.kept kept) (inv.hok.kept kept), ⟨u', rfl⟩, q⟩
end
/-- the law's def at its caller: what its body promises there -/
def AtLaw (P : Program) (w : World) (K : PySem.W.Frag) (mg : Str → Option Value) (base : Heap) (f : Addr) (fd : FuncData) (ps : List Str) (sp : Sp) : Prop :=
  ∀ (s : Shared) (H : Hp) (args : Args) (us : List Value) (vs : List V) (Q : VK) (E : XK), Env0 P w K mg base callerA [] s H → BindsTo s fd args (ps.zip us) → Vals vs us → sp vs H Q E →
    codeAny (model P w) callerA (.call (.ref f) args) (CR CX0 [] P w H s Q E) s
theorem at_law {P : Program} {w : World} {K : PySem.W.Frag} {mg : Str → Option Value} {base : Heap} {x qual : Str} {st : Stmt} {f : Addr} {fd : FuncData} {N ps : List Str} {k : Nat} {sp : Sp}
    (F : Fun K x qual st f fd) (S : FnScope N ps (defScope st)) (len : ∀ vs H Q E, sp vs H Q E → vs.length = ps.length) (room : Room (k + 1) callerA)
    (body : ∀ (cdv : Value) (s : Shared) (H : Hp) (vs : List V) (Q : VK) (E : XK), Room k (callerA.deeper (envOfC qual (defScope st) s.heap.objs.size f cdv)) → sp vs H Q E →
      ∃ t, PSs (cxOf CX0 P w K mg base N qual (defScope st) f cdv callerA [] s H E).nox (defBody st) t ∧ t { nx := fun _ H' => Q .non H', rt := Q } (start N vs) H) : AtLaw P w K mg base f fd ps sp := by
  obtain ⟨oc, od, kV, doc, pm, an, cdv, ct, osl, rfl, look, code⟩ := F.ex
  intro s H args us vs Q E env0 bind rel want
  have count := len _ _ _ _ want
  have inK : K.In s.heap := env0.mod.kin.keeps fun b o e => (env0.bs b o e).1
  have free : s.heap.NoLimit := env0.mod.nolimit.keeps fun b o e => (env0.bs b o e).1
  have kinds : ∀ y ∈ ps.zip us, (defScope st).names.lookup y.1 = some .local ∨ ((defScope st).names.lookup y.1 = some .cell ∧ ((cellsFrom (s.heap.objs.size + 1) (defScope st).names []).lookup y.1).isSome = true) := by
    rintro ⟨m, v⟩ hy
    rcases S.par m (List.of_mem_zip hy).1 with q | q
    · exact .inl q
    · exact .inr ⟨q, PySem.W.cellsFrom_some _ _ _ (.inl q)⟩
  refine codeAny_call_function room.depth (inK _ _ look) rfl S.co S.gen rfl (PySem.W.codeRec_of inK code) (bind _ _ _ _ ?_)
  refine wpAny_newFunctionEnv_cells S.kind kinds fun env here s2 inCall => ?_
  subst here
  refine ⟨free.keeps inCall.toInCall.keep, codeAny_func ?_⟩
  obtain ⟨t, term, reading⟩ := body cdv s H vs Q E (room.deeper _) want
  have inv0 : Inv (cxOf CX0 P w K mg base N qual (defScope st) f cdv callerA [] s H E) [] (start N vs) H s2 := inv_start S room.hd env0 count rel inCall
  refine wpAny_mono (term.nox.run [] s2 (start N vs) H _ inv0 reading) (fun flow s' back => ?_) fun _ _ back => back
  cases flow with
  | ret u =>
    obtain ⟨v, σ', H', J, rv, q⟩ := back
    exact ⟨v, H', J.os, J.bare, J.base, J.hok, rv, q⟩
  | next =>
    obtain ⟨σ', H', J, q⟩ := back
    exact ⟨V.non, H', J.os, J.bare, J.base, J.hok, rfl, q⟩
  | brk => exact False.elim (let ⟨_, _, _, q⟩ := back; q)
  | cont => exact False.elim (let ⟨_, _, _, q⟩ := back; q)
/-- the law called with its script, behind the top -/
theorem script_run {P : Program} {w : World} {K : PySem.W.Frag} {mg mb : Str → Option Value} {fa a : Addr} {fd : FuncData} {x : Str} {sp : Sp} {s : Shared} {vs : List Value} {ns : List Int}
    (inK : K.In s.heap) (hns : s.heap.Ns mainGlobals mg) (hb : s.heap.Ns builtinsNs mb) (hbb : ∀ y : Str, y ≠ "__name__" → mb y = bootBuiltins y) (hlim : s.heap.NoLimit) (hgen : s.gens = #[])
    (ha : s.heap.get? a = some { cls := .type "list", data := .seq vs.toArray }) (hi : IntsAre vs ns) (hl : ns.length ≤ sizeLine)
    (F : ∀ base : Heap, K.In base → base.Ns mainGlobals mg → AtLaw P w K mg base fa fd [x] sp) (hbind : ∀ (s : Shared) (u : Value), BindsTo s fd ⟨[u], []⟩ [(x, u)])
    (hsp : ∀ H : Hp, SqL K H a (ns.map V.int) → sp [.ref a] H (fun v _ => v = .bl true) fun _ _ _ => False) :
    codeAny (model P w) callerA (.call (.ref fa) ⟨[.ref a], []⟩) (fun r s' => r = .ok (.ret (.bool true)) ∧ OldK s.heap s'.heap ∧ s'.os = s.os ∧ AllBare s'.gens) s := by
  have rv := vals_ints hi
  have lv := hi.length
  -- for an abstract heap that tracks at most the script
  have from_heap : ∀ T : Hp, (∀ b u, T b = some u → b = a ∧ ∃ o ys, u = .frz o (.lst ys)) → SqL K T a (ns.map V.int) → HOk P w T s.heap → (T a ≠ none → K.lookup a = none) →
      codeAny (model P w) callerA (.call (.ref fa) ⟨[.ref a], []⟩) (fun r s' => r = .ok (.ret (.bool true)) ∧ OldK s.heap s'.heap ∧ s'.os = s.os ∧ AllBare s'.gens) s := by
    intro T only seen ok apart
    have dictFree : ∀ {b : Addr} {o : Obj} {es : Array DictEntry} {ep : Nat}, s.heap.get? b = some o → o.data = .dict es ep → T b = none := by
      intro b o es ep e d
      cases q : T b with
      | none => rfl
      | some u =>
        obtain ⟨rfl, _⟩ := only b u q
        rw [ha] at e
        cases e
        exact nomatch (show Data.seq vs.toArray _ = Data.dict es ep from d)
    have nsKept : ∀ {b : Addr} {m : Str → Option Value}, s.heap.Ns b m → (hidT s.heap T).Ns b m := by
      rintro b m ⟨o, es, ep, e, d, more⟩
      exact ⟨o, es, ep, hidT_get e (dictFree e d), d, more⟩
    have inBase : K.In (hidT s.heap T) := by
      intro b o e
      refine hidT_get (inK b o e) ?_
      cases q : T b with
      | none => rfl
      | some u =>
        obtain ⟨rfl, _⟩ := only b u q
        rw [apart (by rw [q]; simp)] at e
        cases e
    have md : Mod K mg (hidT s.heap T) := ⟨inBase, nsKept hns, ⟨mb, nsKept hb, hbb⟩, let ⟨m, l1, l2⟩ := hlim; ⟨m, nsKept l1, l2⟩⟩
    have start0 : Env0 P w K mg (hidT s.heap T) callerA [] s T :=
      ⟨rfl, md, fun b o e => of_hidT e, Nat.le_of_eq (hidT_size _ _), trivial, fun b z => absurd (show b ∈ ([] : List Addr) from z) (by simp), ok, .of_eq hgen⟩
    refine codeAny_mono (F _ inBase (nsKept hns) s T ⟨[.ref a], []⟩ [.ref a] [.ref a] _ _ start0 (hbind s (.ref a)) (.cons rfl .nil) (hsp T seen)) fun r s' back => ?_
    cases r with
    | error e => exact False.elim back
    | ok fl =>
      cases fl with
      | next => exact False.elim back
      | brk => exact False.elim back
      | cont => exact False.elim back
      | ret u =>
        obtain ⟨v, T', os, bare, un, ok', r', q⟩ := back
        cases (show v = .bl true from q)
        obtain rfl : u = Value.bool true := r'
        refine ⟨rfl, OldK.of_keep fun b o e => ?_, os, bare⟩
        cases q : T b with
        | none => exact un.keep b o e q (fun z => absurd (show b ∈ ([] : List Addr) from z) (by simp)) (by simp)
        | some u =>
          obtain ⟨rfl, ob, ys, rfl⟩ := only b u q
          obtain ⟨k1, _⟩ := ok b _ q
          obtain ⟨k2, _⟩ := ok' b _ (un.frzs b ob _ q)
          rw [e] at k1
          cases k1
          exact k2
  cases known : K.lookup a with
  | some o =>
    have e := inK a o known
    rw [ha] at e
    cases e
    refine from_heap (fun _ => none) (fun b u z => nomatch z) (.inr ⟨_, vs.toArray, _, known, rfl, rfl, rfl, ?_, by simpa using rv⟩) (fun b u z => nomatch z) fun z => absurd rfl z
    rw [List.size_toArray, lv]
    exact hl
  | none =>
    refine from_heap (fun b => if b = a then some (.frz { cls := .type "list", data := .seq vs.toArray } (.lst (ns.map V.int))) else none) (fun b u z => ?_) (.inl (.inr ⟨{ cls := .type "list", data := .seq vs.toArray }, if_pos rfl⟩)) (fun b u z => ?_) fun _ => known
    · by_cases hba : b = a
      · have z' := (if_pos hba).symm.trans z
        cases z'
        exact ⟨hba, _, _, rfl⟩
      · exact nomatch (if_neg hba).symm.trans z
    · by_cases hba : b = a
      · have z' := (if_pos hba).symm.trans z
        cases z'
        subst hba
        exact ⟨ha, by rw [List.length_map]; exact hl, vs, _, rv, ha⟩
      · exact nomatch (if_neg hba).symm.trans z
theorem walk_at {l : PySem.W.OpenLaw} {n : Nat} {q : Program} {loose : List Str} {XP : (Str → Option Value) → Heap → Prop} {YP : World → Heap → Prop} {d : DefRec} {K : Params → PySem.W.Frag} {sp : PySem.W.Frag → Sp} {x : Str}
    (hn : l.most = some n) (hn2 : n ≤ sizeLine) (hdf : d.params.defaults = []) (hY : ∀ (w : World) (h : Heap), YP w h → (K w.params).In h)
    (F : ∀ (w : World) (mg : Str → Option Value) (fa : Addr) (h : Heap), (K w.params).In h → h.Ns mainGlobals mg → mg d.name = some (.ref fa) →
      ∃ fd : FuncData, (∀ (s : Shared) (u : Value), BindsTo s fd ⟨[u], []⟩ [(x, u)]) ∧ ∀ base : Heap, (K w.params).In base → base.Ns mainGlobals mg → AtLaw l.prog w (K w.params) mg base fa fd [x] (sp (K w.params)))
    (hsp : ∀ (Kf : PySem.W.Frag) (H : Hp) (a : Addr) (ns : List Int), ns.length ≤ n → SqL Kf H a (ns.map V.int) → sp Kf [.ref a] H (fun v _ => v = .bl true) fun _ _ _ => False) :
    PySem.W.WalkO q loose XP YP l.row.toRowW d [] (fun f vs => PySem.call f vs) := by
  refine Att.attach_call hn hdf fun w s0 s1 mg mb fa o pm cd doc a vs ns G Y ho hd hcd hmg hobj hints hlen hgen => ?_
  have inK := hY w _ Y
  obtain ⟨fd, hb, hF⟩ := F w mg fa _ inK G.T.g hmg
  exact script_run inK G.T.g G.T.b G.T.builtins G.T.nolimit hgen hobj hints (Nat.le_trans hlen hn2) hF hb fun H hS => hsp (K w.params) H a ns hlen hS
end HN
/-! L7: the law's own body. -/
namespace HN
open PySem TL L2 PyProof.Rows
section
variable {P : Program} {w : World} {K : PySem.W.Frag} {mg : Str → Option Value} {base : Heap}
def spLaw (K : PySem.W.Frag) : Sp := fun vs H Q _ => ∃ (a : Addr) (ns : List Int), vs = [.ref a] ∧ SqL K H a (ns.map V.int) ∧ ns.length ≤ 63 ∧ ∀ H' : Hp, Q (.bl true) H'
theorem room_law : Room 171 callerA := ⟨rfl, by decide, by decide⟩
theorem ok_law (E : Env K mg) : AtLaw P w K mg base E.a_m_law E.d_m_law ["_law_script"] (spLaw K) := by
  refine at_law E.F_m_law sc_m_law (fun vs H Q E' h => ?_) room_law (fun cdv s0 H vs Q E' hr h => ?_)
  · obtain ⟨a, ns, rfl, _⟩ := h
    rfl
  · obtain ⟨a, ns, rfl, hS, h63, q⟩ := h
    have gd0 : callerA.guards = some [] := rfl
    generalize callerA = A at gd0 hr ⊢
    have gd : (A.deeper (envOfC "law" (defScope s_m_law) s0.heap.objs.size E.a_m_law cdv)).guards = some [] := gd0
    have g_m_law_state := ok_state (P := P) (w := w) (base := base) E
    have h_m_law_state : Room 1 _ := hr.mono (by omega)
    have g_m_law_take := ok_draw (P := P) (w := w) (base := base) E
    have h_m_law_take : Room 1 _ := hr.mono (by omega)
    have g_m_law_expr := lexpr_all (P := P) (w := w) (base := base) E 12
    have h_m_law_expr : Room 12 _ := hr.mono (by omega)
    have g_m_law_type := ltype_all (P := P) (w := w) (base := base) E 6
    have h_m_law_type : Room 6 _ := hr.mono (by omega)
    have g_m_show := (show_all (P := P) (w := w) (base := base) E 40).sh
    have h_m_show : Room 40 _ := hr.mono (by omega)
    have g_m_show_type := (showT_all (P := P) (w := w) (base := base) E 9).1
    have h_m_show_type : Room 9 _ := hr.mono (by omega)
    have g_m_law_equal := eq_all (P := P) (w := w) (base := base) E 12
    have h_m_law_equal : Room 12 _ := hr.mono (by omega)
    have g_m_read := ok_read (P := P) (w := w) (base := base) E
    have h_m_read : Room 170 _ := hr
    have g_m_read_type := ok_read_type (P := P) (w := w) (base := base) E
    have h_m_read_type : Room 170 _ := hr
    have g_m_law_spread := ok_spread (P := P) (w := w) (base := base) E
    have h_m_law_spread : Room 5 _ := hr.mono (by omega)
    refine ⟨_, (pss_cons (ps_set (i := 1) sc_m_law.nd rfl (Or.inl rfl) (pe_call g_m_law_state h_m_law_state rfl E.G_m_law_state E.F_m_law_state.kp E.B_m_law_state .nil pass0 (pa_cons (pv 0) pa_nil)))
      (pss_cons (ps_set (i := 2) sc_m_law.nd rfl (Or.inl rfl) (pe_call g_m_law_expr h_m_law_expr rfl E.G_m_law_expr E.F_m_law_expr.kp E.B_m_law_expr .nil pass0 (pa_cons (pv 1) (pa_cons (pe_op op_add pe_int (pe_call g_m_law_take h_m_law_take rfl E.G_m_law_take E.F_m_law_take.kp E.B_m_law_take .nil pass0 (pa_cons (pv 1) (pa_cons pe_int pa_nil)))) pa_nil))))
      (pss_cons (ps_if (pt_cmpR op_eq (pe_call g_m_law_take h_m_law_take rfl E.G_m_law_take E.F_m_law_take.kp E.B_m_law_take .nil pass0 (pa_cons (pv 1) (pa_cons pe_int pa_nil))) pe_int (nomark _)) (pss_one (ps_set (i := 2) sc_m_law.nd rfl (Or.inl rfl) (pe_tup (pa_cons pe_str (pa_cons (pv 2) (pa_cons (pe_call g_m_law_expr h_m_law_expr rfl E.G_m_law_expr E.F_m_law_expr.kp E.B_m_law_expr .nil pass0 (pa_cons (pv 1) (pa_cons pe_int pa_nil))) pa_nil)))))) pss_nil)
      (pss_cons (ps_set (i := 3) sc_m_law.nd rfl (Or.inl rfl) (pe_call g_m_law_type h_m_law_type rfl E.G_m_law_type E.F_m_law_type.kp E.B_m_law_type .nil pass0 (pa_cons (pv 1) (pa_cons (pe_op op_add pe_int (pe_call g_m_law_take h_m_law_take rfl E.G_m_law_take E.F_m_law_take.kp E.B_m_law_take .nil pass0 (pa_cons (pv 1) (pa_cons pe_int pa_nil)))) pa_nil))))
      (pss_cons (ps_set (i := 4) sc_m_law.nd rfl (Or.inl rfl) (pe_callB (call_repr_data (k := 170) gd hr.un) (by rfl) E.z_repr (by decide +kernel) (pa_cons (pe_tup (pa_cons (pv 2) (pa_cons (pv 3) pa_nil))) pa_nil)))
      (pss_cons (ps_set (i := 5) sc_m_law.nd rfl (Or.inl rfl) (pe_call g_m_show h_m_show rfl E.G_m_show E.F_m_show.kp E.B_m_show .nil pass0 (pa_cons (pv 2) pa_nil)))
      (pss_cons (ps_set (i := 6) sc_m_law.nd rfl (Or.inl rfl) (pe_call g_m_show_type h_m_show_type rfl E.G_m_show_type E.F_m_show_type.kp E.B_m_show_type .nil pass0 (pa_cons (pv 3) pa_nil)))
      (pss_cons (ps_if (PW.pt (pw_or (pt_not (pt_val (pe_callB call_isi (by rfl) E.z_isinstance (by decide +kernel) (pa_cons (pv 5) (pa_cons (pe_bltn (v := .ty "str") (by rfl) E.z_str (by decide +kernel) rfl) pa_nil))))) (pw_or1 (pt_not (pt_val (pe_callB call_isi (by rfl) E.z_isinstance (by decide +kernel) (pa_cons (pv 6) (pa_cons (pe_bltn (v := .ty "str") (by rfl) E.z_str (by decide +kernel) rfl) pa_nil)))))))) (pss_one (ps_ret pe_bl)) pss_nil)
      (pss_cons (ps_if (PW.pt (pw_or (pt_not (pt_val (pe_call g_m_law_equal h_m_law_equal rfl E.G_m_law_equal E.F_m_law_equal.kp E.B_m_law_equal .nil pass0 (pa_cons (pe_call g_m_read h_m_read rfl E.G_m_read E.F_m_read.kp E.B_m_read .nil pass0 (pa_cons (pv 5) pa_nil)) (pa_cons (pv 2) pa_nil))))) (pw_or1 (pt_not (pt_val (pe_call g_m_law_equal h_m_law_equal rfl E.G_m_law_equal E.F_m_law_equal.kp E.B_m_law_equal .nil pass0 (pa_cons (pe_call g_m_read_type h_m_read_type rfl E.G_m_read_type E.F_m_read_type.kp E.B_m_read_type .nil pass0 (pa_cons (pv 6) pa_nil)) (pa_cons (pv 3) pa_nil)))))))) (pss_one (ps_ret pe_bl)) pss_nil)
      (pss_cons (ps_if (PW.pt (pw_or (pt_cmpR op_ne (pe_call g_m_show h_m_show rfl E.G_m_show E.F_m_show.kp E.B_m_show .nil pass0 (pa_cons (pe_call g_m_read h_m_read rfl E.G_m_read E.F_m_read.kp E.B_m_read .nil pass0 (pa_cons (pv 5) pa_nil)) pa_nil)) (pv 5) (nomark _)) (pw_or (pt_cmpR op_ne (pe_call g_m_show_type h_m_show_type rfl E.G_m_show_type E.F_m_show_type.kp E.B_m_show_type .nil pass0 (pa_cons (pe_call g_m_read_type h_m_read_type rfl E.G_m_read_type E.F_m_read_type.kp E.B_m_read_type .nil pass0 (pa_cons (pv 6) pa_nil)) pa_nil)) (pv 6) (nomark _)) (pw_or1 (pt_cmpR op_ne (pe_callB (call_repr_data (k := 170) gd hr.un) (by rfl) E.z_repr (by decide +kernel) (pa_cons (pe_tup (pa_cons (pv 2) (pa_cons (pv 3) pa_nil))) pa_nil)) (pv 4) (nomark _)))))) (pss_one (ps_ret pe_bl)) pss_nil)
      (pss_one (ps_ret (pe_call g_m_law_equal h_m_law_equal rfl E.G_m_law_equal E.F_m_law_equal.kp E.B_m_law_equal .nil pass0 (pa_cons (pe_call g_m_read h_m_read rfl E.G_m_read E.F_m_read.kp E.B_m_read .nil pass0 (pa_cons (pe_call g_m_law_spread h_m_law_spread rfl E.G_m_law_spread E.F_m_law_spread.kp E.B_m_law_spread .nil pass0 (pa_cons (pv 1) (pa_cons (pv 5) pa_nil))) pa_nil)) (pa_cons (pv 2) pa_nil))))))))))))))), ?_⟩
    refine ⟨_, rfl, a, ns, rfl, hS, h63, fun s c H1 s1 st1 => ?_⟩
    refine ⟨_, rfl, _, rfl, s, c, 4, rfl, st1, by decide, by decide, fun r H2 z0 z1 d2 st2 => ⟨_, _, rfl, rfl, ?_⟩⟩
    obtain ⟨m, rfl⟩ := Int.eq_ofNat_of_zero_le z0
    have em : (1 : Int) + (m : Int) = ((1 + m : Nat) : Int) := by omega
    refine ⟨s, c, 1 + m, by rw [← em]; rfl, st2, by omega, by omega, fun ve e H3 o1 t1 l1 hv d3 st3 => ?_⟩
    refine ⟨_, rfl, s, c, 5, rfl, st3, by decide, by decide, fun r5 H4 y0 y1 d4 st4 => ⟨rfl, _, rfl, ?_⟩⟩
    have hv4 := hv.keep (d4.tups st3)
    refine ite2 (fun _ => ?A) (fun _ => ?B)
    case' A =>
      refine ⟨_, rfl, _, rfl, s, c, 2, rfl, st4, by omega, by omega, fun v2 e2 H5 o2 t2 l2 hv2 d5 st5 => ⟨(by show 3 ≤ sizeLine; decide), fun b hb => ?_⟩⟩
      have k1 := same_new (o := .tup [.str "print", ve, v2]) hb
      obtain ⟨e', ee⟩ : ∃ x, x = Ex.print e e2 := ⟨_, rfl⟩
      have dr : Drawn e' := by rw [ee]; exact .inr ⟨e, e2, rfl, ⟨o1, t1, by omega⟩, ⟨o2, t2, l2⟩⟩
      have hx : Has (upd H5 b (.tup [.str "print", ve, v2])) e'.d (.ref b) := by rw [ee]; exact .tup upd_same (.cons (.str _) (.cons ((hv4.keep (d5.tups st4)).keep (Tups.of k1)) (.cons (hv2.keep (Tups.of k1)) .nil)))
      have sx := st5.same k1
    case' B =>
      obtain ⟨e', ee⟩ : ∃ x, x = e := ⟨_, rfl⟩
      have dr : Drawn e' := by rw [ee]; exact .inl ⟨o1, t1, by omega⟩
      have hx : Has H4 e'.d ve := by rw [ee]; exact hv4
      have sx := st4
    all_goals
      refine ⟨_, rfl, _, rfl, s, c, 4, rfl, sx, by decide, by decide, fun r6 H6 x0 x1 d6 st6 => ⟨_, _, rfl, rfl, ?_⟩⟩
      obtain ⟨m6, rfl⟩ := Int.eq_ofNat_of_zero_le x0
      have em6 : (1 : Int) + (m6 : Int) = ((1 + m6 : Nat) : Int) := by omega
      refine ⟨s, c, 1 + m6, by rw [← em6]; rfl, st6, by omega, by omega, fun vt t H7 l7 ht d7 st7 => ?_⟩
      have hx := (hx.keep (d6.tups sx)).keep (d7.tups st6)
      have lt : t.h ≤ 4 := by omega
      obtain ⟨f1, f2, f3⟩ := kept_fits dr lt
      have hh := dr.h
      have hl := dr.len
      have hl2 := showT_74 lt
      refine ⟨_, rfl, _, rfl, (by show 2 ≤ sizeLine; decide), fun p hp => ?_⟩
      have k1 : ∀ {o}, Same H7 (upd H7 p o) := fun {o} => same_new hp
      refine ⟨p, _, rfl, .tup upd_same (.cons (hx.keep (Tups.of k1)) (.cons (ht.keep (Tups.of k1)) .nil)), f1, f2, by omega, ?_⟩
      refine ⟨_, rfl, _, _, rfl, hx.keep (Tups.of k1), dr.ok, rfl, by omega, by omega, fun H8 s8 => ?_⟩
      have s8 := k1.trans s8
      refine ⟨_, rfl, _, t, rfl, ht.keep (Tups.of s8), by omega, by omega, fun H9 s9 => ?_⟩
      have s9 := s8.trans s9
      have hx := hx.keep (Tups.of s9)
      have ht := ht.keep (Tups.of s9)
      have st9 := st7.same s9
      refine ⟨_, rfl, _, _, _, _, _, rfl, .ty "str", .base (.str _), kit_ty (r := true) (by decide +kernel), _, rfl, ?_⟩
      refine nT rfl ?_
      refine ⟨_, rfl, _, _, _, _, _, rfl, .ty "str", .base (.str _), kit_ty (r := true) (by decide +kernel), _, rfl, ?_⟩
      refine nT rfl ?_
      refine ⟨_, rfl, _, e', rfl, e'.lexes dr.ok, by omega, by omega, fun va HA sA hA => ⟨_, rfl, ?_⟩⟩
      have hx := hx.keep (Tups.of sA)
      have ht := ht.keep (Tups.of sA)
      refine ⟨_, _, _, rfl, hA, hx, e'.wid, by have := e'.depth; omega, fun HB sB => ⟨_, rfl, ?_⟩⟩
      refine nT rfl ?_
      have hx := hx.keep (Tups.of sB)
      have ht := ht.keep (Tups.of sB)
      have stB := (st9.same sA).same sB
      refine ⟨_, rfl, _, t, rfl, t.lexes, by omega, by omega, fun vb HC sC hC => ⟨_, rfl, ?_⟩⟩
      have hx := hx.keep (Tups.of sC)
      have ht := ht.keep (Tups.of sC)
      refine ⟨_, _, _, rfl, hC, ht, t.wid, by have := t.depth; omega, fun HD sD => ⟨_, rfl, ?_⟩⟩
      refine nT rfl ?_
      have hx := hx.keep (Tups.of sD)
      have ht := ht.keep (Tups.of sD)
      have stD := (stB.same sC).same sD
      refine ⟨_, rfl, _, e', rfl, e'.lexes dr.ok, by omega, by omega, fun vc HE sE hE => ?_⟩
      have hx := hx.keep (Tups.of sE)
      have ht := ht.keep (Tups.of sE)
      refine ⟨_, e', rfl, hE, dr.ok, rfl, by omega, by omega, fun HF sF => ?_⟩
      refine ⟨_, rfl, rfl, _, rfl, ?_⟩
      refine iteNS rfl ?_
      have hx := hx.keep (Tups.of sF)
      have ht := ht.keep (Tups.of sF)
      refine ⟨_, rfl, _, t, rfl, t.lexes, by omega, by omega, fun vd HG sG hG => ?_⟩
      have hx := hx.keep (Tups.of sG)
      have ht := ht.keep (Tups.of sG)
      refine ⟨_, t, rfl, hG, by omega, by omega, fun HI sI => ?_⟩
      refine ⟨_, rfl, rfl, _, rfl, ?_⟩
      refine iteNS rfl ?_
      have hx := hx.keep (Tups.of sI)
      have ht := ht.keep (Tups.of sI)
      have stI := (((stD.same sE).same sF).same sG).same sI
      refine ⟨_, rfl, _, rfl, (by show 2 ≤ sizeLine; decide), fun p2 hp2 => ?_⟩
      have k2 : ∀ {o}, Same HI (upd HI p2 o) := fun {o} => same_new hp2
      refine ⟨p2, _, rfl, .tup upd_same (.cons (hx.keep (Tups.of k2)) (.cons (ht.keep (Tups.of k2)) .nil)), f1, f2, by omega, ?_⟩
      refine ⟨_, rfl, rfl, _, rfl, ?_⟩
      refine iteNS rfl ?_
      obtain ⟨tps, et, hP⟩ := (e'.lexes dr.ok).places 0
      refine ⟨_, rfl, _, rfl, s, c, _, tps, rfl, stI.same k2, hP, by omega, fun y HJ hy ly dJ stJ => ?_⟩
      refine ⟨y, e', rfl, by rw [← et]; exact hy, ly, by omega, fun ve' HL sL hL => ⟨_, rfl, ?_⟩⟩
      refine ⟨_, _, _, rfl, hL, ((hx.keep (Tups.of k2)).keep (dJ.tups (stI.same k2))).keep (Tups.of sL), e'.wid, by have := e'.depth; omega, fun HM sM => ?_⟩
      exact q _
end
end HN
/-! Top: what the law needs of the top, from the head's facts. Printed by gen.py. -/
namespace HN
open PySem TL L2
theorem vals_abs : ∀ {l : List Str} {us : List Value}, us.map absV = (l.map V.str).map some → Vals (l.map V.str) us
  | [], [], _ => .nil
  | [], _ :: _, e => by cases e
  | _ :: _, [], e => by cases e
  | x :: l, u :: us, e => by
    rw [List.map_cons, List.map_cons, List.map_cons] at e
    obtain ⟨e1, e2⟩ := List.cons.inj e
    refine .cons ?_ (vals_abs e2)
    cases u with
    | str y t => cases e1; exact ⟨t, rfl⟩
    | _ => cases e1
section
variable {K : PySem.W.Frag} {h : Heap} {mg : Str → Option Value}
abbrev DefAt (K : PySem.W.Frag) (mg : Str → Option Value) (x : Str) (st : Stmt) (ps : List Str) : Prop := ∃ (f : Addr) (fd : FuncData), Fun K x x st f fd ∧ Binds K fd ps [] ∧ mg x = some (.ref f)
abbrev MethAt (K : PySem.W.Frag) (C : Addr) (x qual : Str) (st : Stmt) (ps : List Str) : Prop := ∃ (f : Addr) (fd : FuncData), Fun K x qual st f fd ∧ Binds K fd ps [] ∧ Meth K C x f
abbrev InitAt (K : PySem.W.Frag) (C : Addr) (x qual : Str) (st : Stmt) (ps : List Str) : Prop := ∃ (f : Addr) (fd : FuncData), Fun K x qual st f fd ∧ Binds K fd ps [] ∧ Mk K C f
abbrev TupAt (K : PySem.W.Frag) (mg : Str → Option Value) (x : Str) (l : List Str) : Prop := ∃ a : Addr, mg x = some (.ref a) ∧ ∀ H : Hp, SqT K H a (l.map V.str)
abbrev BindsAt (x qual : Str) (st : Stmt) (ps : List Str) : Prop := ∀ (kV doc pm : Value) (an : Option Addr) (cdv ct : Value) (us : List Value), us.length = ps.length → bindArgs (PySem.W.fnOf x qual (defArgs st) (defBody st) (defScope st) .none kV doc pm an cdv ct) ⟨us, []⟩ = pure (ps.zip us)
theorem def_mk {x : Str} {st : Stmt} {ps : List Str} {f : Addr} {oc : Value} {od an : Option Addr} {osl : Array (Option Value)} {kV doc pm cdv ct : Value} (b : BindsAt x x st ps) (X : K.In h) (G : h.Ns mainGlobals mg) (a : PySem.W.nsIn K mainGlobals x = some (some (.ref f)))
    (l : K.lookup f = some ⟨oc, od, .func (PySem.W.fnOf x x (defArgs st) (defBody st) (defScope st) .none kV doc pm an cdv ct), osl⟩) (c : PySem.W.codeIn K cdv x = true) (k : PySem.W.keepIn K (.ref f) = true) : DefAt K mg x st ps :=
  ⟨f, _, fun_mk l c k, (fun_mk l c k).binds b, PySem.W.mg_of X G a⟩
theorem meth_mk {C : Addr} {x qual : Str} {st : Stmt} {ps : List Str} {f : Addr} {oc : Value} {od an : Option Addr} {osl : Array (Option Value)} {kV doc pm cdv ct : Value} (b : BindsAt x qual st ps) (a : PySem.W.findIn K (.ref C) x = some (some (.ref f))) (i : PySem.W.isFn K (.ref f) = true)
    (l : K.lookup f = some ⟨oc, od, .func (PySem.W.fnOf x qual (defArgs st) (defBody st) (defScope st) .none kV doc pm an cdv ct), osl⟩) (c : PySem.W.codeIn K cdv qual = true) (k : PySem.W.keepIn K (.ref f) = true) : MethAt K C x qual st ps :=
  ⟨f, _, fun_mk l c k, (fun_mk l c k).binds b, ⟨a, i, k⟩⟩
theorem init_mk {C : Addr} {qual : Str} {st : Stmt} {ps : List Str} {f : Addr} {oc : Value} {od an : Option Addr} {osl : Array (Option Value)} {kV doc pm cdv ct : Value} (b : BindsAt "__init__" qual st ps) (a : PySem.W.findIn K (.ref C) "__init__" = some (some (.ref f))) (i : PySem.W.isFn K (.ref f) = true)
    (l : K.lookup f = some ⟨oc, od, .func (PySem.W.fnOf "__init__" qual (defArgs st) (defBody st) (defScope st) .none kV doc pm an cdv ct), osl⟩) (c : PySem.W.codeIn K cdv qual = true) (k : PySem.W.keepIn K (.ref f) = true) (mk : PySem.W.makesIn K C = true) (kc : PySem.W.keepIn K (.ref C) = true) : InitAt K C "__init__" qual st ps :=
  ⟨f, _, fun_mk l c k, (fun_mk l c k).binds b, ⟨mk, a, i, kc⟩⟩
theorem tup_mk {x : Str} {l : List Str} {a : Addr} {od : Option Addr} {its : Array Value} {n : Nat} {osl : Array (Option Value)} (X : K.In h) (G : h.Ns mainGlobals mg) (aa : PySem.W.nsIn K mainGlobals x = some (some (.ref a))) (ll : K.lookup a = some ⟨.type "tuple", od, .seq its n, osl⟩)
    (e : its.toList.map absV = (l.map V.str).map some) (hl : l.length ≤ 100) : TupAt K mg x l := by
  have v := vals_abs e
  refine ⟨a, PySem.W.mg_of X G aa, fun H => .inr ⟨_, its, n, ll, rfl, rfl, ?_, v⟩⟩
  have q := v.length
  rw [List.length_map] at q
  rw [← Array.length_toList, ← q]
  exact Nat.le_trans hl (by decide)
theorem int_mk {x : Str} {i : Int} {t : Tok} (X : K.In h) (G : h.Ns mainGlobals mg) (a : PySem.W.nsIn K mainGlobals x = some (some (.int i t))) : ∃ t : Tok, mg x = some (.int i t) := ⟨t, PySem.W.mg_of X G a⟩
theorem str_mk {x y : Str} {t : Tok} (X : K.In h) (G : h.Ns mainGlobals mg) (a : PySem.W.nsIn K mainGlobals x = some (some (.str y t))) : ∃ t : Tok, mg x = some (.str y t) := ⟨t, PySem.W.mg_of X G a⟩
theorem b_m_end_of_run : BindsAt "end_of_run" "end_of_run" s_m_end_of_run ["text", "at", "characters"] := fun _ _ _ _ _ _ us hl => match us, hl with | [_, _, _], _ => rfl
theorem b_m_number_token : BindsAt "number_token" "number_token" s_m_number_token ["text", "at"] := fun _ _ _ _ _ _ us hl => match us, hl with | [_, _], _ => rfl
theorem b_m_word_token : BindsAt "word_token" "word_token" s_m_word_token ["text", "at"] := fun _ _ _ _ _ _ us hl => match us, hl with | [_, _], _ => rfl
theorem b_m_sign_token : BindsAt "sign_token" "sign_token" s_m_sign_token ["text", "at"] := fun _ _ _ _ _ _ us hl => match us, hl with | [_, _], _ => rfl
theorem b_m_next_token : BindsAt "next_token" "next_token" s_m_next_token ["text", "at"] := fun _ _ _ _ _ _ us hl => match us, hl with | [_, _], _ => rfl
theorem b_m_tokenize : BindsAt "tokenize" "tokenize" s_m_tokenize ["text"] := fun _ _ _ _ _ _ us hl => match us, hl with | [_], _ => rfl
theorem b_r_init : BindsAt "__init__" "Reader.__init__" s_r_init ["self", "text"] := fun _ _ _ _ _ _ us hl => match us, hl with | [_, _], _ => rfl
theorem b_r_here : BindsAt "here" "Reader.here" s_r_here ["self"] := fun _ _ _ _ _ _ us hl => match us, hl with | [_], _ => rfl
theorem b_r_fail : BindsAt "fail" "Reader.fail" s_r_fail ["self"] := fun _ _ _ _ _ _ us hl => match us, hl with | [_], _ => rfl
theorem b_r_sees : BindsAt "sees" "Reader.sees" s_r_sees ["self", "kind", "value"] := fun _ _ _ _ _ _ us hl => match us, hl with | [_, _, _], _ => rfl
theorem b_r_take : BindsAt "take" "Reader.take" s_r_take ["self", "kind", "value"] := fun _ _ _ _ _ _ us hl => match us, hl with | [_, _, _], _ => rfl
theorem b_r_name : BindsAt "name" "Reader.name" s_r_name ["self"] := fun _ _ _ _ _ _ us hl => match us, hl with | [_], _ => rfl
theorem b_r_enter : BindsAt "enter" "Reader.enter" s_r_enter ["self"] := fun _ _ _ _ _ _ us hl => match us, hl with | [_], _ => rfl
theorem b_r_made : BindsAt "made" "Reader.made" s_r_made ["self", "tree", "parts"] := fun _ _ _ _ _ _ us hl => match us, hl with | [_, _, _], _ => rfl
theorem b_r_type_parts : BindsAt "type_parts" "Reader.type_parts" s_r_type_parts ["self"] := fun _ _ _ _ _ _ us hl => match us, hl with | [_], _ => rfl
theorem b_r_simple_type : BindsAt "simple_type" "Reader.simple_type" s_r_simple_type ["self"] := fun _ _ _ _ _ _ us hl => match us, hl with | [_], _ => rfl
theorem b_r_expression : BindsAt "expression" "Reader.expression" s_r_expression ["self"] := fun _ _ _ _ _ _ us hl => match us, hl with | [_], _ => rfl
theorem b_r_function : BindsAt "function" "Reader.function" s_r_function ["self"] := fun _ _ _ _ _ _ us hl => match us, hl with | [_], _ => rfl
theorem b_r_recursive : BindsAt "recursive" "Reader.recursive" s_r_recursive ["self"] := fun _ _ _ _ _ _ us hl => match us, hl with | [_], _ => rfl
theorem b_r_binding : BindsAt "binding" "Reader.binding" s_r_binding ["self"] := fun _ _ _ _ _ _ us hl => match us, hl with | [_], _ => rfl
theorem b_r_conditional : BindsAt "conditional" "Reader.conditional" s_r_conditional ["self"] := fun _ _ _ _ _ _ us hl => match us, hl with | [_], _ => rfl
theorem b_r_comparison : BindsAt "comparison" "Reader.comparison" s_r_comparison ["self"] := fun _ _ _ _ _ _ us hl => match us, hl with | [_], _ => rfl
theorem b_r_total : BindsAt "total" "Reader.total" s_r_total ["self"] := fun _ _ _ _ _ _ us hl => match us, hl with | [_], _ => rfl
theorem b_r_product : BindsAt "product" "Reader.product" s_r_product ["self"] := fun _ _ _ _ _ _ us hl => match us, hl with | [_], _ => rfl
theorem b_r_prefix : BindsAt "prefix" "Reader.prefix" s_r_prefix ["self"] := fun _ _ _ _ _ _ us hl => match us, hl with | [_], _ => rfl
theorem b_r_starts_atom : BindsAt "starts_atom" "Reader.starts_atom" s_r_starts_atom ["self"] := fun _ _ _ _ _ _ us hl => match us, hl with | [_], _ => rfl
theorem b_r_call : BindsAt "call" "Reader.call" s_r_call ["self"] := fun _ _ _ _ _ _ us hl => match us, hl with | [_], _ => rfl
theorem b_r_atom : BindsAt "atom" "Reader.atom" s_r_atom ["self"] := fun _ _ _ _ _ _ us hl => match us, hl with | [_], _ => rfl
theorem b_r_enclosed : BindsAt "enclosed" "Reader.enclosed" s_r_enclosed ["self"] := fun _ _ _ _ _ _ us hl => match us, hl with | [_], _ => rfl
theorem b_r_finish : BindsAt "finish" "Reader.finish" s_r_finish ["self"] := fun _ _ _ _ _ _ us hl => match us, hl with | [_], _ => rfl
theorem b_m_read : BindsAt "read" "read" s_m_read ["text"] := fun _ _ _ _ _ _ us hl => match us, hl with | [_], _ => rfl
theorem b_m_read_type : BindsAt "read_type" "read_type" s_m_read_type ["text"] := fun _ _ _ _ _ _ us hl => match us, hl with | [_], _ => rfl
theorem b_m_show_simple : BindsAt "show_simple" "show_simple" s_m_show_simple ["known"] := fun _ _ _ _ _ _ us hl => match us, hl with | [_], _ => rfl
theorem b_m_show_type : BindsAt "show_type" "show_type" s_m_show_type ["known"] := fun _ _ _ _ _ _ us hl => match us, hl with | [_], _ => rfl
theorem b_m_show_atom : BindsAt "show_atom" "show_atom" s_m_show_atom ["expression"] := fun _ _ _ _ _ _ us hl => match us, hl with | [_], _ => rfl
theorem b_m_show_binder : BindsAt "show_binder" "show_binder" s_m_show_binder ["expression"] := fun _ _ _ _ _ _ us hl => match us, hl with | [_], _ => rfl
theorem b_m_show_leaf : BindsAt "show_leaf" "show_leaf" s_m_show_leaf ["expression"] := fun _ _ _ _ _ _ us hl => match us, hl with | [_], _ => rfl
theorem b_m_show_atoms : BindsAt "show_atoms" "show_atoms" s_m_show_atoms ["expression"] := fun _ _ _ _ _ _ us hl => match us, hl with | [_], _ => rfl
theorem b_m_show : BindsAt "show" "show" s_m_show ["expression"] := fun _ _ _ _ _ _ us hl => match us, hl with | [_], _ => rfl
theorem b_m_law_state : BindsAt "_law_state" "_law_state" s_m_law_state ["_law_script"] := fun _ _ _ _ _ _ us hl => match us, hl with | [_], _ => rfl
theorem b_m_law_take : BindsAt "_law_take" "_law_take" s_m_law_take ["_law_state_here", "_law_most"] := fun _ _ _ _ _ _ us hl => match us, hl with | [_, _], _ => rfl
theorem b_m_law_name : BindsAt "_law_name" "_law_name" s_m_law_name ["_law_state_here"] := fun _ _ _ _ _ _ us hl => match us, hl with | [_], _ => rfl
theorem b_m_law_type : BindsAt "_law_type" "_law_type" s_m_law_type ["_law_state_here", "_law_depth"] := fun _ _ _ _ _ _ us hl => match us, hl with | [_, _], _ => rfl
theorem b_m_law_number : BindsAt "_law_number" "_law_number" s_m_law_number ["_law_state_here"] := fun _ _ _ _ _ _ us hl => match us, hl with | [_], _ => rfl
theorem b_m_law_leaf : BindsAt "_law_leaf" "_law_leaf" s_m_law_leaf ["_law_state_here"] := fun _ _ _ _ _ _ us hl => match us, hl with | [_], _ => rfl
theorem b_m_law_expr : BindsAt "_law_expr" "_law_expr" s_m_law_expr ["_law_state_here", "_law_depth"] := fun _ _ _ _ _ _ us hl => match us, hl with | [_, _], _ => rfl
theorem b_m_law_equal : BindsAt "_law_equal" "_law_equal" s_m_law_equal ["_law_told", "_law_due"] := fun _ _ _ _ _ _ us hl => match us, hl with | [_, _], _ => rfl
theorem b_m_law_spread : BindsAt "_law_spread" "_law_spread" s_m_law_spread ["_law_state_here", "_law_text"] := fun _ _ _ _ _ _ us hl => match us, hl with | [_, _], _ => rfl
theorem b_m_law : BindsAt "law" "law" s_m_law ["_law_script"] := fun _ _ _ _ _ _ us hl => match us, hl with | [_], _ => rfl
theorem env_mk {C : Addr} (X : K.In h) (G : h.Ns mainGlobals mg)
    (aC : PySem.W.nsIn K mainGlobals "Reader" = some (some (.ref C)))
    (pg : PySem.W.plainGet K C Str.empty = true)
    (hd : PySem.W.hasDictIn K C = true)
    (po : PySem.W.plainOver K C = true)
    (sa : PySem.W.findIn K (.ref C) "__setattr__" = some (some (.builtin "object.__setattr__")))
    (n_tok : PySem.W.findIn K (.ref C) "tokens" = some none)
    (n_len : PySem.W.findIn K (.ref C) "length" = some none)
    (n_pos : PySem.W.findIn K (.ref C) "position" = some none)
    (n_opn : PySem.W.findIn K (.ref C) "opened" = some none)
    (D_m_end_of_run : DefAt K mg "end_of_run" s_m_end_of_run ["text", "at", "characters"])
    (D_m_number_token : DefAt K mg "number_token" s_m_number_token ["text", "at"])
    (D_m_word_token : DefAt K mg "word_token" s_m_word_token ["text", "at"])
    (D_m_sign_token : DefAt K mg "sign_token" s_m_sign_token ["text", "at"])
    (D_m_next_token : DefAt K mg "next_token" s_m_next_token ["text", "at"])
    (D_m_tokenize : DefAt K mg "tokenize" s_m_tokenize ["text"])
    (D_r_init : InitAt K C "__init__" "Reader.__init__" s_r_init ["self", "text"])
    (D_r_here : MethAt K C "here" "Reader.here" s_r_here ["self"])
    (D_r_fail : MethAt K C "fail" "Reader.fail" s_r_fail ["self"])
    (D_r_sees : MethAt K C "sees" "Reader.sees" s_r_sees ["self", "kind", "value"])
    (D_r_take : MethAt K C "take" "Reader.take" s_r_take ["self", "kind", "value"])
    (D_r_name : MethAt K C "name" "Reader.name" s_r_name ["self"])
    (D_r_enter : MethAt K C "enter" "Reader.enter" s_r_enter ["self"])
    (D_r_made : MethAt K C "made" "Reader.made" s_r_made ["self", "tree", "parts"])
    (D_r_type_parts : MethAt K C "type_parts" "Reader.type_parts" s_r_type_parts ["self"])
    (D_r_simple_type : MethAt K C "simple_type" "Reader.simple_type" s_r_simple_type ["self"])
    (D_r_expression : MethAt K C "expression" "Reader.expression" s_r_expression ["self"])
    (D_r_function : MethAt K C "function" "Reader.function" s_r_function ["self"])
    (D_r_recursive : MethAt K C "recursive" "Reader.recursive" s_r_recursive ["self"])
    (D_r_binding : MethAt K C "binding" "Reader.binding" s_r_binding ["self"])
    (D_r_conditional : MethAt K C "conditional" "Reader.conditional" s_r_conditional ["self"])
    (D_r_comparison : MethAt K C "comparison" "Reader.comparison" s_r_comparison ["self"])
    (D_r_total : MethAt K C "total" "Reader.total" s_r_total ["self"])
    (D_r_product : MethAt K C "product" "Reader.product" s_r_product ["self"])
    (D_r_prefix : MethAt K C "prefix" "Reader.prefix" s_r_prefix ["self"])
    (D_r_starts_atom : MethAt K C "starts_atom" "Reader.starts_atom" s_r_starts_atom ["self"])
    (D_r_call : MethAt K C "call" "Reader.call" s_r_call ["self"])
    (D_r_atom : MethAt K C "atom" "Reader.atom" s_r_atom ["self"])
    (D_r_enclosed : MethAt K C "enclosed" "Reader.enclosed" s_r_enclosed ["self"])
    (D_r_finish : MethAt K C "finish" "Reader.finish" s_r_finish ["self"])
    (D_m_read : DefAt K mg "read" s_m_read ["text"])
    (D_m_read_type : DefAt K mg "read_type" s_m_read_type ["text"])
    (D_m_show_simple : DefAt K mg "show_simple" s_m_show_simple ["known"])
    (D_m_show_type : DefAt K mg "show_type" s_m_show_type ["known"])
    (D_m_show_atom : DefAt K mg "show_atom" s_m_show_atom ["expression"])
    (D_m_show_binder : DefAt K mg "show_binder" s_m_show_binder ["expression"])
    (D_m_show_leaf : DefAt K mg "show_leaf" s_m_show_leaf ["expression"])
    (D_m_show_atoms : DefAt K mg "show_atoms" s_m_show_atoms ["expression"])
    (D_m_show : DefAt K mg "show" s_m_show ["expression"])
    (D_m_law_state : DefAt K mg "_law_state" s_m_law_state ["_law_script"])
    (D_m_law_take : DefAt K mg "_law_take" s_m_law_take ["_law_state_here", "_law_most"])
    (D_m_law_name : DefAt K mg "_law_name" s_m_law_name ["_law_state_here"])
    (D_m_law_type : DefAt K mg "_law_type" s_m_law_type ["_law_state_here", "_law_depth"])
    (D_m_law_number : DefAt K mg "_law_number" s_m_law_number ["_law_state_here"])
    (D_m_law_leaf : DefAt K mg "_law_leaf" s_m_law_leaf ["_law_state_here"])
    (D_m_law_expr : DefAt K mg "_law_expr" s_m_law_expr ["_law_state_here", "_law_depth"])
    (D_m_law_equal : DefAt K mg "_law_equal" s_m_law_equal ["_law_told", "_law_due"])
    (D_m_law_spread : DefAt K mg "_law_spread" s_m_law_spread ["_law_state_here", "_law_text"])
    (D_m_law : DefAt K mg "law" s_m_law ["_law_script"])
    (D_MAX_TEXT : ∃ t : Tok, mg "MAX_TEXT" = some (.int 10000 t))
    (D_MAX_NAME : ∃ t : Tok, mg "MAX_NAME" = some (.int 20 t))
    (D_WORDS : TupAt K mg "WORDS" ["any", "as", "bool", "box", "else", "false", "fst", "fun", "get", "if", "in", "int", "let", "not", "print", "put", "rec", "snd", "then", "true", "unit"])
    (D_SIGNS : TupAt K mg "SIGNS" ["=>", "->", "==", "(", ")", ",", ":", ";", "=", "+", "-", "*", "<"])
    (D_LETTERS : ∃ t : Tok, mg "LETTERS" = some (.str "abcdefghijklmnopqrstuvwxyz" t))
    (D_DIGITS : ∃ t : Tok, mg "DIGITS" = some (.str "0123456789" t))
    (D_MAX_DEPTH : ∃ t : Tok, mg "MAX_DEPTH" = some (.int 60 t))
    (D_SIMPLE_TYPES : TupAt K mg "SIMPLE_TYPES" ["int", "bool", "unit", "any"])
    (D_PREFIXES : TupAt K mg "PREFIXES" ["fst", "snd", "box", "get", "not"])
    (z_len : PySem.W.nsIn K mainGlobals "len" = some none)
    (z_max : PySem.W.nsIn K mainGlobals "max" = some none)
    (z_int : PySem.W.nsIn K mainGlobals "int" = some none)
    (z_str : PySem.W.nsIn K mainGlobals "str" = some none)
    (z_isinstance : PySem.W.nsIn K mainGlobals "isinstance" = some none)
    (z_tuple : PySem.W.nsIn K mainGlobals "tuple" = some none)
    (z_range : PySem.W.nsIn K mainGlobals "range" = some none)
    (z_repr : PySem.W.nsIn K mainGlobals "repr" = some none)
    (z_abs : PySem.W.nsIn K mainGlobals "abs" = some none)
    (z_bool : PySem.W.nsIn K mainGlobals "bool" = some none) : Nonempty (Env K mg) := by
  obtain ⟨a_m_end_of_run, d_m_end_of_run, F_m_end_of_run, B_m_end_of_run, G_m_end_of_run⟩ := D_m_end_of_run
  obtain ⟨a_m_number_token, d_m_number_token, F_m_number_token, B_m_number_token, G_m_number_token⟩ := D_m_number_token
  obtain ⟨a_m_word_token, d_m_word_token, F_m_word_token, B_m_word_token, G_m_word_token⟩ := D_m_word_token
  obtain ⟨a_m_sign_token, d_m_sign_token, F_m_sign_token, B_m_sign_token, G_m_sign_token⟩ := D_m_sign_token
  obtain ⟨a_m_next_token, d_m_next_token, F_m_next_token, B_m_next_token, G_m_next_token⟩ := D_m_next_token
  obtain ⟨a_m_tokenize, d_m_tokenize, F_m_tokenize, B_m_tokenize, G_m_tokenize⟩ := D_m_tokenize
  obtain ⟨a_r_init, d_r_init, F_r_init, B_r_init, mkC⟩ := D_r_init
  obtain ⟨a_r_here, d_r_here, F_r_here, B_r_here, M_r_here⟩ := D_r_here
  obtain ⟨a_r_fail, d_r_fail, F_r_fail, B_r_fail, M_r_fail⟩ := D_r_fail
  obtain ⟨a_r_sees, d_r_sees, F_r_sees, B_r_sees, M_r_sees⟩ := D_r_sees
  obtain ⟨a_r_take, d_r_take, F_r_take, B_r_take, M_r_take⟩ := D_r_take
  obtain ⟨a_r_name, d_r_name, F_r_name, B_r_name, M_r_name⟩ := D_r_name
  obtain ⟨a_r_enter, d_r_enter, F_r_enter, B_r_enter, M_r_enter⟩ := D_r_enter
  obtain ⟨a_r_made, d_r_made, F_r_made, B_r_made, M_r_made⟩ := D_r_made
  obtain ⟨a_r_type_parts, d_r_type_parts, F_r_type_parts, B_r_type_parts, M_r_type_parts⟩ := D_r_type_parts
  obtain ⟨a_r_simple_type, d_r_simple_type, F_r_simple_type, B_r_simple_type, M_r_simple_type⟩ := D_r_simple_type
  obtain ⟨a_r_expression, d_r_expression, F_r_expression, B_r_expression, M_r_expression⟩ := D_r_expression
  obtain ⟨a_r_function, d_r_function, F_r_function, B_r_function, M_r_function⟩ := D_r_function
  obtain ⟨a_r_recursive, d_r_recursive, F_r_recursive, B_r_recursive, M_r_recursive⟩ := D_r_recursive
  obtain ⟨a_r_binding, d_r_binding, F_r_binding, B_r_binding, M_r_binding⟩ := D_r_binding
  obtain ⟨a_r_conditional, d_r_conditional, F_r_conditional, B_r_conditional, M_r_conditional⟩ := D_r_conditional
  obtain ⟨a_r_comparison, d_r_comparison, F_r_comparison, B_r_comparison, M_r_comparison⟩ := D_r_comparison
  obtain ⟨a_r_total, d_r_total, F_r_total, B_r_total, M_r_total⟩ := D_r_total
  obtain ⟨a_r_product, d_r_product, F_r_product, B_r_product, M_r_product⟩ := D_r_product
  obtain ⟨a_r_prefix, d_r_prefix, F_r_prefix, B_r_prefix, M_r_prefix⟩ := D_r_prefix
  obtain ⟨a_r_starts_atom, d_r_starts_atom, F_r_starts_atom, B_r_starts_atom, M_r_starts_atom⟩ := D_r_starts_atom
  obtain ⟨a_r_call, d_r_call, F_r_call, B_r_call, M_r_call⟩ := D_r_call
  obtain ⟨a_r_atom, d_r_atom, F_r_atom, B_r_atom, M_r_atom⟩ := D_r_atom
  obtain ⟨a_r_enclosed, d_r_enclosed, F_r_enclosed, B_r_enclosed, M_r_enclosed⟩ := D_r_enclosed
  obtain ⟨a_r_finish, d_r_finish, F_r_finish, B_r_finish, M_r_finish⟩ := D_r_finish
  obtain ⟨a_m_read, d_m_read, F_m_read, B_m_read, G_m_read⟩ := D_m_read
  obtain ⟨a_m_read_type, d_m_read_type, F_m_read_type, B_m_read_type, G_m_read_type⟩ := D_m_read_type
  obtain ⟨a_m_show_simple, d_m_show_simple, F_m_show_simple, B_m_show_simple, G_m_show_simple⟩ := D_m_show_simple
  obtain ⟨a_m_show_type, d_m_show_type, F_m_show_type, B_m_show_type, G_m_show_type⟩ := D_m_show_type
  obtain ⟨a_m_show_atom, d_m_show_atom, F_m_show_atom, B_m_show_atom, G_m_show_atom⟩ := D_m_show_atom
  obtain ⟨a_m_show_binder, d_m_show_binder, F_m_show_binder, B_m_show_binder, G_m_show_binder⟩ := D_m_show_binder
  obtain ⟨a_m_show_leaf, d_m_show_leaf, F_m_show_leaf, B_m_show_leaf, G_m_show_leaf⟩ := D_m_show_leaf
  obtain ⟨a_m_show_atoms, d_m_show_atoms, F_m_show_atoms, B_m_show_atoms, G_m_show_atoms⟩ := D_m_show_atoms
  obtain ⟨a_m_show, d_m_show, F_m_show, B_m_show, G_m_show⟩ := D_m_show
  obtain ⟨a_m_law_state, d_m_law_state, F_m_law_state, B_m_law_state, G_m_law_state⟩ := D_m_law_state
  obtain ⟨a_m_law_take, d_m_law_take, F_m_law_take, B_m_law_take, G_m_law_take⟩ := D_m_law_take
  obtain ⟨a_m_law_name, d_m_law_name, F_m_law_name, B_m_law_name, G_m_law_name⟩ := D_m_law_name
  obtain ⟨a_m_law_type, d_m_law_type, F_m_law_type, B_m_law_type, G_m_law_type⟩ := D_m_law_type
  obtain ⟨a_m_law_number, d_m_law_number, F_m_law_number, B_m_law_number, G_m_law_number⟩ := D_m_law_number
  obtain ⟨a_m_law_leaf, d_m_law_leaf, F_m_law_leaf, B_m_law_leaf, G_m_law_leaf⟩ := D_m_law_leaf
  obtain ⟨a_m_law_expr, d_m_law_expr, F_m_law_expr, B_m_law_expr, G_m_law_expr⟩ := D_m_law_expr
  obtain ⟨a_m_law_equal, d_m_law_equal, F_m_law_equal, B_m_law_equal, G_m_law_equal⟩ := D_m_law_equal
  obtain ⟨a_m_law_spread, d_m_law_spread, F_m_law_spread, B_m_law_spread, G_m_law_spread⟩ := D_m_law_spread
  obtain ⟨a_m_law, d_m_law, F_m_law, B_m_law, G_m_law⟩ := D_m_law
  obtain ⟨t_MAX_TEXT, g_MAX_TEXT⟩ := D_MAX_TEXT
  obtain ⟨t_MAX_NAME, g_MAX_NAME⟩ := D_MAX_NAME
  obtain ⟨a_WORDS, g_WORDS, k_WORDS⟩ := D_WORDS
  obtain ⟨a_SIGNS, g_SIGNS, k_SIGNS⟩ := D_SIGNS
  obtain ⟨t_LETTERS, g_LETTERS⟩ := D_LETTERS
  obtain ⟨t_DIGITS, g_DIGITS⟩ := D_DIGITS
  obtain ⟨t_MAX_DEPTH, g_MAX_DEPTH⟩ := D_MAX_DEPTH
  obtain ⟨a_SIMPLE_TYPES, g_SIMPLE_TYPES, k_SIMPLE_TYPES⟩ := D_SIMPLE_TYPES
  obtain ⟨a_PREFIXES, g_PREFIXES, k_PREFIXES⟩ := D_PREFIXES
  replace z_len := PySem.W.mg_none_of X G z_len
  replace z_max := PySem.W.mg_none_of X G z_max
  replace z_int := PySem.W.mg_none_of X G z_int
  replace z_str := PySem.W.mg_none_of X G z_str
  replace z_isinstance := PySem.W.mg_none_of X G z_isinstance
  replace z_tuple := PySem.W.mg_none_of X G z_tuple
  replace z_range := PySem.W.mg_none_of X G z_range
  replace z_repr := PySem.W.mg_none_of X G z_repr
  replace z_abs := PySem.W.mg_none_of X G z_abs
  replace z_bool := PySem.W.mg_none_of X G z_bool
  have mgC := PySem.W.mg_of X G aC
  have cl : Cls K C := ⟨pg, hd, po, sa⟩
  exact ⟨⟨C, cl, n_tok, n_len, n_pos, n_opn, mgC, a_m_end_of_run, d_m_end_of_run, F_m_end_of_run, B_m_end_of_run, G_m_end_of_run, a_m_number_token, d_m_number_token, F_m_number_token, B_m_number_token, G_m_number_token, a_m_word_token, d_m_word_token, F_m_word_token, B_m_word_token, G_m_word_token, a_m_sign_token, d_m_sign_token, F_m_sign_token, B_m_sign_token, G_m_sign_token, a_m_next_token, d_m_next_token, F_m_next_token, B_m_next_token, G_m_next_token, a_m_tokenize, d_m_tokenize, F_m_tokenize, B_m_tokenize, G_m_tokenize, a_r_init, d_r_init, F_r_init, B_r_init, a_r_here, d_r_here, F_r_here, B_r_here, M_r_here, a_r_fail, d_r_fail, F_r_fail, B_r_fail, M_r_fail, a_r_sees, d_r_sees, F_r_sees, B_r_sees, M_r_sees, a_r_take, d_r_take, F_r_take, B_r_take, M_r_take, a_r_name, d_r_name, F_r_name, B_r_name, M_r_name, a_r_enter, d_r_enter, F_r_enter, B_r_enter, M_r_enter, a_r_made, d_r_made, F_r_made, B_r_made, M_r_made, a_r_type_parts, d_r_type_parts, F_r_type_parts, B_r_type_parts, M_r_type_parts, a_r_simple_type, d_r_simple_type, F_r_simple_type, B_r_simple_type, M_r_simple_type, a_r_expression, d_r_expression, F_r_expression, B_r_expression, M_r_expression, a_r_function, d_r_function, F_r_function, B_r_function, M_r_function, a_r_recursive, d_r_recursive, F_r_recursive, B_r_recursive, M_r_recursive, a_r_binding, d_r_binding, F_r_binding, B_r_binding, M_r_binding, a_r_conditional, d_r_conditional, F_r_conditional, B_r_conditional, M_r_conditional, a_r_comparison, d_r_comparison, F_r_comparison, B_r_comparison, M_r_comparison, a_r_total, d_r_total, F_r_total, B_r_total, M_r_total, a_r_product, d_r_product, F_r_product, B_r_product, M_r_product, a_r_prefix, d_r_prefix, F_r_prefix, B_r_prefix, M_r_prefix, a_r_starts_atom, d_r_starts_atom, F_r_starts_atom, B_r_starts_atom, M_r_starts_atom, a_r_call, d_r_call, F_r_call, B_r_call, M_r_call, a_r_atom, d_r_atom, F_r_atom, B_r_atom, M_r_atom, a_r_enclosed, d_r_enclosed, F_r_enclosed, B_r_enclosed, M_r_enclosed, a_r_finish, d_r_finish, F_r_finish, B_r_finish, M_r_finish, a_m_read, d_m_read, F_m_read, B_m_read, G_m_read, a_m_read_type, d_m_read_type, F_m_read_type, B_m_read_type, G_m_read_type, a_m_show_simple, d_m_show_simple, F_m_show_simple, B_m_show_simple, G_m_show_simple, a_m_show_type, d_m_show_type, F_m_show_type, B_m_show_type, G_m_show_type, a_m_show_atom, d_m_show_atom, F_m_show_atom, B_m_show_atom, G_m_show_atom, a_m_show_binder, d_m_show_binder, F_m_show_binder, B_m_show_binder, G_m_show_binder, a_m_show_leaf, d_m_show_leaf, F_m_show_leaf, B_m_show_leaf, G_m_show_leaf, a_m_show_atoms, d_m_show_atoms, F_m_show_atoms, B_m_show_atoms, G_m_show_atoms, a_m_show, d_m_show, F_m_show, B_m_show, G_m_show, a_m_law_state, d_m_law_state, F_m_law_state, B_m_law_state, G_m_law_state, a_m_law_take, d_m_law_take, F_m_law_take, B_m_law_take, G_m_law_take, a_m_law_name, d_m_law_name, F_m_law_name, B_m_law_name, G_m_law_name, a_m_law_type, d_m_law_type, F_m_law_type, B_m_law_type, G_m_law_type, a_m_law_number, d_m_law_number, F_m_law_number, B_m_law_number, G_m_law_number, a_m_law_leaf, d_m_law_leaf, F_m_law_leaf, B_m_law_leaf, G_m_law_leaf, a_m_law_expr, d_m_law_expr, F_m_law_expr, B_m_law_expr, G_m_law_expr, a_m_law_equal, d_m_law_equal, F_m_law_equal, B_m_law_equal, G_m_law_equal, a_m_law_spread, d_m_law_spread, F_m_law_spread, B_m_law_spread, G_m_law_spread, a_m_law, d_m_law, F_m_law, B_m_law, G_m_law, mkC, z_len, z_max, z_int, z_str, z_isinstance, z_tuple, z_range, z_repr, z_abs, z_bool, t_MAX_TEXT, g_MAX_TEXT, t_MAX_NAME, g_MAX_NAME, a_WORDS, g_WORDS, k_WORDS, a_SIGNS, g_SIGNS, k_SIGNS, t_LETTERS, g_LETTERS, t_DIGITS, g_DIGITS, t_MAX_DEPTH, g_MAX_DEPTH, a_SIMPLE_TYPES, g_SIMPLE_TYPES, k_SIMPLE_TYPES, a_PREFIXES, g_PREFIXES, k_PREFIXES⟩⟩
theorem top_mk {P : Program} {w : World} {fa : Addr} (hfa : mg "law" = some (.ref fa)) (n : Nonempty (Env K mg)) :
    ∃ fd : FuncData, (∀ (s : Shared) (u : Value), BindsTo s fd ⟨[u], []⟩ [("_law_script", u)]) ∧ ∀ base : Heap, K.In base → base.Ns mainGlobals mg → AtLaw P w K mg base fa fd ["_law_script"] (spLaw K) := by
  obtain ⟨E⟩ := n
  have e := hfa.symm.trans E.G_m_law
  cases e
  refine ⟨E.d_m_law, fun s u => ?_, fun base _ _ => ok_law E⟩
  obtain ⟨oc, od, kV, doc, pm, an, cdv, ct, osl, e, _⟩ := E.F_m_law.ex
  rw [e]
  exact .of_eq rfl
end
end HN
open PySem PySem.W PyProof.Rows in
set_option maxRecDepth 100000 in
set_option maxHeartbeats 0 in
theorem PySem.Challenge.cw_halfnoted_k01_expressions_read_back_holds : PySem.Challenge.rw_halfnoted_k01_expressions_read_back.Holds := by
  w_on; o_law; k_head; (case hw => w_witness2)
  k_fill
  refine HN.walk_at (l := PySem.Challenge.rw_halfnoted_k01_expressions_read_back) (n := 63) (x := "_law_script") (sp := HN.spLaw) rfl (by decide) rfl (fun w h Y => PySem.W.kIn_of Y) ?F (fun Kf H a ns hl hS => ⟨a, ns, rfl, hS, hl, fun _ => rfl⟩)
  case F =>
    intro w mg fa h KX G hmg
    refine HN.top_mk hmg ?E
    refine' HN.env_mk KX G ?aC ?pg ?hd ?po ?sa ?n_tok ?n_len ?n_pos ?n_opn ?D_m_end_of_run ?D_m_number_token ?D_m_word_token ?D_m_sign_token ?D_m_next_token ?D_m_tokenize ?D_r_init ?D_r_here ?D_r_fail ?D_r_sees ?D_r_take ?D_r_name ?D_r_enter ?D_r_made ?D_r_type_parts ?D_r_simple_type ?D_r_expression ?D_r_function ?D_r_recursive ?D_r_binding ?D_r_conditional ?D_r_comparison ?D_r_total ?D_r_product ?D_r_prefix ?D_r_starts_atom ?D_r_call ?D_r_atom ?D_r_enclosed ?D_r_finish ?D_m_read ?D_m_read_type ?D_m_show_simple ?D_m_show_type ?D_m_show_atom ?D_m_show_binder ?D_m_show_leaf ?D_m_show_atoms ?D_m_show ?D_m_law_state ?D_m_law_take ?D_m_law_name ?D_m_law_type ?D_m_law_number ?D_m_law_leaf ?D_m_law_expr ?D_m_law_equal ?D_m_law_spread ?D_m_law ?D_MAX_TEXT ?D_MAX_NAME ?D_WORDS ?D_SIGNS ?D_LETTERS ?D_DIGITS ?D_MAX_DEPTH ?D_SIMPLE_TYPES ?D_PREFIXES ?z_len ?z_max ?z_int ?z_str ?z_isinstance ?z_tuple ?z_range ?z_repr ?z_abs ?z_bool
    (case aC => k_is)
    (case pg => k_is)
    (case hd => k_is)
    (case po => k_is)
    (case sa => k_is)
    (case n_tok => k_is)
    (case n_len => k_is)
    (case n_pos => k_is)
    (case n_opn => k_is)
    (case D_m_end_of_run => refine' HN.def_mk HN.b_m_end_of_run KX G ?a ?l ?c ?k; (case a => k_is); (case l => k_is); (case c => k_is); (case k => k_is))
    (case D_m_number_token => refine' HN.def_mk HN.b_m_number_token KX G ?a ?l ?c ?k; (case a => k_is); (case l => k_is); (case c => k_is); (case k => k_is))
    (case D_m_word_token => refine' HN.def_mk HN.b_m_word_token KX G ?a ?l ?c ?k; (case a => k_is); (case l => k_is); (case c => k_is); (case k => k_is))
    (case D_m_sign_token => refine' HN.def_mk HN.b_m_sign_token KX G ?a ?l ?c ?k; (case a => k_is); (case l => k_is); (case c => k_is); (case k => k_is))
    (case D_m_next_token => refine' HN.def_mk HN.b_m_next_token KX G ?a ?l ?c ?k; (case a => k_is); (case l => k_is); (case c => k_is); (case k => k_is))
    (case D_m_tokenize => refine' HN.def_mk HN.b_m_tokenize KX G ?a ?l ?c ?k; (case a => k_is); (case l => k_is); (case c => k_is); (case k => k_is))
    (case D_r_init => refine' HN.init_mk HN.b_r_init ?a ?i ?l ?c ?k ?m ?kc; (case a => k_is); (case i => k_is); (case l => k_is); (case c => k_is); (case k => k_is); (case m => k_is); (case kc => k_is))
    (case D_r_here => refine' HN.meth_mk HN.b_r_here ?a ?i ?l ?c ?k; (case a => k_is); (case i => k_is); (case l => k_is); (case c => k_is); (case k => k_is))
    (case D_r_fail => refine' HN.meth_mk HN.b_r_fail ?a ?i ?l ?c ?k; (case a => k_is); (case i => k_is); (case l => k_is); (case c => k_is); (case k => k_is))
    (case D_r_sees => refine' HN.meth_mk HN.b_r_sees ?a ?i ?l ?c ?k; (case a => k_is); (case i => k_is); (case l => k_is); (case c => k_is); (case k => k_is))
    (case D_r_take => refine' HN.meth_mk HN.b_r_take ?a ?i ?l ?c ?k; (case a => k_is); (case i => k_is); (case l => k_is); (case c => k_is); (case k => k_is))
    (case D_r_name => refine' HN.meth_mk HN.b_r_name ?a ?i ?l ?c ?k; (case a => k_is); (case i => k_is); (case l => k_is); (case c => k_is); (case k => k_is))
    (case D_r_enter => refine' HN.meth_mk HN.b_r_enter ?a ?i ?l ?c ?k; (case a => k_is); (case i => k_is); (case l => k_is); (case c => k_is); (case k => k_is))
    (case D_r_made => refine' HN.meth_mk HN.b_r_made ?a ?i ?l ?c ?k; (case a => k_is); (case i => k_is); (case l => k_is); (case c => k_is); (case k => k_is))
    (case D_r_type_parts => refine' HN.meth_mk HN.b_r_type_parts ?a ?i ?l ?c ?k; (case a => k_is); (case i => k_is); (case l => k_is); (case c => k_is); (case k => k_is))
    (case D_r_simple_type => refine' HN.meth_mk HN.b_r_simple_type ?a ?i ?l ?c ?k; (case a => k_is); (case i => k_is); (case l => k_is); (case c => k_is); (case k => k_is))
    (case D_r_expression => refine' HN.meth_mk HN.b_r_expression ?a ?i ?l ?c ?k; (case a => k_is); (case i => k_is); (case l => k_is); (case c => k_is); (case k => k_is))
    (case D_r_function => refine' HN.meth_mk HN.b_r_function ?a ?i ?l ?c ?k; (case a => k_is); (case i => k_is); (case l => k_is); (case c => k_is); (case k => k_is))
    (case D_r_recursive => refine' HN.meth_mk HN.b_r_recursive ?a ?i ?l ?c ?k; (case a => k_is); (case i => k_is); (case l => k_is); (case c => k_is); (case k => k_is))
    (case D_r_binding => refine' HN.meth_mk HN.b_r_binding ?a ?i ?l ?c ?k; (case a => k_is); (case i => k_is); (case l => k_is); (case c => k_is); (case k => k_is))
    (case D_r_conditional => refine' HN.meth_mk HN.b_r_conditional ?a ?i ?l ?c ?k; (case a => k_is); (case i => k_is); (case l => k_is); (case c => k_is); (case k => k_is))
    (case D_r_comparison => refine' HN.meth_mk HN.b_r_comparison ?a ?i ?l ?c ?k; (case a => k_is); (case i => k_is); (case l => k_is); (case c => k_is); (case k => k_is))
    (case D_r_total => refine' HN.meth_mk HN.b_r_total ?a ?i ?l ?c ?k; (case a => k_is); (case i => k_is); (case l => k_is); (case c => k_is); (case k => k_is))
    (case D_r_product => refine' HN.meth_mk HN.b_r_product ?a ?i ?l ?c ?k; (case a => k_is); (case i => k_is); (case l => k_is); (case c => k_is); (case k => k_is))
    (case D_r_prefix => refine' HN.meth_mk HN.b_r_prefix ?a ?i ?l ?c ?k; (case a => k_is); (case i => k_is); (case l => k_is); (case c => k_is); (case k => k_is))
    (case D_r_starts_atom => refine' HN.meth_mk HN.b_r_starts_atom ?a ?i ?l ?c ?k; (case a => k_is); (case i => k_is); (case l => k_is); (case c => k_is); (case k => k_is))
    (case D_r_call => refine' HN.meth_mk HN.b_r_call ?a ?i ?l ?c ?k; (case a => k_is); (case i => k_is); (case l => k_is); (case c => k_is); (case k => k_is))
    (case D_r_atom => refine' HN.meth_mk HN.b_r_atom ?a ?i ?l ?c ?k; (case a => k_is); (case i => k_is); (case l => k_is); (case c => k_is); (case k => k_is))
    (case D_r_enclosed => refine' HN.meth_mk HN.b_r_enclosed ?a ?i ?l ?c ?k; (case a => k_is); (case i => k_is); (case l => k_is); (case c => k_is); (case k => k_is))
    (case D_r_finish => refine' HN.meth_mk HN.b_r_finish ?a ?i ?l ?c ?k; (case a => k_is); (case i => k_is); (case l => k_is); (case c => k_is); (case k => k_is))
    (case D_m_read => refine' HN.def_mk HN.b_m_read KX G ?a ?l ?c ?k; (case a => k_is); (case l => k_is); (case c => k_is); (case k => k_is))
    (case D_m_read_type => refine' HN.def_mk HN.b_m_read_type KX G ?a ?l ?c ?k; (case a => k_is); (case l => k_is); (case c => k_is); (case k => k_is))
    (case D_m_show_simple => refine' HN.def_mk HN.b_m_show_simple KX G ?a ?l ?c ?k; (case a => k_is); (case l => k_is); (case c => k_is); (case k => k_is))
    (case D_m_show_type => refine' HN.def_mk HN.b_m_show_type KX G ?a ?l ?c ?k; (case a => k_is); (case l => k_is); (case c => k_is); (case k => k_is))
    (case D_m_show_atom => refine' HN.def_mk HN.b_m_show_atom KX G ?a ?l ?c ?k; (case a => k_is); (case l => k_is); (case c => k_is); (case k => k_is))
    (case D_m_show_binder => refine' HN.def_mk HN.b_m_show_binder KX G ?a ?l ?c ?k; (case a => k_is); (case l => k_is); (case c => k_is); (case k => k_is))
    (case D_m_show_leaf => refine' HN.def_mk HN.b_m_show_leaf KX G ?a ?l ?c ?k; (case a => k_is); (case l => k_is); (case c => k_is); (case k => k_is))
    (case D_m_show_atoms => refine' HN.def_mk HN.b_m_show_atoms KX G ?a ?l ?c ?k; (case a => k_is); (case l => k_is); (case c => k_is); (case k => k_is))
    (case D_m_show => refine' HN.def_mk HN.b_m_show KX G ?a ?l ?c ?k; (case a => k_is); (case l => k_is); (case c => k_is); (case k => k_is))
    (case D_m_law_state => refine' HN.def_mk HN.b_m_law_state KX G ?a ?l ?c ?k; (case a => k_is); (case l => k_is); (case c => k_is); (case k => k_is))
    (case D_m_law_take => refine' HN.def_mk HN.b_m_law_take KX G ?a ?l ?c ?k; (case a => k_is); (case l => k_is); (case c => k_is); (case k => k_is))
    (case D_m_law_name => refine' HN.def_mk HN.b_m_law_name KX G ?a ?l ?c ?k; (case a => k_is); (case l => k_is); (case c => k_is); (case k => k_is))
    (case D_m_law_type => refine' HN.def_mk HN.b_m_law_type KX G ?a ?l ?c ?k; (case a => k_is); (case l => k_is); (case c => k_is); (case k => k_is))
    (case D_m_law_number => refine' HN.def_mk HN.b_m_law_number KX G ?a ?l ?c ?k; (case a => k_is); (case l => k_is); (case c => k_is); (case k => k_is))
    (case D_m_law_leaf => refine' HN.def_mk HN.b_m_law_leaf KX G ?a ?l ?c ?k; (case a => k_is); (case l => k_is); (case c => k_is); (case k => k_is))
    (case D_m_law_expr => refine' HN.def_mk HN.b_m_law_expr KX G ?a ?l ?c ?k; (case a => k_is); (case l => k_is); (case c => k_is); (case k => k_is))
    (case D_m_law_equal => refine' HN.def_mk HN.b_m_law_equal KX G ?a ?l ?c ?k; (case a => k_is); (case l => k_is); (case c => k_is); (case k => k_is))
    (case D_m_law_spread => refine' HN.def_mk HN.b_m_law_spread KX G ?a ?l ?c ?k; (case a => k_is); (case l => k_is); (case c => k_is); (case k => k_is))
    (case D_m_law => refine' HN.def_mk HN.b_m_law KX G ?a ?l ?c ?k; (case a => k_is); (case l => k_is); (case c => k_is); (case k => k_is))
    (case D_MAX_TEXT => refine' HN.int_mk KX G ?a; (case a => k_is))
    (case D_MAX_NAME => refine' HN.int_mk KX G ?a; (case a => k_is))
    (case D_WORDS => refine' HN.tup_mk KX G ?a ?l ?e ?n; (case a => k_is); (case l => k_is); (case e => rfl); (case n => decide))
    (case D_SIGNS => refine' HN.tup_mk KX G ?a ?l ?e ?n; (case a => k_is); (case l => k_is); (case e => rfl); (case n => decide))
    (case D_LETTERS => refine' HN.str_mk KX G ?a; (case a => k_is))
    (case D_DIGITS => refine' HN.str_mk KX G ?a; (case a => k_is))
    (case D_MAX_DEPTH => refine' HN.int_mk KX G ?a; (case a => k_is))
    (case D_SIMPLE_TYPES => refine' HN.tup_mk KX G ?a ?l ?e ?n; (case a => k_is); (case l => k_is); (case e => rfl); (case n => decide))
    (case D_PREFIXES => refine' HN.tup_mk KX G ?a ?l ?e ?n; (case a => k_is); (case l => k_is); (case e => rfl); (case n => decide))
    (case z_len => k_is)
    (case z_max => k_is)
    (case z_int => k_is)
    (case z_str => k_is)
    (case z_isinstance => k_is)
    (case z_tuple => k_is)
    (case z_range => k_is)
    (case z_repr => k_is)
    (case z_abs => k_is)
    (case z_bool => k_is)
