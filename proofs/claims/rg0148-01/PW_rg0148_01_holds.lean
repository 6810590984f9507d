import PyProof.Rows.All
import Wide.All
import OpenK.AllK
import Wide.FinOn
import PySem.Challenge.RW_rg0148_01
set_option compiler.extract_closed false
open PySem PySem.W PyProof.Rows PySem.Calls
set_option Elab.async false
set_option maxRecDepth 100000
set_option maxHeartbeats 0
set_option rowWalk.seconds 0
namespace Mine
namespace KP
noncomputable def nth : List Stmt → Nat → Stmt
  | x :: _, 0 => x
  | _ :: r, n + 1 => nth r n
  | [], _ => .Pass ⟨0, 0, 0, 0⟩
def cB : Stmt → List Stmt
  | .ClassDef _ _ _ b _ _ _ _ _ _ _ => b
  | _ => []
def fA : Stmt → Arguments
  | .FunctionDef _ a _ _ _ _ _ _ _ _ => a
  | _ => default
def fB : Stmt → List Stmt
  | .FunctionDef _ _ b _ _ _ _ _ _ _ => b
  | _ => []
def fS : Stmt → Scope
  | .FunctionDef _ _ _ _ _ _ c _ _ _ => c
  | _ => default
def top : List Stmt := PySem.Challenge.pw_rg0148_01.main.body
set_option simprocs false in
noncomputable def fd21 : FuncData := by
  refine' (?f : (a : FuncData) → a = ⟨Str.ofString "_wall", Str.ofString "_wall", fA (nth top 0), .stmts (fB (nth top 0)), fS (nth top 0), 3, [], .none, .none, .none, (.str (Str.ofString "__main__") 164), none, (.ref 20), .none, 0⟩ → FuncData) _ ?h
  case h => dsimp only [nth, cB, fA, fB, fS, top, PySem.Challenge.pw_rg0148_01]; exact rfl
  case f => exact fun a _ => a
set_option simprocs false in
noncomputable def fd36 : FuncData := by
  refine' (?f : (a : FuncData) → a = ⟨Str.ofString "__init__", Str.ofString "GateloomError.__init__", fA (nth (cB (nth top 2)) 0), .stmts (fB (nth (cB (nth top 2)) 0)), fS (nth (cB (nth top 2)) 0), 3, [], (.ref 29), .none, .none, (.str (Str.ofString "gateloom.errors") 194), none, (.ref 35), .none, 0⟩ → FuncData) _ ?h
  case h => dsimp only [nth, cB, fA, fB, fS, top, PySem.Challenge.pw_rg0148_01]; exact rfl
  case f => exact fun a _ => a
set_option simprocs false in
noncomputable def fd68 : FuncData := by
  refine' (?f : (a : FuncData) → a = ⟨Str.ofString "__init__", Str.ofString "Token.__init__", fA (nth (cB (nth top 5)) 0), .stmts (fB (nth (cB (nth top 5)) 0)), fS (nth (cB (nth top 5)) 0), 3, [], .none, .none, .none, (.str (Str.ofString "gateloom.tokens") 248), none, (.ref 67), .none, 0⟩ → FuncData) _ ?h
  case h => dsimp only [nth, cB, fA, fB, fS, top, PySem.Challenge.pw_rg0148_01]; exact rfl
  case f => exact fun a _ => a
set_option simprocs false in
noncomputable def fd89 : FuncData := by
  refine' (?f : (a : FuncData) → a = ⟨Str.ofString "__init__", Str.ofString "TokenRow.__init__", fA (nth (cB (nth top 6)) 0), .stmts (fB (nth (cB (nth top 6)) 0)), fS (nth (cB (nth top 6)) 0), 3, [], .none, .none, .none, (.str (Str.ofString "gateloom.tokens") 248), none, (.ref 88), .none, 0⟩ → FuncData) _ ?h
  case h => dsimp only [nth, cB, fA, fB, fS, top, PySem.Challenge.pw_rg0148_01]; exact rfl
  case f => exact fun a _ => a
set_option simprocs false in
noncomputable def fd96 : FuncData := by
  refine' (?f : (a : FuncData) → a = ⟨Str.ofString "next_token", Str.ofString "TokenRow.next_token", fA (nth (cB (nth top 6)) 1), .stmts (fB (nth (cB (nth top 6)) 1)), fS (nth (cB (nth top 6)) 1), 3, [], .none, .none, .none, (.str (Str.ofString "gateloom.tokens") 248), none, (.ref 95), .none, 0⟩ → FuncData) _ ?h
  case h => dsimp only [nth, cB, fA, fB, fS, top, PySem.Challenge.pw_rg0148_01]; exact rfl
  case f => exact fun a _ => a
set_option simprocs false in
noncomputable def fd117 : FuncData := by
  refine' (?f : (a : FuncData) → a = ⟨Str.ofString "__init__", Str.ofString "Cursor.__init__", fA (nth (cB (nth top 7)) 0), .stmts (fB (nth (cB (nth top 7)) 0)), fS (nth (cB (nth top 7)) 0), 3, [], .none, .none, .none, (.str (Str.ofString "gateloom.tokens") 248), none, (.ref 116), .none, 0⟩ → FuncData) _ ?h
  case h => dsimp only [nth, cB, fA, fB, fS, top, PySem.Challenge.pw_rg0148_01]; exact rfl
  case f => exact fun a _ => a
set_option simprocs false in
noncomputable def fd124 : FuncData := by
  refine' (?f : (a : FuncData) → a = ⟨Str.ofString "fetch", Str.ofString "Cursor.fetch", fA (nth (cB (nth top 7)) 1), .stmts (fB (nth (cB (nth top 7)) 1)), fS (nth (cB (nth top 7)) 1), 3, [], .none, .none, .none, (.str (Str.ofString "gateloom.tokens") 248), none, (.ref 123), .none, 0⟩ → FuncData) _ ?h
  case h => dsimp only [nth, cB, fA, fB, fS, top, PySem.Challenge.pw_rg0148_01]; exact rfl
  case f => exact fun a _ => a
set_option simprocs false in
noncomputable def fd132 : FuncData := by
  refine' (?f : (a : FuncData) → a = ⟨Str.ofString "peek", Str.ofString "Cursor.peek", fA (nth (cB (nth top 7)) 2), .stmts (fB (nth (cB (nth top 7)) 2)), fS (nth (cB (nth top 7)) 2), 3, [], (.ref 125), .none, .none, (.str (Str.ofString "gateloom.tokens") 248), none, (.ref 131), .none, 0⟩ → FuncData) _ ?h
  case h => dsimp only [nth, cB, fA, fB, fS, top, PySem.Challenge.pw_rg0148_01]; exact rfl
  case f => exact fun a _ => a
set_option simprocs false in
noncomputable def fd139 : FuncData := by
  refine' (?f : (a : FuncData) → a = ⟨Str.ofString "take", Str.ofString "Cursor.take", fA (nth (cB (nth top 7)) 3), .stmts (fB (nth (cB (nth top 7)) 3)), fS (nth (cB (nth top 7)) 3), 3, [], .none, .none, .none, (.str (Str.ofString "gateloom.tokens") 248), none, (.ref 138), .none, 0⟩ → FuncData) _ ?h
  case h => dsimp only [nth, cB, fA, fB, fS, top, PySem.Challenge.pw_rg0148_01]; exact rfl
  case f => exact fun a _ => a
set_option simprocs false in
noncomputable def fd146 : FuncData := by
  refine' (?f : (a : FuncData) → a = ⟨Str.ofString "is_op", Str.ofString "Cursor.is_op", fA (nth (cB (nth top 7)) 4), .stmts (fB (nth (cB (nth top 7)) 4)), fS (nth (cB (nth top 7)) 4), 3, [], .none, .none, .none, (.str (Str.ofString "gateloom.tokens") 248), none, (.ref 145), .none, 0⟩ → FuncData) _ ?h
  case h => dsimp only [nth, cB, fA, fB, fS, top, PySem.Challenge.pw_rg0148_01]; exact rfl
  case f => exact fun a _ => a
set_option simprocs false in
noncomputable def fd153 : FuncData := by
  refine' (?f : (a : FuncData) → a = ⟨Str.ofString "is_key", Str.ofString "Cursor.is_key", fA (nth (cB (nth top 7)) 5), .stmts (fB (nth (cB (nth top 7)) 5)), fS (nth (cB (nth top 7)) 5), 3, [], .none, .none, .none, (.str (Str.ofString "gateloom.tokens") 248), none, (.ref 152), .none, 0⟩ → FuncData) _ ?h
  case h => dsimp only [nth, cB, fA, fB, fS, top, PySem.Challenge.pw_rg0148_01]; exact rfl
  case f => exact fun a _ => a
set_option simprocs false in
noncomputable def fd160 : FuncData := by
  refine' (?f : (a : FuncData) → a = ⟨Str.ofString "accept_op", Str.ofString "Cursor.accept_op", fA (nth (cB (nth top 7)) 6), .stmts (fB (nth (cB (nth top 7)) 6)), fS (nth (cB (nth top 7)) 6), 3, [], .none, .none, .none, (.str (Str.ofString "gateloom.tokens") 248), none, (.ref 159), .none, 0⟩ → FuncData) _ ?h
  case h => dsimp only [nth, cB, fA, fB, fS, top, PySem.Challenge.pw_rg0148_01]; exact rfl
  case f => exact fun a _ => a
set_option simprocs false in
noncomputable def fd167 : FuncData := by
  refine' (?f : (a : FuncData) → a = ⟨Str.ofString "accept_key", Str.ofString "Cursor.accept_key", fA (nth (cB (nth top 7)) 7), .stmts (fB (nth (cB (nth top 7)) 7)), fS (nth (cB (nth top 7)) 7), 3, [], .none, .none, .none, (.str (Str.ofString "gateloom.tokens") 248), none, (.ref 166), .none, 0⟩ → FuncData) _ ?h
  case h => dsimp only [nth, cB, fA, fB, fS, top, PySem.Challenge.pw_rg0148_01]; exact rfl
  case f => exact fun a _ => a
set_option simprocs false in
noncomputable def fd174 : FuncData := by
  refine' (?f : (a : FuncData) → a = ⟨Str.ofString "expect_op", Str.ofString "Cursor.expect_op", fA (nth (cB (nth top 7)) 8), .stmts (fB (nth (cB (nth top 7)) 8)), fS (nth (cB (nth top 7)) 8), 3, [], .none, .none, .none, (.str (Str.ofString "gateloom.tokens") 248), none, (.ref 173), .none, 0⟩ → FuncData) _ ?h
  case h => dsimp only [nth, cB, fA, fB, fS, top, PySem.Challenge.pw_rg0148_01]; exact rfl
  case f => exact fun a _ => a
set_option simprocs false in
noncomputable def fd181 : FuncData := by
  refine' (?f : (a : FuncData) → a = ⟨Str.ofString "expect_key", Str.ofString "Cursor.expect_key", fA (nth (cB (nth top 7)) 9), .stmts (fB (nth (cB (nth top 7)) 9)), fS (nth (cB (nth top 7)) 9), 3, [], .none, .none, .none, (.str (Str.ofString "gateloom.tokens") 248), none, (.ref 180), .none, 0⟩ → FuncData) _ ?h
  case h => dsimp only [nth, cB, fA, fB, fS, top, PySem.Challenge.pw_rg0148_01]; exact rfl
  case f => exact fun a _ => a
set_option simprocs false in
noncomputable def fd188 : FuncData := by
  refine' (?f : (a : FuncData) → a = ⟨Str.ofString "expect_id", Str.ofString "Cursor.expect_id", fA (nth (cB (nth top 7)) 10), .stmts (fB (nth (cB (nth top 7)) 10)), fS (nth (cB (nth top 7)) 10), 3, [], .none, .none, .none, (.str (Str.ofString "gateloom.tokens") 248), none, (.ref 187), .none, 0⟩ → FuncData) _ ?h
  case h => dsimp only [nth, cB, fA, fB, fS, top, PySem.Challenge.pw_rg0148_01]; exact rfl
  case f => exact fun a _ => a
set_option simprocs false in
noncomputable def fd196 : FuncData := by
  refine' (?f : (a : FuncData) → a = ⟨Str.ofString "fail", Str.ofString "Cursor.fail", fA (nth (cB (nth top 7)) 11), .stmts (fB (nth (cB (nth top 7)) 11)), fS (nth (cB (nth top 7)) 11), 3, [], (.ref 189), .none, .none, (.str (Str.ofString "gateloom.tokens") 248), none, (.ref 195), .none, 0⟩ → FuncData) _ ?h
  case h => dsimp only [nth, cB, fA, fB, fS, top, PySem.Challenge.pw_rg0148_01]; exact rfl
  case f => exact fun a _ => a
set_option simprocs false in
noncomputable def fd210 : FuncData := by
  refine' (?f : (a : FuncData) → a = ⟨Str.ofString "mask", Str.ofString "mask", fA (nth top 9), .stmts (fB (nth top 9)), fS (nth top 9), 3, [], .none, .none, .none, (.str (Str.ofString "gateloom.vec") 445), none, (.ref 209), .none, 0⟩ → FuncData) _ ?h
  case h => dsimp only [nth, cB, fA, fB, fS, top, PySem.Challenge.pw_rg0148_01]; exact rfl
  case f => exact fun a _ => a
set_option simprocs false in
noncomputable def fd218 : FuncData := by
  refine' (?f : (a : FuncData) → a = ⟨Str.ofString "vec", Str.ofString "vec", fA (nth top 10), .stmts (fB (nth top 10)), fS (nth top 10), 3, [], (.ref 211), .none, .none, (.str (Str.ofString "gateloom.vec") 445), none, (.ref 217), .none, 0⟩ → FuncData) _ ?h
  case h => dsimp only [nth, cB, fA, fB, fS, top, PySem.Challenge.pw_rg0148_01]; exact rfl
  case f => exact fun a _ => a
set_option simprocs false in
noncomputable def fd225 : FuncData := by
  refine' (?f : (a : FuncData) → a = ⟨Str.ofString "digit_bits", Str.ofString "digit_bits", fA (nth top 14), .stmts (fB (nth top 14)), fS (nth top 14), 3, [], .none, .none, .none, (.str (Str.ofString "gateloom.numerals") 465), none, (.ref 224), .none, 0⟩ → FuncData) _ ?h
  case h => dsimp only [nth, cB, fA, fB, fS, top, PySem.Challenge.pw_rg0148_01]; exact rfl
  case f => exact fun a _ => a
set_option simprocs false in
noncomputable def fd232 : FuncData := by
  refine' (?f : (a : FuncData) → a = ⟨Str.ofString "decimal_value", Str.ofString "decimal_value", fA (nth top 15), .stmts (fB (nth top 15)), fS (nth top 15), 3, [], .none, .none, .none, (.str (Str.ofString "gateloom.numerals") 465), none, (.ref 231), .none, 0⟩ → FuncData) _ ?h
  case h => dsimp only [nth, cB, fA, fB, fS, top, PySem.Challenge.pw_rg0148_01]; exact rfl
  case f => exact fun a _ => a
set_option simprocs false in
noncomputable def fd239 : FuncData := by
  refine' (?f : (a : FuncData) → a = ⟨Str.ofString "size_value", Str.ofString "size_value", fA (nth top 16), .stmts (fB (nth top 16)), fS (nth top 16), 3, [], .none, .none, .none, (.str (Str.ofString "gateloom.numerals") 465), none, (.ref 238), .none, 0⟩ → FuncData) _ ?h
  case h => dsimp only [nth, cB, fA, fB, fS, top, PySem.Challenge.pw_rg0148_01]; exact rfl
  case f => exact fun a _ => a
set_option simprocs false in
noncomputable def fd246 : FuncData := by
  refine' (?f : (a : FuncData) → a = ⟨Str.ofString "digit_pair", Str.ofString "digit_pair", fA (nth top 17), .stmts (fB (nth top 17)), fS (nth top 17), 3, [], .none, .none, .none, (.str (Str.ofString "gateloom.numerals") 465), none, (.ref 245), .none, 0⟩ → FuncData) _ ?h
  case h => dsimp only [nth, cB, fA, fB, fS, top, PySem.Challenge.pw_rg0148_01]; exact rfl
  case f => exact fun a _ => a
set_option simprocs false in
noncomputable def fd253 : FuncData := by
  refine' (?f : (a : FuncData) → a = ⟨Str.ofString "grouped", Str.ofString "grouped", fA (nth top 18), .stmts (fB (nth top 18)), fS (nth top 18), 3, [], .none, .none, .none, (.str (Str.ofString "gateloom.numerals") 465), none, (.ref 252), .none, 0⟩ → FuncData) _ ?h
  case h => dsimp only [nth, cB, fA, fB, fS, top, PySem.Challenge.pw_rg0148_01]; exact rfl
  case f => exact fun a _ => a
set_option simprocs false in
noncomputable def fd260 : FuncData := by
  refine' (?f : (a : FuncData) → a = ⟨Str.ofString "padded_vec", Str.ofString "padded_vec", fA (nth top 19), .stmts (fB (nth top 19)), fS (nth top 19), 3, [], .none, .none, .none, (.str (Str.ofString "gateloom.numerals") 465), none, (.ref 259), .none, 0⟩ → FuncData) _ ?h
  case h => dsimp only [nth, cB, fA, fB, fS, top, PySem.Challenge.pw_rg0148_01]; exact rfl
  case f => exact fun a _ => a
set_option simprocs false in
noncomputable def fd267 : FuncData := by
  refine' (?f : (a : FuncData) → a = ⟨Str.ofString "numeral", Str.ofString "numeral", fA (nth top 20), .stmts (fB (nth top 20)), fS (nth top 20), 3, [], .none, .none, .none, (.str (Str.ofString "gateloom.numerals") 465), none, (.ref 266), .none, 0⟩ → FuncData) _ ?h
  case h => dsimp only [nth, cB, fA, fB, fS, top, PySem.Challenge.pw_rg0148_01]; exact rfl
  case f => exact fun a _ => a
set_option simprocs false in
noncomputable def fd274 : FuncData := by
  refine' (?f : (a : FuncData) → a = ⟨Str.ofString "precedence", Str.ofString "precedence", fA (nth top 24), .stmts (fB (nth top 24)), fS (nth top 24), 3, [], .none, .none, .none, (.str (Str.ofString "gateloom.exprparse") 549), none, (.ref 273), .none, 0⟩ → FuncData) _ ?h
  case h => dsimp only [nth, cB, fA, fB, fS, top, PySem.Challenge.pw_rg0148_01]; exact rfl
  case f => exact fun a _ => a
set_option simprocs false in
noncomputable def fd281 : FuncData := by
  refine' (?f : (a : FuncData) → a = ⟨Str.ofString "is_unary", Str.ofString "is_unary", fA (nth top 25), .stmts (fB (nth top 25)), fS (nth top 25), 3, [], .none, .none, .none, (.str (Str.ofString "gateloom.exprparse") 549), none, (.ref 280), .none, 0⟩ → FuncData) _ ?h
  case h => dsimp only [nth, cB, fA, fB, fS, top, PySem.Challenge.pw_rg0148_01]; exact rfl
  case f => exact fun a _ => a
set_option simprocs false in
noncomputable def fd288 : FuncData := by
  refine' (?f : (a : FuncData) → a = ⟨Str.ofString "plain_operator", Str.ofString "plain_operator", fA (nth top 26), .stmts (fB (nth top 26)), fS (nth top 26), 3, [], .none, .none, .none, (.str (Str.ofString "gateloom.exprparse") 549), none, (.ref 287), .none, 0⟩ → FuncData) _ ?h
  case h => dsimp only [nth, cB, fA, fB, fS, top, PySem.Challenge.pw_rg0148_01]; exact rfl
  case f => exact fun a _ => a
set_option simprocs false in
noncomputable def fd293 : FuncData := by
  refine' (?f : (a : FuncData) → a = ⟨Str.ofString "is_high", Str.ofString "is_high", fA (nth top 27), .stmts (fB (nth top 27)), fS (nth top 27), 3, [], .none, .none, .none, (.str (Str.ofString "gateloom.exprparse") 549), none, (.ref 292), .none, 0⟩ → FuncData) _ ?h
  case h => dsimp only [nth, cB, fA, fB, fS, top, PySem.Challenge.pw_rg0148_01]; exact rfl
  case f => exact fun a _ => a
set_option simprocs false in
noncomputable def fd307 : FuncData := by
  refine' (?f : (a : FuncData) → a = ⟨Str.ofString "__init__", Str.ofString "ExprParser.__init__", fA (nth (cB (nth top 28)) 0), .stmts (fB (nth (cB (nth top 28)) 0)), fS (nth (cB (nth top 28)) 0), 3, [], .none, .none, .none, (.str (Str.ofString "gateloom.exprparse") 549), none, (.ref 306), .none, 0⟩ → FuncData) _ ?h
  case h => dsimp only [nth, cB, fA, fB, fS, top, PySem.Challenge.pw_rg0148_01]; exact rfl
  case f => exact fun a _ => a
set_option simprocs false in
noncomputable def fd314 : FuncData := by
  refine' (?f : (a : FuncData) → a = ⟨Str.ofString "enter", Str.ofString "ExprParser.enter", fA (nth (cB (nth top 28)) 1), .stmts (fB (nth (cB (nth top 28)) 1)), fS (nth (cB (nth top 28)) 1), 3, [], .none, .none, .none, (.str (Str.ofString "gateloom.exprparse") 549), none, (.ref 313), .none, 0⟩ → FuncData) _ ?h
  case h => dsimp only [nth, cB, fA, fB, fS, top, PySem.Challenge.pw_rg0148_01]; exact rfl
  case f => exact fun a _ => a
set_option simprocs false in
noncomputable def fd321 : FuncData := by
  refine' (?f : (a : FuncData) → a = ⟨Str.ofString "leave", Str.ofString "ExprParser.leave", fA (nth (cB (nth top 28)) 2), .stmts (fB (nth (cB (nth top 28)) 2)), fS (nth (cB (nth top 28)) 2), 3, [], .none, .none, .none, (.str (Str.ofString "gateloom.exprparse") 549), none, (.ref 320), .none, 0⟩ → FuncData) _ ?h
  case h => dsimp only [nth, cB, fA, fB, fS, top, PySem.Challenge.pw_rg0148_01]; exact rfl
  case f => exact fun a _ => a
set_option simprocs false in
noncomputable def fd328 : FuncData := by
  refine' (?f : (a : FuncData) → a = ⟨Str.ofString "expression", Str.ofString "ExprParser.expression", fA (nth (cB (nth top 28)) 3), .stmts (fB (nth (cB (nth top 28)) 3)), fS (nth (cB (nth top 28)) 3), 3, [], .none, .none, .none, (.str (Str.ofString "gateloom.exprparse") 549), none, (.ref 327), .none, 0⟩ → FuncData) _ ?h
  case h => dsimp only [nth, cB, fA, fB, fS, top, PySem.Challenge.pw_rg0148_01]; exact rfl
  case f => exact fun a _ => a
set_option simprocs false in
noncomputable def fd335 : FuncData := by
  refine' (?f : (a : FuncData) → a = ⟨Str.ofString "inner_expression", Str.ofString "ExprParser.inner_expression", fA (nth (cB (nth top 28)) 4), .stmts (fB (nth (cB (nth top 28)) 4)), fS (nth (cB (nth top 28)) 4), 3, [], .none, .none, .none, (.str (Str.ofString "gateloom.exprparse") 549), none, (.ref 334), .none, 0⟩ → FuncData) _ ?h
  case h => dsimp only [nth, cB, fA, fB, fS, top, PySem.Challenge.pw_rg0148_01]; exact rfl
  case f => exact fun a _ => a
set_option simprocs false in
noncomputable def fd342 : FuncData := by
  refine' (?f : (a : FuncData) → a = ⟨Str.ofString "binary", Str.ofString "ExprParser.binary", fA (nth (cB (nth top 28)) 5), .stmts (fB (nth (cB (nth top 28)) 5)), fS (nth (cB (nth top 28)) 5), 3, [], .none, .none, .none, (.str (Str.ofString "gateloom.exprparse") 549), none, (.ref 341), .none, 0⟩ → FuncData) _ ?h
  case h => dsimp only [nth, cB, fA, fB, fS, top, PySem.Challenge.pw_rg0148_01]; exact rfl
  case f => exact fun a _ => a
set_option simprocs false in
noncomputable def fd349 : FuncData := by
  refine' (?f : (a : FuncData) → a = ⟨Str.ofString "unary", Str.ofString "ExprParser.unary", fA (nth (cB (nth top 28)) 6), .stmts (fB (nth (cB (nth top 28)) 6)), fS (nth (cB (nth top 28)) 6), 3, [], .none, .none, .none, (.str (Str.ofString "gateloom.exprparse") 549), none, (.ref 348), .none, 0⟩ → FuncData) _ ?h
  case h => dsimp only [nth, cB, fA, fB, fS, top, PySem.Challenge.pw_rg0148_01]; exact rfl
  case f => exact fun a _ => a
set_option simprocs false in
noncomputable def fd356 : FuncData := by
  refine' (?f : (a : FuncData) → a = ⟨Str.ofString "primary", Str.ofString "ExprParser.primary", fA (nth (cB (nth top 28)) 7), .stmts (fB (nth (cB (nth top 28)) 7)), fS (nth (cB (nth top 28)) 7), 3, [], .none, .none, .none, (.str (Str.ofString "gateloom.exprparse") 549), none, (.ref 355), .none, 0⟩ → FuncData) _ ?h
  case h => dsimp only [nth, cB, fA, fB, fS, top, PySem.Challenge.pw_rg0148_01]; exact rfl
  case f => exact fun a _ => a
set_option simprocs false in
noncomputable def fd363 : FuncData := by
  refine' (?f : (a : FuncData) → a = ⟨Str.ofString "named_primary", Str.ofString "ExprParser.named_primary", fA (nth (cB (nth top 28)) 8), .stmts (fB (nth (cB (nth top 28)) 8)), fS (nth (cB (nth top 28)) 8), 3, [], .none, .none, .none, (.str (Str.ofString "gateloom.exprparse") 549), none, (.ref 362), .none, 0⟩ → FuncData) _ ?h
  case h => dsimp only [nth, cB, fA, fB, fS, top, PySem.Challenge.pw_rg0148_01]; exact rfl
  case f => exact fun a _ => a
set_option simprocs false in
noncomputable def fd370 : FuncData := by
  refine' (?f : (a : FuncData) → a = ⟨Str.ofString "braces", Str.ofString "ExprParser.braces", fA (nth (cB (nth top 28)) 9), .stmts (fB (nth (cB (nth top 28)) 9)), fS (nth (cB (nth top 28)) 9), 3, [], .none, .none, .none, (.str (Str.ofString "gateloom.exprparse") 549), none, (.ref 369), .none, 0⟩ → FuncData) _ ?h
  case h => dsimp only [nth, cB, fA, fB, fS, top, PySem.Challenge.pw_rg0148_01]; exact rfl
  case f => exact fun a _ => a
set_option simprocs false in
noncomputable def fd377 : FuncData := by
  refine' (?f : (a : FuncData) → a = ⟨Str.ofString "expression_list", Str.ofString "ExprParser.expression_list", fA (nth (cB (nth top 28)) 10), .stmts (fB (nth (cB (nth top 28)) 10)), fS (nth (cB (nth top 28)) 10), 3, [], .none, .none, .none, (.str (Str.ofString "gateloom.exprparse") 549), none, (.ref 376), .none, 0⟩ → FuncData) _ ?h
  case h => dsimp only [nth, cB, fA, fB, fS, top, PySem.Challenge.pw_rg0148_01]; exact rfl
  case f => exact fun a _ => a
set_option simprocs false in
noncomputable def fd384 : FuncData := by
  refine' (?f : (a : FuncData) → a = ⟨Str.ofString "arguments", Str.ofString "ExprParser.arguments", fA (nth (cB (nth top 28)) 11), .stmts (fB (nth (cB (nth top 28)) 11)), fS (nth (cB (nth top 28)) 11), 3, [], .none, .none, .none, (.str (Str.ofString "gateloom.exprparse") 549), none, (.ref 383), .none, 0⟩ → FuncData) _ ?h
  case h => dsimp only [nth, cB, fA, fB, fS, top, PySem.Challenge.pw_rg0148_01]; exact rfl
  case f => exact fun a _ => a
set_option simprocs false in
noncomputable def fd391 : FuncData := by
  refine' (?f : (a : FuncData) → a = ⟨Str.ofString "mintypmax", Str.ofString "ExprParser.mintypmax", fA (nth (cB (nth top 28)) 12), .stmts (fB (nth (cB (nth top 28)) 12)), fS (nth (cB (nth top 28)) 12), 3, [], .none, .none, .none, (.str (Str.ofString "gateloom.exprparse") 549), none, (.ref 390), .none, 0⟩ → FuncData) _ ?h
  case h => dsimp only [nth, cB, fA, fB, fS, top, PySem.Challenge.pw_rg0148_01]; exact rfl
  case f => exact fun a _ => a
set_option simprocs false in
noncomputable def fd398 : FuncData := by
  refine' (?f : (a : FuncData) → a = ⟨Str.ofString "reference", Str.ofString "ExprParser.reference", fA (nth (cB (nth top 28)) 13), .stmts (fB (nth (cB (nth top 28)) 13)), fS (nth (cB (nth top 28)) 13), 3, [], .none, .none, .none, (.str (Str.ofString "gateloom.exprparse") 549), none, (.ref 397), .none, 0⟩ → FuncData) _ ?h
  case h => dsimp only [nth, cB, fA, fB, fS, top, PySem.Challenge.pw_rg0148_01]; exact rfl
  case f => exact fun a _ => a
set_option simprocs false in
noncomputable def fd405 : FuncData := by
  refine' (?f : (a : FuncData) → a = ⟨Str.ofString "path_term", Str.ofString "ExprParser.path_term", fA (nth (cB (nth top 28)) 14), .stmts (fB (nth (cB (nth top 28)) 14)), fS (nth (cB (nth top 28)) 14), 3, [], .none, .none, .none, (.str (Str.ofString "gateloom.exprparse") 549), none, (.ref 404), .none, 0⟩ → FuncData) _ ?h
  case h => dsimp only [nth, cB, fA, fB, fS, top, PySem.Challenge.pw_rg0148_01]; exact rfl
  case f => exact fun a _ => a
set_option simprocs false in
noncomputable def fd412 : FuncData := by
  refine' (?f : (a : FuncData) → a = ⟨Str.ofString "selects", Str.ofString "ExprParser.selects", fA (nth (cB (nth top 28)) 15), .stmts (fB (nth (cB (nth top 28)) 15)), fS (nth (cB (nth top 28)) 15), 3, [], .none, .none, .none, (.str (Str.ofString "gateloom.exprparse") 549), none, (.ref 411), .none, 0⟩ → FuncData) _ ?h
  case h => dsimp only [nth, cB, fA, fB, fS, top, PySem.Challenge.pw_rg0148_01]; exact rfl
  case f => exact fun a _ => a
set_option simprocs false in
noncomputable def fd419 : FuncData := by
  refine' (?f : (a : FuncData) → a = ⟨Str.ofString "bracket", Str.ofString "ExprParser.bracket", fA (nth (cB (nth top 28)) 16), .stmts (fB (nth (cB (nth top 28)) 16)), fS (nth (cB (nth top 28)) 16), 3, [], .none, .none, .none, (.str (Str.ofString "gateloom.exprparse") 549), none, (.ref 418), .none, 0⟩ → FuncData) _ ?h
  case h => dsimp only [nth, cB, fA, fB, fS, top, PySem.Challenge.pw_rg0148_01]; exact rfl
  case f => exact fun a _ => a
set_option simprocs false in
noncomputable def fd426 : FuncData := by
  refine' (?f : (a : FuncData) → a = ⟨Str.ofString "with_select", Str.ofString "ExprParser.with_select", fA (nth (cB (nth top 28)) 17), .stmts (fB (nth (cB (nth top 28)) 17)), fS (nth (cB (nth top 28)) 17), 3, [], .none, .none, .none, (.str (Str.ofString "gateloom.exprparse") 549), none, (.ref 425), .none, 0⟩ → FuncData) _ ?h
  case h => dsimp only [nth, cB, fA, fB, fS, top, PySem.Challenge.pw_rg0148_01]; exact rfl
  case f => exact fun a _ => a
set_option simprocs false in
noncomputable def fd433 : FuncData := by
  refine' (?f : (a : FuncData) → a = ⟨Str.ofString "lvalue", Str.ofString "ExprParser.lvalue", fA (nth (cB (nth top 28)) 18), .stmts (fB (nth (cB (nth top 28)) 18)), fS (nth (cB (nth top 28)) 18), 3, [], .none, .none, .none, (.str (Str.ofString "gateloom.exprparse") 549), none, (.ref 432), .none, 0⟩ → FuncData) _ ?h
  case h => dsimp only [nth, cB, fA, fB, fS, top, PySem.Challenge.pw_rg0148_01]; exact rfl
  case f => exact fun a _ => a
set_option simprocs false in
noncomputable def fd440 : FuncData := by
  refine' (?f : (a : FuncData) → a = ⟨Str.ofString "name_path", Str.ofString "ExprParser.name_path", fA (nth (cB (nth top 28)) 19), .stmts (fB (nth (cB (nth top 28)) 19)), fS (nth (cB (nth top 28)) 19), 3, [], .none, .none, .none, (.str (Str.ofString "gateloom.exprparse") 549), none, (.ref 439), .none, 0⟩ → FuncData) _ ?h
  case h => dsimp only [nth, cB, fA, fB, fS, top, PySem.Challenge.pw_rg0148_01]; exact rfl
  case f => exact fun a _ => a
set_option simprocs false in
noncomputable def fd447 : FuncData := by
  refine' (?f : (a : FuncData) → a = ⟨Str.ofString "range_or_none", Str.ofString "ExprParser.range_or_none", fA (nth (cB (nth top 28)) 20), .stmts (fB (nth (cB (nth top 28)) 20)), fS (nth (cB (nth top 28)) 20), 3, [], .none, .none, .none, (.str (Str.ofString "gateloom.exprparse") 549), none, (.ref 446), .none, 0⟩ → FuncData) _ ?h
  case h => dsimp only [nth, cB, fA, fB, fS, top, PySem.Challenge.pw_rg0148_01]; exact rfl
  case f => exact fun a _ => a
set_option simprocs false in
noncomputable def fd454 : FuncData := by
  refine' (?f : (a : FuncData) → a = ⟨Str.ofString "delay_value", Str.ofString "ExprParser.delay_value", fA (nth (cB (nth top 28)) 21), .stmts (fB (nth (cB (nth top 28)) 21)), fS (nth (cB (nth top 28)) 21), 3, [], .none, .none, .none, (.str (Str.ofString "gateloom.exprparse") 549), none, (.ref 453), .none, 0⟩ → FuncData) _ ?h
  case h => dsimp only [nth, cB, fA, fB, fS, top, PySem.Challenge.pw_rg0148_01]; exact rfl
  case f => exact fun a _ => a
set_option simprocs false in
noncomputable def fd461 : FuncData := by
  refine' (?f : (a : FuncData) → a = ⟨Str.ofString "delay", Str.ofString "ExprParser.delay", fA (nth (cB (nth top 28)) 22), .stmts (fB (nth (cB (nth top 28)) 22)), fS (nth (cB (nth top 28)) 22), 3, [], .none, .none, .none, (.str (Str.ofString "gateloom.exprparse") 549), none, (.ref 460), .none, 0⟩ → FuncData) _ ?h
  case h => dsimp only [nth, cB, fA, fB, fS, top, PySem.Challenge.pw_rg0148_01]; exact rfl
  case f => exact fun a _ => a
set_option simprocs false in
noncomputable def fd468 : FuncData := by
  refine' (?f : (a : FuncData) → a = ⟨Str.ofString "delays", Str.ofString "ExprParser.delays", fA (nth (cB (nth top 28)) 23), .stmts (fB (nth (cB (nth top 28)) 23)), fS (nth (cB (nth top 28)) 23), 3, [], .none, .none, .none, (.str (Str.ofString "gateloom.exprparse") 549), none, (.ref 467), .none, 0⟩ → FuncData) _ ?h
  case h => dsimp only [nth, cB, fA, fB, fS, top, PySem.Challenge.pw_rg0148_01]; exact rfl
  case f => exact fun a _ => a
set_option simprocs false in
noncomputable def fd478 : FuncData := by
  refine' (?f : (a : FuncData) → a = ⟨Str.ofString "law", Str.ofString "law", fA (nth top 30), .stmts (fB (nth top 30)), fS (nth top 30), 3, [], .none, .none, .none, (.str (Str.ofString "law_rg0148_01") 814), none, (.ref 477), .none, 0⟩ → FuncData) _ ?h
  case h => dsimp only [nth, cB, fA, fB, fS, top, PySem.Challenge.pw_rg0148_01]; exact rfl
  case f => exact fun a _ => a
end KP
open KP in
/-- the heap's written part, the text's own code by reference -/
noncomputable def wrK : Params → Frag := fun P =>
  (nat_lit 2, ⟨.none, none, (.dict #[⟨PyData.keyHash P (Str.ofString "type.__subclasses__.Exception.0"), .str (Str.ofString "type.__subclasses__.Exception.0") 228, (.int 39 0)⟩, ⟨PyData.keyHash P (Str.ofString "type.__subclasses__.Exception.n"), .str (Str.ofString "type.__subclasses__.Exception.n") 229, (.int 1 0)⟩] 2), #[]⟩) ::
  (nat_lit 3, ⟨(.type "dict"), none, (.dict (List.toArray (⟨PyData.keyHash P (Str.ofString "__name__"), .str (Str.ofString "__name__") 165, (.str (Str.ofString "law_rg0148_01") 814)⟩ :: ⟨PyData.keyHash P (Str.ofString "__doc__"), .str (Str.ofString "__doc__") 166, .none⟩ :: ⟨PyData.keyHash P (Str.ofString "__package__"), .str (Str.ofString "__package__") 167, .none⟩ :: ⟨PyData.keyHash P (Str.ofString "__loader__"), .str (Str.ofString "__loader__") 168, (.builtin "__main__.__loader__#opaque")⟩ :: ⟨PyData.keyHash P (Str.ofString "__spec__"), .str (Str.ofString "__spec__") 169, .none⟩ :: ⟨PyData.keyHash P (Str.ofString "__annotations__"), .str (Str.ofString "__annotations__") 170, (.ref 6)⟩ :: ⟨PyData.keyHash P (Str.ofString "__builtins__"), .str (Str.ofString "__builtins__") 171, (.ref 4)⟩ :: ⟨PyData.keyHash P (Str.ofString "__file__"), .str (Str.ofString "__file__") 173, (.str (Str.ofString "/claim/cut.py") 172)⟩ :: ⟨PyData.keyHash P (Str.ofString "__cached__"), .str (Str.ofString "__cached__") 174, .none⟩ :: ⟨PyData.keyHash P (Str.ofString "_wall"), .str (Str.ofString "_wall") 193, (.ref 21)⟩ :: ⟨PyData.keyHash P (Str.ofString "GateloomError"), .str (Str.ofString "GateloomError") 231, (.ref 39)⟩ :: ⟨PyData.keyHash P (Str.ofString "SourceError"), .str (Str.ofString "SourceError") 247, (.ref 52)⟩ :: ⟨PyData.keyHash P (Str.ofString "Token"), .str (Str.ofString "Token") 282, (.ref 71)⟩ :: ⟨PyData.keyHash P (Str.ofString "TokenRow"), .str (Str.ofString "TokenRow") 321, (.ref 99)⟩ :: ⟨PyData.keyHash P (Str.ofString "Cursor"), .str (Str.ofString "Cursor") 444, (.ref 199)⟩ :: ⟨PyData.keyHash P (Str.ofString "mask"), .str (Str.ofString "mask") 453, (.ref 210)⟩ :: ⟨PyData.keyHash P (Str.ofString "vec"), .str (Str.ofString "vec") 464, (.ref 218)⟩ :: ⟨PyData.keyHash P (Str.ofString "MOST_BITS"), .str (Str.ofString "MOST_BITS") 468, (.int 65536 467)⟩ :: ⟨PyData.keyHash P (Str.ofString "PLAIN_BITS"), .str (Str.ofString "PLAIN_BITS") 470, (.int 32 469)⟩ :: ⟨PyData.keyHash P (Str.ofString "digit_bits"), .str (Str.ofString "digit_bits") 477, (.ref 225)⟩ :: ⟨PyData.keyHash P (Str.ofString "decimal_value"), .str (Str.ofString "decimal_value") 486, (.ref 232)⟩ :: ⟨PyData.keyHash P (Str.ofString "size_value"), .str (Str.ofString "size_value") 495, (.ref 239)⟩ :: ⟨PyData.keyHash P (Str.ofString "digit_pair"), .str (Str.ofString "digit_pair") 503, (.ref 246)⟩ :: ⟨PyData.keyHash P (Str.ofString "grouped"), .str (Str.ofString "grouped") 518, (.ref 253)⟩ :: ⟨PyData.keyHash P (Str.ofString "padded_vec"), .str (Str.ofString "padded_vec") 530, (.ref 260)⟩ :: ⟨PyData.keyHash P (Str.ofString "numeral"), .str (Str.ofString "numeral") 548, (.ref 267)⟩ :: ⟨PyData.keyHash P (Str.ofString "MOST_NEST"), .str (Str.ofString "MOST_NEST") 552, (.int 60 551)⟩ :: ⟨PyData.keyHash P (Str.ofString "MOST_HEIGHT"), .str (Str.ofString "MOST_HEIGHT") 554, (.int 200 553)⟩ :: ⟨PyData.keyHash P (Str.ofString "precedence"), .str (Str.ofString "precedence") 561, (.ref 274)⟩ :: ⟨PyData.keyHash P (Str.ofString "is_unary"), .str (Str.ofString "is_unary") 568, (.ref 281)⟩ :: ⟨PyData.keyHash P (Str.ofString "plain_operator"), .str (Str.ofString "plain_operator") 575, (.ref 288)⟩ :: ⟨PyData.keyHash P (Str.ofString "is_high"), .str (Str.ofString "is_high") 581, (.ref 293)⟩ :: ⟨PyData.keyHash P (Str.ofString "ExprParser"), .str (Str.ofString "ExprParser") 813, (.ref 471)⟩ :: ⟨PyData.keyHash P (Str.ofString "law"), .str (Str.ofString "law") 821, (.ref 478)⟩ :: [])) 34), #[]⟩) ::
  (nat_lit 15, ⟨(.type "tuple"), none, (.seq #[] 0), #[]⟩) ::
  (nat_lit 17, ⟨(.type "tuple"), none, (.seq #[(.str (Str.ofString "k") 190)] 0), #[]⟩) ::
  (nat_lit 18, ⟨(.type "tuple"), none, (.seq #[] 0), #[]⟩) ::
  (nat_lit 20, ⟨(.type "code"), none, (.fields (List.toArray ((.str (Str.ofString "_wall") 187) :: (.str (Str.ofString "_wall") 188) :: (.str (Str.ofString "/claim/cut.py") 189) :: (.int 1 0) :: (.int 1 0) :: (.int 0 0) :: (.int 0 0) :: (.int 3 0) :: (.ref 15) :: (.bool true) :: (.int 181 0) :: (.ref 16) :: .none :: (.ref 17) :: (.ref 18) :: (.ref 19) :: (.int 191 0) :: (.int 1 0) :: (.str (Str.ofString "/claim/cut.py") 192) :: []))), #[]⟩) ::
  (nat_lit 21, ⟨(.type "function"), none, (.func fd21), #[]⟩) ::
  (nat_lit 22, ⟨(.type "tuple"), none, (.seq #[(.type "Exception")] 0), #[]⟩) ::
  (nat_lit 29, ⟨(.type "tuple"), none, (.seq #[(.int (-1) 209), (.str (Str.ofString "") 210)] 0), #[]⟩) ::
  (nat_lit 30, ⟨(.type "tuple"), none, (.seq #[] 0), #[]⟩) ::
  (nat_lit 32, ⟨(.type "tuple"), none, (.seq #[(.str (Str.ofString "self") 214), (.str (Str.ofString "kind") 215), (.str (Str.ofString "at") 216), (.str (Str.ofString "detail") 217)] 0), #[]⟩) ::
  (nat_lit 33, ⟨(.type "tuple"), none, (.seq #[] 0), #[]⟩) ::
  (nat_lit 35, ⟨(.type "code"), none, (.fields (List.toArray ((.str (Str.ofString "__init__") 211) :: (.str (Str.ofString "GateloomError.__init__") 212) :: (.str (Str.ofString "/claim/cut.py") 213) :: (.int 7 0) :: (.int 4 0) :: (.int 0 0) :: (.int 0 0) :: (.int 3 0) :: (.ref 30) :: (.bool true) :: (.int 181 0) :: (.ref 31) :: .none :: (.ref 32) :: (.ref 33) :: (.ref 34) :: (.int 218 0) :: (.int 7 0) :: (.str (Str.ofString "/claim/cut.py") 219) :: []))), #[]⟩) ::
  (nat_lit 36, ⟨(.type "function"), none, (.func fd36), #[]⟩) ::
  (nat_lit 37, ⟨(.type "tuple"), none, (.seq #[(.str (Str.ofString "at") 221), (.str (Str.ofString "detail") 222), (.str (Str.ofString "kind") 223)] 0), #[]⟩) ::
  (nat_lit 38, ⟨(.type "dict"), none, (.dict #[⟨PyData.keyHash P (Str.ofString "__module__"), .str (Str.ofString "__module__") 203, (.str (Str.ofString "gateloom.errors") 194)⟩, ⟨PyData.keyHash P (Str.ofString "__firstlineno__"), .str (Str.ofString "__firstlineno__") 207, (.int 5 206)⟩, ⟨PyData.keyHash P (Str.ofString "__init__"), .str (Str.ofString "__init__") 220, (.ref 36)⟩, ⟨PyData.keyHash P (Str.ofString "__static_attributes__"), .str (Str.ofString "__static_attributes__") 224, (.ref 37)⟩, ⟨PyData.keyHash P (Str.ofString "__weakref__"), .str (Str.ofString "__weakref__") 226, (.ref 40)⟩, ⟨PyData.keyHash P (Str.ofString "__doc__"), .str (Str.ofString "__doc__") 227, .none⟩] 3), #[]⟩) ::
  (nat_lit 39, ⟨(.type "type"), none, (.cls ⟨Str.ofString "GateloomError", [(.type "Exception")], [(.ref 39), (.type "Exception"), (.type "BaseException"), (.type "object")], 38, Str.ofString "GateloomError", true, [], [(.ref 52)], false, none, false⟩), #[(some (.ref 22)), none, (some (.str (Str.ofString "GateloomError") 196)), (some (.str (Str.ofString "GateloomError") 204)), (some (.builtin "Exception.__new__")), (some (.bool true))]⟩) ::
  (nat_lit 40, ⟨(.type "getset_descriptor"), none, (.fields #[(.str (Str.ofString "__weakref__") 225), (.ref 39), (.builtin "ExceptionGroup.__weakref__"), .none]), #[]⟩) ::
  (nat_lit 43, ⟨(.type "tuple"), none, (.seq #[(.ref 39)] 0), #[]⟩) ::
  (nat_lit 50, ⟨(.type "tuple"), none, (.seq #[] 0), #[]⟩) ::
  (nat_lit 51, ⟨(.type "dict"), none, (.dict #[⟨PyData.keyHash P (Str.ofString "__module__"), .str (Str.ofString "__module__") 239, (.str (Str.ofString "gateloom.errors") 194)⟩, ⟨PyData.keyHash P (Str.ofString "__firstlineno__"), .str (Str.ofString "__firstlineno__") 243, (.int 11 242)⟩, ⟨PyData.keyHash P (Str.ofString "__static_attributes__"), .str (Str.ofString "__static_attributes__") 244, (.ref 50)⟩, ⟨PyData.keyHash P (Str.ofString "__doc__"), .str (Str.ofString "__doc__") 245, .none⟩] 2), #[]⟩) ::
  (nat_lit 52, ⟨(.type "type"), none, (.cls ⟨Str.ofString "SourceError", [(.ref 39)], [(.ref 52), (.ref 39), (.type "Exception"), (.type "BaseException"), (.type "object")], 51, Str.ofString "SourceError", true, [], [], false, none, false⟩), #[(some (.ref 43)), none, (some (.str (Str.ofString "SourceError") 232)), (some (.str (Str.ofString "SourceError") 240)), (some (.builtin "Exception.__new__")), (some (.bool true))]⟩) ::
  (nat_lit 62, ⟨(.type "tuple"), none, (.seq #[] 0), #[]⟩) ::
  (nat_lit 64, ⟨(.type "tuple"), none, (.seq #[(.str (Str.ofString "self") 265), (.str (Str.ofString "kind") 266), (.str (Str.ofString "value") 267), (.str (Str.ofString "at") 268)] 0), #[]⟩) ::
  (nat_lit 65, ⟨(.type "tuple"), none, (.seq #[] 0), #[]⟩) ::
  (nat_lit 67, ⟨(.type "code"), none, (.fields (List.toArray ((.str (Str.ofString "__init__") 262) :: (.str (Str.ofString "Token.__init__") 263) :: (.str (Str.ofString "/claim/cut.py") 264) :: (.int 16 0) :: (.int 4 0) :: (.int 0 0) :: (.int 0 0) :: (.int 3 0) :: (.ref 62) :: (.bool true) :: (.int 181 0) :: (.ref 63) :: .none :: (.ref 64) :: (.ref 65) :: (.ref 66) :: (.int 269 0) :: (.int 16 0) :: (.str (Str.ofString "/claim/cut.py") 270) :: []))), #[]⟩) ::
  (nat_lit 68, ⟨(.type "function"), none, (.func fd68), #[]⟩) ::
  (nat_lit 69, ⟨(.type "tuple"), none, (.seq #[(.str (Str.ofString "at") 272), (.str (Str.ofString "kind") 273), (.str (Str.ofString "value") 274)] 0), #[]⟩) ::
  (nat_lit 70, ⟨(.type "dict"), none, (.dict #[⟨PyData.keyHash P (Str.ofString "__module__"), .str (Str.ofString "__module__") 257, (.str (Str.ofString "gateloom.tokens") 248)⟩, ⟨PyData.keyHash P (Str.ofString "__firstlineno__"), .str (Str.ofString "__firstlineno__") 261, (.int 14 260)⟩, ⟨PyData.keyHash P (Str.ofString "__init__"), .str (Str.ofString "__init__") 271, (.ref 68)⟩, ⟨PyData.keyHash P (Str.ofString "__static_attributes__"), .str (Str.ofString "__static_attributes__") 275, (.ref 69)⟩, ⟨PyData.keyHash P (Str.ofString "__dict__"), .str (Str.ofString "__dict__") 277, (.ref 72)⟩, ⟨PyData.keyHash P (Str.ofString "__weakref__"), .str (Str.ofString "__weakref__") 279, (.ref 73)⟩, ⟨PyData.keyHash P (Str.ofString "__doc__"), .str (Str.ofString "__doc__") 280, .none⟩] 4), #[]⟩) ::
  (nat_lit 71, ⟨(.type "type"), none, (.cls ⟨Str.ofString "Token", [(.type "object")], [(.ref 71), (.type "object")], 70, Str.ofString "Token", true, [], [], false, none, false⟩), #[none, none, (some (.str (Str.ofString "Token") 250)), (some (.str (Str.ofString "Token") 258)), (some (.builtin "object.__new__")), (some (.bool true))]⟩) ::
  (nat_lit 72, ⟨(.type "getset_descriptor"), none, (.fields #[(.str (Str.ofString "__dict__") 276), (.ref 71), (.builtin "function.__dict__"), (.builtin "function.__dict__#set")]), #[]⟩) ::
  (nat_lit 73, ⟨(.type "getset_descriptor"), none, (.fields #[(.str (Str.ofString "__weakref__") 278), (.ref 71), (.builtin "ExceptionGroup.__weakref__"), .none]), #[]⟩) ::
  (nat_lit 83, ⟨(.type "tuple"), none, (.seq #[] 0), #[]⟩) ::
  (nat_lit 85, ⟨(.type "tuple"), none, (.seq #[(.str (Str.ofString "self") 298), (.str (Str.ofString "tokens") 299)] 0), #[]⟩) ::
  (nat_lit 86, ⟨(.type "tuple"), none, (.seq #[] 0), #[]⟩) ::
  (nat_lit 88, ⟨(.type "code"), none, (.fields (List.toArray ((.str (Str.ofString "__init__") 295) :: (.str (Str.ofString "TokenRow.__init__") 296) :: (.str (Str.ofString "/claim/cut.py") 297) :: (.int 22 0) :: (.int 2 0) :: (.int 0 0) :: (.int 0 0) :: (.int 3 0) :: (.ref 83) :: (.bool true) :: (.int 181 0) :: (.ref 84) :: .none :: (.ref 85) :: (.ref 86) :: (.ref 87) :: (.int 300 0) :: (.int 22 0) :: (.str (Str.ofString "/claim/cut.py") 301) :: []))), #[]⟩) ::
  (nat_lit 89, ⟨(.type "function"), none, (.func fd89), #[]⟩) ::
  (nat_lit 90, ⟨(.type "tuple"), none, (.seq #[] 0), #[]⟩) ::
  (nat_lit 92, ⟨(.type "tuple"), none, (.seq #[(.str (Str.ofString "self") 306), (.str (Str.ofString "token") 307)] 0), #[]⟩) ::
  (nat_lit 93, ⟨(.type "tuple"), none, (.seq #[] 0), #[]⟩) ::
  (nat_lit 95, ⟨(.type "code"), none, (.fields (List.toArray ((.str (Str.ofString "next_token") 303) :: (.str (Str.ofString "TokenRow.next_token") 304) :: (.str (Str.ofString "/claim/cut.py") 305) :: (.int 27 0) :: (.int 1 0) :: (.int 0 0) :: (.int 0 0) :: (.int 3 0) :: (.ref 90) :: (.bool true) :: (.int 181 0) :: (.ref 91) :: .none :: (.ref 92) :: (.ref 93) :: (.ref 94) :: (.int 308 0) :: (.int 27 0) :: (.str (Str.ofString "/claim/cut.py") 309) :: []))), #[]⟩) ::
  (nat_lit 96, ⟨(.type "function"), none, (.func fd96), #[]⟩) ::
  (nat_lit 97, ⟨(.type "tuple"), none, (.seq #[(.str (Str.ofString "parted") 311), (.str (Str.ofString "place") 312), (.str (Str.ofString "tokens") 313)] 0), #[]⟩) ::
  (nat_lit 98, ⟨(.type "dict"), none, (.dict #[⟨PyData.keyHash P (Str.ofString "__module__"), .str (Str.ofString "__module__") 290, (.str (Str.ofString "gateloom.tokens") 248)⟩, ⟨PyData.keyHash P (Str.ofString "__firstlineno__"), .str (Str.ofString "__firstlineno__") 294, (.int 20 293)⟩, ⟨PyData.keyHash P (Str.ofString "__init__"), .str (Str.ofString "__init__") 302, (.ref 89)⟩, ⟨PyData.keyHash P (Str.ofString "next_token"), .str (Str.ofString "next_token") 310, (.ref 96)⟩, ⟨PyData.keyHash P (Str.ofString "__static_attributes__"), .str (Str.ofString "__static_attributes__") 314, (.ref 97)⟩, ⟨PyData.keyHash P (Str.ofString "__dict__"), .str (Str.ofString "__dict__") 316, (.ref 100)⟩, ⟨PyData.keyHash P (Str.ofString "__weakref__"), .str (Str.ofString "__weakref__") 318, (.ref 101)⟩, ⟨PyData.keyHash P (Str.ofString "__doc__"), .str (Str.ofString "__doc__") 319, .none⟩] 4), #[]⟩) ::
  (nat_lit 99, ⟨(.type "type"), none, (.cls ⟨Str.ofString "TokenRow", [(.type "object")], [(.ref 99), (.type "object")], 98, Str.ofString "TokenRow", true, [], [], false, none, false⟩), #[none, none, (some (.str (Str.ofString "TokenRow") 283)), (some (.str (Str.ofString "TokenRow") 291)), (some (.builtin "object.__new__")), (some (.bool true))]⟩) ::
  (nat_lit 100, ⟨(.type "getset_descriptor"), none, (.fields #[(.str (Str.ofString "__dict__") 315), (.ref 99), (.builtin "function.__dict__"), (.builtin "function.__dict__#set")]), #[]⟩) ::
  (nat_lit 101, ⟨(.type "getset_descriptor"), none, (.fields #[(.str (Str.ofString "__weakref__") 317), (.ref 99), (.builtin "ExceptionGroup.__weakref__"), .none]), #[]⟩) ::
  (nat_lit 111, ⟨(.type "tuple"), none, (.seq #[] 0), #[]⟩) ::
  (nat_lit 113, ⟨(.type "tuple"), none, (.seq #[(.str (Str.ofString "self") 337), (.str (Str.ofString "source") 338)] 0), #[]⟩) ::
  (nat_lit 114, ⟨(.type "tuple"), none, (.seq #[] 0), #[]⟩) ::
  (nat_lit 116, ⟨(.type "code"), none, (.fields (List.toArray ((.str (Str.ofString "__init__") 334) :: (.str (Str.ofString "Cursor.__init__") 335) :: (.str (Str.ofString "/claim/cut.py") 336) :: (.int 35 0) :: (.int 2 0) :: (.int 0 0) :: (.int 0 0) :: (.int 3 0) :: (.ref 111) :: (.bool true) :: (.int 181 0) :: (.ref 112) :: .none :: (.ref 113) :: (.ref 114) :: (.ref 115) :: (.int 339 0) :: (.int 35 0) :: (.str (Str.ofString "/claim/cut.py") 340) :: []))), #[]⟩) ::
  (nat_lit 117, ⟨(.type "function"), none, (.func fd117), #[]⟩) ::
  (nat_lit 118, ⟨(.type "tuple"), none, (.seq #[] 0), #[]⟩) ::
  (nat_lit 120, ⟨(.type "tuple"), none, (.seq #[(.str (Str.ofString "self") 345), (.str (Str.ofString "token") 346)] 0), #[]⟩) ::
  (nat_lit 121, ⟨(.type "tuple"), none, (.seq #[] 0), #[]⟩) ::
  (nat_lit 123, ⟨(.type "code"), none, (.fields (List.toArray ((.str (Str.ofString "fetch") 342) :: (.str (Str.ofString "Cursor.fetch") 343) :: (.str (Str.ofString "/claim/cut.py") 344) :: (.int 42 0) :: (.int 1 0) :: (.int 0 0) :: (.int 0 0) :: (.int 3 0) :: (.ref 118) :: (.bool true) :: (.int 181 0) :: (.ref 119) :: .none :: (.ref 120) :: (.ref 121) :: (.ref 122) :: (.int 347 0) :: (.int 42 0) :: (.str (Str.ofString "/claim/cut.py") 348) :: []))), #[]⟩) ::
  (nat_lit 124, ⟨(.type "function"), none, (.func fd124), #[]⟩) ::
  (nat_lit 125, ⟨(.type "tuple"), none, (.seq #[(.int 0 350)] 0), #[]⟩) ::
  (nat_lit 126, ⟨(.type "tuple"), none, (.seq #[] 0), #[]⟩) ::
  (nat_lit 128, ⟨(.type "tuple"), none, (.seq #[(.str (Str.ofString "self") 354), (.str (Str.ofString "n") 355)] 0), #[]⟩) ::
  (nat_lit 129, ⟨(.type "tuple"), none, (.seq #[] 0), #[]⟩) ::
  (nat_lit 131, ⟨(.type "code"), none, (.fields (List.toArray ((.str (Str.ofString "peek") 351) :: (.str (Str.ofString "Cursor.peek") 352) :: (.str (Str.ofString "/claim/cut.py") 353) :: (.int 48 0) :: (.int 2 0) :: (.int 0 0) :: (.int 0 0) :: (.int 3 0) :: (.ref 126) :: (.bool true) :: (.int 181 0) :: (.ref 127) :: .none :: (.ref 128) :: (.ref 129) :: (.ref 130) :: (.int 356 0) :: (.int 48 0) :: (.str (Str.ofString "/claim/cut.py") 357) :: []))), #[]⟩) ::
  (nat_lit 132, ⟨(.type "function"), none, (.func fd132), #[]⟩) ::
  (nat_lit 133, ⟨(.type "tuple"), none, (.seq #[] 0), #[]⟩) ::
  (nat_lit 135, ⟨(.type "tuple"), none, (.seq #[(.str (Str.ofString "self") 362), (.str (Str.ofString "token") 363)] 0), #[]⟩) ::
  (nat_lit 136, ⟨(.type "tuple"), none, (.seq #[] 0), #[]⟩) ::
  (nat_lit 138, ⟨(.type "code"), none, (.fields (List.toArray ((.str (Str.ofString "take") 359) :: (.str (Str.ofString "Cursor.take") 360) :: (.str (Str.ofString "/claim/cut.py") 361) :: (.int 51 0) :: (.int 1 0) :: (.int 0 0) :: (.int 0 0) :: (.int 3 0) :: (.ref 133) :: (.bool true) :: (.int 181 0) :: (.ref 134) :: .none :: (.ref 135) :: (.ref 136) :: (.ref 137) :: (.int 364 0) :: (.int 51 0) :: (.str (Str.ofString "/claim/cut.py") 365) :: []))), #[]⟩) ::
  (nat_lit 139, ⟨(.type "function"), none, (.func fd139), #[]⟩) ::
  (nat_lit 140, ⟨(.type "tuple"), none, (.seq #[] 0), #[]⟩) ::
  (nat_lit 142, ⟨(.type "tuple"), none, (.seq #[(.str (Str.ofString "self") 370), (.str (Str.ofString "text") 371)] 0), #[]⟩) ::
  (nat_lit 143, ⟨(.type "tuple"), none, (.seq #[] 0), #[]⟩) ::
  (nat_lit 145, ⟨(.type "code"), none, (.fields (List.toArray ((.str (Str.ofString "is_op") 367) :: (.str (Str.ofString "Cursor.is_op") 368) :: (.str (Str.ofString "/claim/cut.py") 369) :: (.int 60 0) :: (.int 2 0) :: (.int 0 0) :: (.int 0 0) :: (.int 3 0) :: (.ref 140) :: (.bool true) :: (.int 181 0) :: (.ref 141) :: .none :: (.ref 142) :: (.ref 143) :: (.ref 144) :: (.int 372 0) :: (.int 60 0) :: (.str (Str.ofString "/claim/cut.py") 373) :: []))), #[]⟩) ::
  (nat_lit 146, ⟨(.type "function"), none, (.func fd146), #[]⟩) ::
  (nat_lit 147, ⟨(.type "tuple"), none, (.seq #[] 0), #[]⟩) ::
  (nat_lit 149, ⟨(.type "tuple"), none, (.seq #[(.str (Str.ofString "self") 378), (.str (Str.ofString "text") 379)] 0), #[]⟩) ::
  (nat_lit 150, ⟨(.type "tuple"), none, (.seq #[] 0), #[]⟩) ::
  (nat_lit 152, ⟨(.type "code"), none, (.fields (List.toArray ((.str (Str.ofString "is_key") 375) :: (.str (Str.ofString "Cursor.is_key") 376) :: (.str (Str.ofString "/claim/cut.py") 377) :: (.int 63 0) :: (.int 2 0) :: (.int 0 0) :: (.int 0 0) :: (.int 3 0) :: (.ref 147) :: (.bool true) :: (.int 181 0) :: (.ref 148) :: .none :: (.ref 149) :: (.ref 150) :: (.ref 151) :: (.int 380 0) :: (.int 63 0) :: (.str (Str.ofString "/claim/cut.py") 381) :: []))), #[]⟩) ::
  (nat_lit 153, ⟨(.type "function"), none, (.func fd153), #[]⟩) ::
  (nat_lit 154, ⟨(.type "tuple"), none, (.seq #[] 0), #[]⟩) ::
  (nat_lit 156, ⟨(.type "tuple"), none, (.seq #[(.str (Str.ofString "self") 386), (.str (Str.ofString "text") 387)] 0), #[]⟩) ::
  (nat_lit 157, ⟨(.type "tuple"), none, (.seq #[] 0), #[]⟩) ::
  (nat_lit 159, ⟨(.type "code"), none, (.fields (List.toArray ((.str (Str.ofString "accept_op") 383) :: (.str (Str.ofString "Cursor.accept_op") 384) :: (.str (Str.ofString "/claim/cut.py") 385) :: (.int 66 0) :: (.int 2 0) :: (.int 0 0) :: (.int 0 0) :: (.int 3 0) :: (.ref 154) :: (.bool true) :: (.int 181 0) :: (.ref 155) :: .none :: (.ref 156) :: (.ref 157) :: (.ref 158) :: (.int 388 0) :: (.int 66 0) :: (.str (Str.ofString "/claim/cut.py") 389) :: []))), #[]⟩) ::
  (nat_lit 160, ⟨(.type "function"), none, (.func fd160), #[]⟩) ::
  (nat_lit 161, ⟨(.type "tuple"), none, (.seq #[] 0), #[]⟩) ::
  (nat_lit 163, ⟨(.type "tuple"), none, (.seq #[(.str (Str.ofString "self") 394), (.str (Str.ofString "text") 395)] 0), #[]⟩) ::
  (nat_lit 164, ⟨(.type "tuple"), none, (.seq #[] 0), #[]⟩) ::
  (nat_lit 166, ⟨(.type "code"), none, (.fields (List.toArray ((.str (Str.ofString "accept_key") 391) :: (.str (Str.ofString "Cursor.accept_key") 392) :: (.str (Str.ofString "/claim/cut.py") 393) :: (.int 72 0) :: (.int 2 0) :: (.int 0 0) :: (.int 0 0) :: (.int 3 0) :: (.ref 161) :: (.bool true) :: (.int 181 0) :: (.ref 162) :: .none :: (.ref 163) :: (.ref 164) :: (.ref 165) :: (.int 396 0) :: (.int 72 0) :: (.str (Str.ofString "/claim/cut.py") 397) :: []))), #[]⟩) ::
  (nat_lit 167, ⟨(.type "function"), none, (.func fd167), #[]⟩) ::
  (nat_lit 168, ⟨(.type "tuple"), none, (.seq #[] 0), #[]⟩) ::
  (nat_lit 170, ⟨(.type "tuple"), none, (.seq #[(.str (Str.ofString "self") 402), (.str (Str.ofString "text") 403)] 0), #[]⟩) ::
  (nat_lit 171, ⟨(.type "tuple"), none, (.seq #[] 0), #[]⟩) ::
  (nat_lit 173, ⟨(.type "code"), none, (.fields (List.toArray ((.str (Str.ofString "expect_op") 399) :: (.str (Str.ofString "Cursor.expect_op") 400) :: (.str (Str.ofString "/claim/cut.py") 401) :: (.int 75 0) :: (.int 2 0) :: (.int 0 0) :: (.int 0 0) :: (.int 3 0) :: (.ref 168) :: (.bool true) :: (.int 181 0) :: (.ref 169) :: .none :: (.ref 170) :: (.ref 171) :: (.ref 172) :: (.int 404 0) :: (.int 75 0) :: (.str (Str.ofString "/claim/cut.py") 405) :: []))), #[]⟩) ::
  (nat_lit 174, ⟨(.type "function"), none, (.func fd174), #[]⟩) ::
  (nat_lit 175, ⟨(.type "tuple"), none, (.seq #[] 0), #[]⟩) ::
  (nat_lit 177, ⟨(.type "tuple"), none, (.seq #[(.str (Str.ofString "self") 410), (.str (Str.ofString "text") 411)] 0), #[]⟩) ::
  (nat_lit 178, ⟨(.type "tuple"), none, (.seq #[] 0), #[]⟩) ::
  (nat_lit 180, ⟨(.type "code"), none, (.fields (List.toArray ((.str (Str.ofString "expect_key") 407) :: (.str (Str.ofString "Cursor.expect_key") 408) :: (.str (Str.ofString "/claim/cut.py") 409) :: (.int 79 0) :: (.int 2 0) :: (.int 0 0) :: (.int 0 0) :: (.int 3 0) :: (.ref 175) :: (.bool true) :: (.int 181 0) :: (.ref 176) :: .none :: (.ref 177) :: (.ref 178) :: (.ref 179) :: (.int 412 0) :: (.int 79 0) :: (.str (Str.ofString "/claim/cut.py") 413) :: []))), #[]⟩) ::
  (nat_lit 181, ⟨(.type "function"), none, (.func fd181), #[]⟩) ::
  (nat_lit 182, ⟨(.type "tuple"), none, (.seq #[] 0), #[]⟩) ::
  (nat_lit 184, ⟨(.type "tuple"), none, (.seq #[(.str (Str.ofString "self") 418)] 0), #[]⟩) ::
  (nat_lit 185, ⟨(.type "tuple"), none, (.seq #[] 0), #[]⟩) ::
  (nat_lit 187, ⟨(.type "code"), none, (.fields (List.toArray ((.str (Str.ofString "expect_id") 415) :: (.str (Str.ofString "Cursor.expect_id") 416) :: (.str (Str.ofString "/claim/cut.py") 417) :: (.int 82 0) :: (.int 1 0) :: (.int 0 0) :: (.int 0 0) :: (.int 3 0) :: (.ref 182) :: (.bool true) :: (.int 181 0) :: (.ref 183) :: .none :: (.ref 184) :: (.ref 185) :: (.ref 186) :: (.int 419 0) :: (.int 82 0) :: (.str (Str.ofString "/claim/cut.py") 420) :: []))), #[]⟩) ::
  (nat_lit 188, ⟨(.type "function"), none, (.func fd188), #[]⟩) ::
  (nat_lit 189, ⟨(.type "tuple"), none, (.seq #[(.str (Str.ofString "") 422)] 0), #[]⟩) ::
  (nat_lit 190, ⟨(.type "tuple"), none, (.seq #[] 0), #[]⟩) ::
  (nat_lit 192, ⟨(.type "tuple"), none, (.seq #[(.str (Str.ofString "self") 426), (.str (Str.ofString "kind") 427), (.str (Str.ofString "detail") 428)] 0), #[]⟩) ::
  (nat_lit 193, ⟨(.type "tuple"), none, (.seq #[] 0), #[]⟩) ::
  (nat_lit 195, ⟨(.type "code"), none, (.fields (List.toArray ((.str (Str.ofString "fail") 423) :: (.str (Str.ofString "Cursor.fail") 424) :: (.str (Str.ofString "/claim/cut.py") 425) :: (.int 87 0) :: (.int 3 0) :: (.int 0 0) :: (.int 0 0) :: (.int 3 0) :: (.ref 190) :: (.bool true) :: (.int 181 0) :: (.ref 191) :: .none :: (.ref 192) :: (.ref 193) :: (.ref 194) :: (.int 429 0) :: (.int 87 0) :: (.str (Str.ofString "/claim/cut.py") 430) :: []))), #[]⟩) ::
  (nat_lit 196, ⟨(.type "function"), none, (.func fd196), #[]⟩) ::
  (nat_lit 197, ⟨(.type "tuple"), none, (.seq #[(.str (Str.ofString "ahead") 432), (.str (Str.ofString "at") 433), (.str (Str.ofString "hashed") 434), (.str (Str.ofString "source") 435), (.str (Str.ofString "token") 436)] 0), #[]⟩) ::
  (nat_lit 198, ⟨(.type "dict"), none, (.dict (List.toArray (⟨PyData.keyHash P (Str.ofString "__module__"), .str (Str.ofString "__module__") 329, (.str (Str.ofString "gateloom.tokens") 248)⟩ :: ⟨PyData.keyHash P (Str.ofString "__firstlineno__"), .str (Str.ofString "__firstlineno__") 333, (.int 33 332)⟩ :: ⟨PyData.keyHash P (Str.ofString "__init__"), .str (Str.ofString "__init__") 341, (.ref 117)⟩ :: ⟨PyData.keyHash P (Str.ofString "fetch"), .str (Str.ofString "fetch") 349, (.ref 124)⟩ :: ⟨PyData.keyHash P (Str.ofString "peek"), .str (Str.ofString "peek") 358, (.ref 132)⟩ :: ⟨PyData.keyHash P (Str.ofString "take"), .str (Str.ofString "take") 366, (.ref 139)⟩ :: ⟨PyData.keyHash P (Str.ofString "is_op"), .str (Str.ofString "is_op") 374, (.ref 146)⟩ :: ⟨PyData.keyHash P (Str.ofString "is_key"), .str (Str.ofString "is_key") 382, (.ref 153)⟩ :: ⟨PyData.keyHash P (Str.ofString "accept_op"), .str (Str.ofString "accept_op") 390, (.ref 160)⟩ :: ⟨PyData.keyHash P (Str.ofString "accept_key"), .str (Str.ofString "accept_key") 398, (.ref 167)⟩ :: ⟨PyData.keyHash P (Str.ofString "expect_op"), .str (Str.ofString "expect_op") 406, (.ref 174)⟩ :: ⟨PyData.keyHash P (Str.ofString "expect_key"), .str (Str.ofString "expect_key") 414, (.ref 181)⟩ :: ⟨PyData.keyHash P (Str.ofString "expect_id"), .str (Str.ofString "expect_id") 421, (.ref 188)⟩ :: ⟨PyData.keyHash P (Str.ofString "fail"), .str (Str.ofString "fail") 431, (.ref 196)⟩ :: ⟨PyData.keyHash P (Str.ofString "__static_attributes__"), .str (Str.ofString "__static_attributes__") 437, (.ref 197)⟩ :: ⟨PyData.keyHash P (Str.ofString "__dict__"), .str (Str.ofString "__dict__") 439, (.ref 200)⟩ :: ⟨PyData.keyHash P (Str.ofString "__weakref__"), .str (Str.ofString "__weakref__") 441, (.ref 201)⟩ :: ⟨PyData.keyHash P (Str.ofString "__doc__"), .str (Str.ofString "__doc__") 442, .none⟩ :: [])) 4), #[]⟩) ::
  (nat_lit 199, ⟨(.type "type"), none, (.cls ⟨Str.ofString "Cursor", [(.type "object")], [(.ref 199), (.type "object")], 198, Str.ofString "Cursor", true, [], [(.ref 471)], false, none, false⟩), #[none, none, (some (.str (Str.ofString "Cursor") 322)), (some (.str (Str.ofString "Cursor") 330)), (some (.builtin "object.__new__")), (some (.bool true))]⟩) ::
  (nat_lit 200, ⟨(.type "getset_descriptor"), none, (.fields #[(.str (Str.ofString "__dict__") 438), (.ref 199), (.builtin "function.__dict__"), (.builtin "function.__dict__#set")]), #[]⟩) ::
  (nat_lit 201, ⟨(.type "getset_descriptor"), none, (.fields #[(.str (Str.ofString "__weakref__") 440), (.ref 199), (.builtin "ExceptionGroup.__weakref__"), .none]), #[]⟩) ::
  (nat_lit 204, ⟨(.type "tuple"), none, (.seq #[] 0), #[]⟩) ::
  (nat_lit 206, ⟨(.type "tuple"), none, (.seq #[(.str (Str.ofString "w") 450)] 0), #[]⟩) ::
  (nat_lit 207, ⟨(.type "tuple"), none, (.seq #[] 0), #[]⟩) ::
  (nat_lit 209, ⟨(.type "code"), none, (.fields (List.toArray ((.str (Str.ofString "mask") 447) :: (.str (Str.ofString "mask") 448) :: (.str (Str.ofString "/claim/cut.py") 449) :: (.int 90 0) :: (.int 1 0) :: (.int 0 0) :: (.int 0 0) :: (.int 3 0) :: (.ref 204) :: (.bool true) :: (.int 181 0) :: (.ref 205) :: .none :: (.ref 206) :: (.ref 207) :: (.ref 208) :: (.int 451 0) :: (.int 90 0) :: (.str (Str.ofString "/claim/cut.py") 452) :: []))), #[]⟩) ::
  (nat_lit 210, ⟨(.type "function"), none, (.func fd210), #[]⟩) ::
  (nat_lit 211, ⟨(.type "tuple"), none, (.seq #[(.int 0 454)] 0), #[]⟩) ::
  (nat_lit 212, ⟨(.type "tuple"), none, (.seq #[] 0), #[]⟩) ::
  (nat_lit 214, ⟨(.type "tuple"), none, (.seq #[(.str (Str.ofString "w") 458), (.str (Str.ofString "a") 459), (.str (Str.ofString "b") 460), (.str (Str.ofString "full") 461)] 0), #[]⟩) ::
  (nat_lit 215, ⟨(.type "tuple"), none, (.seq #[] 0), #[]⟩) ::
  (nat_lit 217, ⟨(.type "code"), none, (.fields (List.toArray ((.str (Str.ofString "vec") 455) :: (.str (Str.ofString "vec") 456) :: (.str (Str.ofString "/claim/cut.py") 457) :: (.int 92 0) :: (.int 3 0) :: (.int 0 0) :: (.int 0 0) :: (.int 3 0) :: (.ref 212) :: (.bool true) :: (.int 181 0) :: (.ref 213) :: .none :: (.ref 214) :: (.ref 215) :: (.ref 216) :: (.int 462 0) :: (.int 92 0) :: (.str (Str.ofString "/claim/cut.py") 463) :: []))), #[]⟩) ::
  (nat_lit 218, ⟨(.type "function"), none, (.func fd218), #[]⟩) ::
  (nat_lit 219, ⟨(.type "tuple"), none, (.seq #[] 0), #[]⟩) ::
  (nat_lit 221, ⟨(.type "tuple"), none, (.seq #[(.str (Str.ofString "base") 474)] 0), #[]⟩) ::
  (nat_lit 222, ⟨(.type "tuple"), none, (.seq #[] 0), #[]⟩) ::
  (nat_lit 224, ⟨(.type "code"), none, (.fields (List.toArray ((.str (Str.ofString "digit_bits") 471) :: (.str (Str.ofString "digit_bits") 472) :: (.str (Str.ofString "/claim/cut.py") 473) :: (.int 98 0) :: (.int 1 0) :: (.int 0 0) :: (.int 0 0) :: (.int 3 0) :: (.ref 219) :: (.bool true) :: (.int 181 0) :: (.ref 220) :: .none :: (.ref 221) :: (.ref 222) :: (.ref 223) :: (.int 475 0) :: (.int 98 0) :: (.str (Str.ofString "/claim/cut.py") 476) :: []))), #[]⟩) ::
  (nat_lit 225, ⟨(.type "function"), none, (.func fd225), #[]⟩) ::
  (nat_lit 226, ⟨(.type "tuple"), none, (.seq #[] 0), #[]⟩) ::
  (nat_lit 228, ⟨(.type "tuple"), none, (.seq #[(.str (Str.ofString "digits") 481), (.str (Str.ofString "value") 482), (.str (Str.ofString "digit") 483)] 0), #[]⟩) ::
  (nat_lit 229, ⟨(.type "tuple"), none, (.seq #[] 0), #[]⟩) ::
  (nat_lit 231, ⟨(.type "code"), none, (.fields (List.toArray ((.str (Str.ofString "decimal_value") 478) :: (.str (Str.ofString "decimal_value") 479) :: (.str (Str.ofString "/claim/cut.py") 480) :: (.int 104 0) :: (.int 1 0) :: (.int 0 0) :: (.int 0 0) :: (.int 3 0) :: (.ref 226) :: (.bool true) :: (.int 181 0) :: (.ref 227) :: .none :: (.ref 228) :: (.ref 229) :: (.ref 230) :: (.int 484 0) :: (.int 104 0) :: (.str (Str.ofString "/claim/cut.py") 485) :: []))), #[]⟩) ::
  (nat_lit 232, ⟨(.type "function"), none, (.func fd232), #[]⟩) ::
  (nat_lit 233, ⟨(.type "tuple"), none, (.seq #[] 0), #[]⟩) ::
  (nat_lit 235, ⟨(.type "tuple"), none, (.seq #[(.str (Str.ofString "size") 490), (.str (Str.ofString "at") 491), (.str (Str.ofString "digits") 492)] 0), #[]⟩) ::
  (nat_lit 236, ⟨(.type "tuple"), none, (.seq #[] 0), #[]⟩) ::
  (nat_lit 238, ⟨(.type "code"), none, (.fields (List.toArray ((.str (Str.ofString "size_value") 487) :: (.str (Str.ofString "size_value") 488) :: (.str (Str.ofString "/claim/cut.py") 489) :: (.int 109 0) :: (.int 2 0) :: (.int 0 0) :: (.int 0 0) :: (.int 3 0) :: (.ref 233) :: (.bool true) :: (.int 181 0) :: (.ref 234) :: .none :: (.ref 235) :: (.ref 236) :: (.ref 237) :: (.int 493 0) :: (.int 109 0) :: (.str (Str.ofString "/claim/cut.py") 494) :: []))), #[]⟩) ::
  (nat_lit 239, ⟨(.type "function"), none, (.func fd239), #[]⟩) ::
  (nat_lit 240, ⟨(.type "tuple"), none, (.seq #[] 0), #[]⟩) ::
  (nat_lit 242, ⟨(.type "tuple"), none, (.seq #[(.str (Str.ofString "digit") 499), (.str (Str.ofString "full") 500)] 0), #[]⟩) ::
  (nat_lit 243, ⟨(.type "tuple"), none, (.seq #[] 0), #[]⟩) ::
  (nat_lit 245, ⟨(.type "code"), none, (.fields (List.toArray ((.str (Str.ofString "digit_pair") 496) :: (.str (Str.ofString "digit_pair") 497) :: (.str (Str.ofString "/claim/cut.py") 498) :: (.int 114 0) :: (.int 2 0) :: (.int 0 0) :: (.int 0 0) :: (.int 3 0) :: (.ref 240) :: (.bool true) :: (.int 181 0) :: (.ref 241) :: .none :: (.ref 242) :: (.ref 243) :: (.ref 244) :: (.int 501 0) :: (.int 114 0) :: (.str (Str.ofString "/claim/cut.py") 502) :: []))), #[]⟩) ::
  (nat_lit 246, ⟨(.type "function"), none, (.func fd246), #[]⟩) ::
  (nat_lit 247, ⟨(.type "tuple"), none, (.seq #[] 0), #[]⟩) ::
  (nat_lit 249, ⟨(.type "tuple"), none, (.seq #[(.str (Str.ofString "base") 507), (.str (Str.ofString "digits") 508), (.str (Str.ofString "count") 509), (.str (Str.ofString "full") 510), (.str (Str.ofString "a") 511), (.str (Str.ofString "b") 512), (.str (Str.ofString "digit") 513), (.str (Str.ofString "low") 514), (.str (Str.ofString "high") 515)] 0), #[]⟩) ::
  (nat_lit 250, ⟨(.type "tuple"), none, (.seq #[] 0), #[]⟩) ::
  (nat_lit 252, ⟨(.type "code"), none, (.fields (List.toArray ((.str (Str.ofString "grouped") 504) :: (.str (Str.ofString "grouped") 505) :: (.str (Str.ofString "/claim/cut.py") 506) :: (.int 120 0) :: (.int 2 0) :: (.int 0 0) :: (.int 0 0) :: (.int 3 0) :: (.ref 247) :: (.bool true) :: (.int 181 0) :: (.ref 248) :: .none :: (.ref 249) :: (.ref 250) :: (.ref 251) :: (.int 516 0) :: (.int 120 0) :: (.str (Str.ofString "/claim/cut.py") 517) :: []))), #[]⟩) ::
  (nat_lit 253, ⟨(.type "function"), none, (.func fd253), #[]⟩) ::
  (nat_lit 254, ⟨(.type "tuple"), none, (.seq #[] 0), #[]⟩) ::
  (nat_lit 256, ⟨(.type "tuple"), none, (.seq #[(.str (Str.ofString "w") 522), (.str (Str.ofString "width") 523), (.str (Str.ofString "a") 524), (.str (Str.ofString "b") 525), (.str (Str.ofString "first") 526), (.str (Str.ofString "fill") 527)] 0), #[]⟩) ::
  (nat_lit 257, ⟨(.type "tuple"), none, (.seq #[] 0), #[]⟩) ::
  (nat_lit 259, ⟨(.type "code"), none, (.fields (List.toArray ((.str (Str.ofString "padded_vec") 519) :: (.str (Str.ofString "padded_vec") 520) :: (.str (Str.ofString "/claim/cut.py") 521) :: (.int 130 0) :: (.int 5 0) :: (.int 0 0) :: (.int 0 0) :: (.int 3 0) :: (.ref 254) :: (.bool true) :: (.int 181 0) :: (.ref 255) :: .none :: (.ref 256) :: (.ref 257) :: (.ref 258) :: (.int 528 0) :: (.int 130 0) :: (.str (Str.ofString "/claim/cut.py") 529) :: []))), #[]⟩) ::
  (nat_lit 260, ⟨(.type "function"), none, (.func fd260), #[]⟩) ::
  (nat_lit 261, ⟨(.type "tuple"), none, (.seq #[] 0), #[]⟩) ::
  (nat_lit 263, ⟨(.type "tuple"), none, (.seq #[(.str (Str.ofString "value") 534), (.str (Str.ofString "at") 535), (.str (Str.ofString "size") 536), (.str (Str.ofString "base") 537), (.str (Str.ofString "signed") 538), (.str (Str.ofString "digits") 539), (.str (Str.ofString "first") 540), (.str (Str.ofString "plain") 541), (.str (Str.ofString "width") 542), (.str (Str.ofString "a") 543), (.str (Str.ofString "b") 544), (.str (Str.ofString "w") 545)] 0), #[]⟩) ::
  (nat_lit 264, ⟨(.type "tuple"), none, (.seq #[] 0), #[]⟩) ::
  (nat_lit 266, ⟨(.type "code"), none, (.fields (List.toArray ((.str (Str.ofString "numeral") 531) :: (.str (Str.ofString "numeral") 532) :: (.str (Str.ofString "/claim/cut.py") 533) :: (.int 138 0) :: (.int 2 0) :: (.int 0 0) :: (.int 0 0) :: (.int 3 0) :: (.ref 261) :: (.bool true) :: (.int 181 0) :: (.ref 262) :: .none :: (.ref 263) :: (.ref 264) :: (.ref 265) :: (.int 546 0) :: (.int 138 0) :: (.str (Str.ofString "/claim/cut.py") 547) :: []))), #[]⟩) ::
  (nat_lit 267, ⟨(.type "function"), none, (.func fd267), #[]⟩) ::
  (nat_lit 268, ⟨(.type "tuple"), none, (.seq #[] 0), #[]⟩) ::
  (nat_lit 270, ⟨(.type "tuple"), none, (.seq #[(.str (Str.ofString "op") 558)] 0), #[]⟩) ::
  (nat_lit 271, ⟨(.type "tuple"), none, (.seq #[] 0), #[]⟩) ::
  (nat_lit 273, ⟨(.type "code"), none, (.fields (List.toArray ((.str (Str.ofString "precedence") 555) :: (.str (Str.ofString "precedence") 556) :: (.str (Str.ofString "/claim/cut.py") 557) :: (.int 164 0) :: (.int 1 0) :: (.int 0 0) :: (.int 0 0) :: (.int 3 0) :: (.ref 268) :: (.bool true) :: (.int 181 0) :: (.ref 269) :: .none :: (.ref 270) :: (.ref 271) :: (.ref 272) :: (.int 559 0) :: (.int 164 0) :: (.str (Str.ofString "/claim/cut.py") 560) :: []))), #[]⟩) ::
  (nat_lit 274, ⟨(.type "function"), none, (.func fd274), #[]⟩) ::
  (nat_lit 275, ⟨(.type "tuple"), none, (.seq #[] 0), #[]⟩) ::
  (nat_lit 277, ⟨(.type "tuple"), none, (.seq #[(.str (Str.ofString "op") 565)] 0), #[]⟩) ::
  (nat_lit 278, ⟨(.type "tuple"), none, (.seq #[] 0), #[]⟩) ::
  (nat_lit 280, ⟨(.type "code"), none, (.fields (List.toArray ((.str (Str.ofString "is_unary") 562) :: (.str (Str.ofString "is_unary") 563) :: (.str (Str.ofString "/claim/cut.py") 564) :: (.int 188 0) :: (.int 1 0) :: (.int 0 0) :: (.int 0 0) :: (.int 3 0) :: (.ref 275) :: (.bool true) :: (.int 181 0) :: (.ref 276) :: .none :: (.ref 277) :: (.ref 278) :: (.ref 279) :: (.int 566 0) :: (.int 188 0) :: (.str (Str.ofString "/claim/cut.py") 567) :: []))), #[]⟩) ::
  (nat_lit 281, ⟨(.type "function"), none, (.func fd281), #[]⟩) ::
  (nat_lit 282, ⟨(.type "tuple"), none, (.seq #[] 0), #[]⟩) ::
  (nat_lit 284, ⟨(.type "tuple"), none, (.seq #[(.str (Str.ofString "op") 572)] 0), #[]⟩) ::
  (nat_lit 285, ⟨(.type "tuple"), none, (.seq #[] 0), #[]⟩) ::
  (nat_lit 287, ⟨(.type "code"), none, (.fields (List.toArray ((.str (Str.ofString "plain_operator") 569) :: (.str (Str.ofString "plain_operator") 570) :: (.str (Str.ofString "/claim/cut.py") 571) :: (.int 190 0) :: (.int 1 0) :: (.int 0 0) :: (.int 0 0) :: (.int 3 0) :: (.ref 282) :: (.bool true) :: (.int 181 0) :: (.ref 283) :: .none :: (.ref 284) :: (.ref 285) :: (.ref 286) :: (.int 573 0) :: (.int 190 0) :: (.str (Str.ofString "/claim/cut.py") 574) :: []))), #[]⟩) ::
  (nat_lit 288, ⟨(.type "function"), none, (.func fd288), #[]⟩) ::
  (nat_lit 289, ⟨(.type "tuple"), none, (.seq #[] 0), #[]⟩) ::
  (nat_lit 292, ⟨(.type "code"), none, (.fields (List.toArray ((.str (Str.ofString "is_high") 576) :: (.str (Str.ofString "is_high") 577) :: (.str (Str.ofString "/claim/cut.py") 578) :: (.int 194 0) :: (.int 1 0) :: (.int 0 0) :: (.int 0 0) :: (.int 3 0) :: (.ref 289) :: (.bool true) :: (.int 181 0) :: (.ref 290) :: .none :: .none :: .none :: (.ref 291) :: (.int 579 0) :: (.int 194 0) :: (.str (Str.ofString "/claim/cut.py") 580) :: []))), #[]⟩) ::
  (nat_lit 293, ⟨(.type "function"), none, (.func fd293), #[]⟩) ::
  (nat_lit 294, ⟨(.type "tuple"), none, (.seq #[(.ref 199)] 0), #[]⟩) ::
  (nat_lit 301, ⟨(.type "tuple"), none, (.seq #[] 0), #[]⟩) ::
  (nat_lit 303, ⟨(.type "tuple"), none, (.seq #[(.str (Str.ofString "self") 597), (.str (Str.ofString "source") 598)] 0), #[]⟩) ::
  (nat_lit 304, ⟨(.type "tuple"), none, (.seq #[] 0), #[]⟩) ::
  (nat_lit 306, ⟨(.type "code"), none, (.fields (List.toArray ((.str (Str.ofString "__init__") 594) :: (.str (Str.ofString "ExprParser.__init__") 595) :: (.str (Str.ofString "/claim/cut.py") 596) :: (.int 203 0) :: (.int 2 0) :: (.int 0 0) :: (.int 0 0) :: (.int 3 0) :: (.ref 301) :: (.bool true) :: (.int 181 0) :: (.ref 302) :: .none :: (.ref 303) :: (.ref 304) :: (.ref 305) :: (.int 599 0) :: (.int 203 0) :: (.str (Str.ofString "/claim/cut.py") 600) :: []))), #[]⟩) ::
  (nat_lit 307, ⟨(.type "function"), none, (.func fd307), #[]⟩) ::
  (nat_lit 308, ⟨(.type "tuple"), none, (.seq #[] 0), #[]⟩) ::
  (nat_lit 310, ⟨(.type "tuple"), none, (.seq #[(.str (Str.ofString "self") 605)] 0), #[]⟩) ::
  (nat_lit 311, ⟨(.type "tuple"), none, (.seq #[] 0), #[]⟩) ::
  (nat_lit 313, ⟨(.type "code"), none, (.fields (List.toArray ((.str (Str.ofString "enter") 602) :: (.str (Str.ofString "ExprParser.enter") 603) :: (.str (Str.ofString "/claim/cut.py") 604) :: (.int 209 0) :: (.int 1 0) :: (.int 0 0) :: (.int 0 0) :: (.int 3 0) :: (.ref 308) :: (.bool true) :: (.int 181 0) :: (.ref 309) :: .none :: (.ref 310) :: (.ref 311) :: (.ref 312) :: (.int 606 0) :: (.int 209 0) :: (.str (Str.ofString "/claim/cut.py") 607) :: []))), #[]⟩) ::
  (nat_lit 314, ⟨(.type "function"), none, (.func fd314), #[]⟩) ::
  (nat_lit 315, ⟨(.type "tuple"), none, (.seq #[] 0), #[]⟩) ::
  (nat_lit 317, ⟨(.type "tuple"), none, (.seq #[(.str (Str.ofString "self") 612)] 0), #[]⟩) ::
  (nat_lit 318, ⟨(.type "tuple"), none, (.seq #[] 0), #[]⟩) ::
  (nat_lit 320, ⟨(.type "code"), none, (.fields (List.toArray ((.str (Str.ofString "leave") 609) :: (.str (Str.ofString "ExprParser.leave") 610) :: (.str (Str.ofString "/claim/cut.py") 611) :: (.int 214 0) :: (.int 1 0) :: (.int 0 0) :: (.int 0 0) :: (.int 3 0) :: (.ref 315) :: (.bool true) :: (.int 181 0) :: (.ref 316) :: .none :: (.ref 317) :: (.ref 318) :: (.ref 319) :: (.int 613 0) :: (.int 214 0) :: (.str (Str.ofString "/claim/cut.py") 614) :: []))), #[]⟩) ::
  (nat_lit 321, ⟨(.type "function"), none, (.func fd321), #[]⟩) ::
  (nat_lit 322, ⟨(.type "tuple"), none, (.seq #[] 0), #[]⟩) ::
  (nat_lit 324, ⟨(.type "tuple"), none, (.seq #[(.str (Str.ofString "self") 619), (.str (Str.ofString "at") 620), (.str (Str.ofString "found") 621)] 0), #[]⟩) ::
  (nat_lit 325, ⟨(.type "tuple"), none, (.seq #[] 0), #[]⟩) ::
  (nat_lit 327, ⟨(.type "code"), none, (.fields (List.toArray ((.str (Str.ofString "expression") 616) :: (.str (Str.ofString "ExprParser.expression") 617) :: (.str (Str.ofString "/claim/cut.py") 618) :: (.int 217 0) :: (.int 1 0) :: (.int 0 0) :: (.int 0 0) :: (.int 3 0) :: (.ref 322) :: (.bool true) :: (.int 181 0) :: (.ref 323) :: .none :: (.ref 324) :: (.ref 325) :: (.ref 326) :: (.int 622 0) :: (.int 217 0) :: (.str (Str.ofString "/claim/cut.py") 623) :: []))), #[]⟩) ::
  (nat_lit 328, ⟨(.type "function"), none, (.func fd328), #[]⟩) ::
  (nat_lit 329, ⟨(.type "tuple"), none, (.seq #[] 0), #[]⟩) ::
  (nat_lit 331, ⟨(.type "tuple"), none, (.seq #[(.str (Str.ofString "self") 628), (.str (Str.ofString "tests") 629), (.str (Str.ofString "last") 630), (.str (Str.ofString "at") 631), (.str (Str.ofString "chosen") 632), (.str (Str.ofString "test") 633)] 0), #[]⟩) ::
  (nat_lit 332, ⟨(.type "tuple"), none, (.seq #[] 0), #[]⟩) ::
  (nat_lit 334, ⟨(.type "code"), none, (.fields (List.toArray ((.str (Str.ofString "inner_expression") 625) :: (.str (Str.ofString "ExprParser.inner_expression") 626) :: (.str (Str.ofString "/claim/cut.py") 627) :: (.int 228 0) :: (.int 1 0) :: (.int 0 0) :: (.int 0 0) :: (.int 3 0) :: (.ref 329) :: (.bool true) :: (.int 181 0) :: (.ref 330) :: .none :: (.ref 331) :: (.ref 332) :: (.ref 333) :: (.int 634 0) :: (.int 228 0) :: (.str (Str.ofString "/claim/cut.py") 635) :: []))), #[]⟩) ::
  (nat_lit 335, ⟨(.type "function"), none, (.func fd335), #[]⟩) ::
  (nat_lit 336, ⟨(.type "tuple"), none, (.seq #[] 0), #[]⟩) ::
  (nat_lit 338, ⟨(.type "tuple"), none, (.seq #[(.str (Str.ofString "self") 640), (.str (Str.ofString "least") 641), (.str (Str.ofString "left") 642), (.str (Str.ofString "at") 643), (.str (Str.ofString "op") 644), (.str (Str.ofString "right") 645)] 0), #[]⟩) ::
  (nat_lit 339, ⟨(.type "tuple"), none, (.seq #[] 0), #[]⟩) ::
  (nat_lit 341, ⟨(.type "code"), none, (.fields (List.toArray ((.str (Str.ofString "binary") 637) :: (.str (Str.ofString "ExprParser.binary") 638) :: (.str (Str.ofString "/claim/cut.py") 639) :: (.int 244 0) :: (.int 2 0) :: (.int 0 0) :: (.int 0 0) :: (.int 3 0) :: (.ref 336) :: (.bool true) :: (.int 181 0) :: (.ref 337) :: .none :: (.ref 338) :: (.ref 339) :: (.ref 340) :: (.int 646 0) :: (.int 244 0) :: (.str (Str.ofString "/claim/cut.py") 647) :: []))), #[]⟩) ::
  (nat_lit 342, ⟨(.type "function"), none, (.func fd342), #[]⟩) ::
  (nat_lit 343, ⟨(.type "tuple"), none, (.seq #[] 0), #[]⟩) ::
  (nat_lit 345, ⟨(.type "tuple"), none, (.seq #[(.str (Str.ofString "self") 652), (.str (Str.ofString "signs") 653), (.str (Str.ofString "operand") 654), (.str (Str.ofString "at") 655), (.str (Str.ofString "op") 656)] 0), #[]⟩) ::
  (nat_lit 346, ⟨(.type "tuple"), none, (.seq #[] 0), #[]⟩) ::
  (nat_lit 348, ⟨(.type "code"), none, (.fields (List.toArray ((.str (Str.ofString "unary") 649) :: (.str (Str.ofString "ExprParser.unary") 650) :: (.str (Str.ofString "/claim/cut.py") 651) :: (.int 255 0) :: (.int 1 0) :: (.int 0 0) :: (.int 0 0) :: (.int 3 0) :: (.ref 343) :: (.bool true) :: (.int 181 0) :: (.ref 344) :: .none :: (.ref 345) :: (.ref 346) :: (.ref 347) :: (.int 657 0) :: (.int 255 0) :: (.str (Str.ofString "/claim/cut.py") 658) :: []))), #[]⟩) ::
  (nat_lit 349, ⟨(.type "function"), none, (.func fd349), #[]⟩) ::
  (nat_lit 350, ⟨(.type "tuple"), none, (.seq #[] 0), #[]⟩) ::
  (nat_lit 352, ⟨(.type "tuple"), none, (.seq #[(.str (Str.ofString "self") 663), (.str (Str.ofString "kind") 664), (.str (Str.ofString "at") 665), (.str (Str.ofString "vec") 666), (.str (Str.ofString "signed") 667), (.str (Str.ofString "sized") 668), (.str (Str.ofString "text") 669), (.str (Str.ofString "name") 670), (.str (Str.ofString "inner") 671)] 0), #[]⟩) ::
  (nat_lit 353, ⟨(.type "tuple"), none, (.seq #[] 0), #[]⟩) ::
  (nat_lit 355, ⟨(.type "code"), none, (.fields (List.toArray ((.str (Str.ofString "primary") 660) :: (.str (Str.ofString "ExprParser.primary") 661) :: (.str (Str.ofString "/claim/cut.py") 662) :: (.int 265 0) :: (.int 1 0) :: (.int 0 0) :: (.int 0 0) :: (.int 3 0) :: (.ref 350) :: (.bool true) :: (.int 181 0) :: (.ref 351) :: .none :: (.ref 352) :: (.ref 353) :: (.ref 354) :: (.int 672 0) :: (.int 265 0) :: (.str (Str.ofString "/claim/cut.py") 673) :: []))), #[]⟩) ::
  (nat_lit 356, ⟨(.type "function"), none, (.func fd356), #[]⟩) ::
  (nat_lit 357, ⟨(.type "tuple"), none, (.seq #[] 0), #[]⟩) ::
  (nat_lit 359, ⟨(.type "tuple"), none, (.seq #[(.str (Str.ofString "self") 678), (.str (Str.ofString "base") 679)] 0), #[]⟩) ::
  (nat_lit 360, ⟨(.type "tuple"), none, (.seq #[] 0), #[]⟩) ::
  (nat_lit 362, ⟨(.type "code"), none, (.fields (List.toArray ((.str (Str.ofString "named_primary") 675) :: (.str (Str.ofString "ExprParser.named_primary") 676) :: (.str (Str.ofString "/claim/cut.py") 677) :: (.int 292 0) :: (.int 1 0) :: (.int 0 0) :: (.int 0 0) :: (.int 3 0) :: (.ref 357) :: (.bool true) :: (.int 181 0) :: (.ref 358) :: .none :: (.ref 359) :: (.ref 360) :: (.ref 361) :: (.int 680 0) :: (.int 292 0) :: (.str (Str.ofString "/claim/cut.py") 681) :: []))), #[]⟩) ::
  (nat_lit 363, ⟨(.type "function"), none, (.func fd363), #[]⟩) ::
  (nat_lit 364, ⟨(.type "tuple"), none, (.seq #[] 0), #[]⟩) ::
  (nat_lit 366, ⟨(.type "tuple"), none, (.seq #[(.str (Str.ofString "self") 686), (.str (Str.ofString "at") 687), (.str (Str.ofString "first") 688), (.str (Str.ofString "items") 689)] 0), #[]⟩) ::
  (nat_lit 367, ⟨(.type "tuple"), none, (.seq #[] 0), #[]⟩) ::
  (nat_lit 369, ⟨(.type "code"), none, (.fields (List.toArray ((.str (Str.ofString "braces") 683) :: (.str (Str.ofString "ExprParser.braces") 684) :: (.str (Str.ofString "/claim/cut.py") 685) :: (.int 298 0) :: (.int 1 0) :: (.int 0 0) :: (.int 0 0) :: (.int 3 0) :: (.ref 364) :: (.bool true) :: (.int 181 0) :: (.ref 365) :: .none :: (.ref 366) :: (.ref 367) :: (.ref 368) :: (.int 690 0) :: (.int 298 0) :: (.str (Str.ofString "/claim/cut.py") 691) :: []))), #[]⟩) ::
  (nat_lit 370, ⟨(.type "function"), none, (.func fd370), #[]⟩) ::
  (nat_lit 371, ⟨(.type "tuple"), none, (.seq #[] 0), #[]⟩) ::
  (nat_lit 373, ⟨(.type "tuple"), none, (.seq #[(.str (Str.ofString "self") 696), (.str (Str.ofString "items") 697)] 0), #[]⟩) ::
  (nat_lit 374, ⟨(.type "tuple"), none, (.seq #[] 0), #[]⟩) ::
  (nat_lit 376, ⟨(.type "code"), none, (.fields (List.toArray ((.str (Str.ofString "expression_list") 693) :: (.str (Str.ofString "ExprParser.expression_list") 694) :: (.str (Str.ofString "/claim/cut.py") 695) :: (.int 313 0) :: (.int 1 0) :: (.int 0 0) :: (.int 0 0) :: (.int 3 0) :: (.ref 371) :: (.bool true) :: (.int 181 0) :: (.ref 372) :: .none :: (.ref 373) :: (.ref 374) :: (.ref 375) :: (.int 698 0) :: (.int 313 0) :: (.str (Str.ofString "/claim/cut.py") 699) :: []))), #[]⟩) ::
  (nat_lit 377, ⟨(.type "function"), none, (.func fd377), #[]⟩) ::
  (nat_lit 378, ⟨(.type "tuple"), none, (.seq #[] 0), #[]⟩) ::
  (nat_lit 380, ⟨(.type "tuple"), none, (.seq #[(.str (Str.ofString "self") 704), (.str (Str.ofString "items") 705)] 0), #[]⟩) ::
  (nat_lit 381, ⟨(.type "tuple"), none, (.seq #[] 0), #[]⟩) ::
  (nat_lit 383, ⟨(.type "code"), none, (.fields (List.toArray ((.str (Str.ofString "arguments") 701) :: (.str (Str.ofString "ExprParser.arguments") 702) :: (.str (Str.ofString "/claim/cut.py") 703) :: (.int 319 0) :: (.int 1 0) :: (.int 0 0) :: (.int 0 0) :: (.int 3 0) :: (.ref 378) :: (.bool true) :: (.int 181 0) :: (.ref 379) :: .none :: (.ref 380) :: (.ref 381) :: (.ref 382) :: (.int 706 0) :: (.int 319 0) :: (.str (Str.ofString "/claim/cut.py") 707) :: []))), #[]⟩) ::
  (nat_lit 384, ⟨(.type "function"), none, (.func fd384), #[]⟩) ::
  (nat_lit 385, ⟨(.type "tuple"), none, (.seq #[] 0), #[]⟩) ::
  (nat_lit 387, ⟨(.type "tuple"), none, (.seq #[(.str (Str.ofString "self") 712), (.str (Str.ofString "first") 713), (.str (Str.ofString "typical") 714)] 0), #[]⟩) ::
  (nat_lit 388, ⟨(.type "tuple"), none, (.seq #[] 0), #[]⟩) ::
  (nat_lit 390, ⟨(.type "code"), none, (.fields (List.toArray ((.str (Str.ofString "mintypmax") 709) :: (.str (Str.ofString "ExprParser.mintypmax") 710) :: (.str (Str.ofString "/claim/cut.py") 711) :: (.int 327 0) :: (.int 1 0) :: (.int 0 0) :: (.int 0 0) :: (.int 3 0) :: (.ref 385) :: (.bool true) :: (.int 181 0) :: (.ref 386) :: .none :: (.ref 387) :: (.ref 388) :: (.ref 389) :: (.int 715 0) :: (.int 327 0) :: (.str (Str.ofString "/claim/cut.py") 716) :: []))), #[]⟩) ::
  (nat_lit 391, ⟨(.type "function"), none, (.func fd391), #[]⟩) ::
  (nat_lit 392, ⟨(.type "tuple"), none, (.seq #[] 0), #[]⟩) ::
  (nat_lit 394, ⟨(.type "tuple"), none, (.seq #[(.str (Str.ofString "self") 721), (.str (Str.ofString "at") 722), (.str (Str.ofString "parts") 723), (.str (Str.ofString "select") 724), (.str (Str.ofString "name") 725)] 0), #[]⟩) ::
  (nat_lit 395, ⟨(.type "tuple"), none, (.seq #[] 0), #[]⟩) ::
  (nat_lit 397, ⟨(.type "code"), none, (.fields (List.toArray ((.str (Str.ofString "reference") 718) :: (.str (Str.ofString "ExprParser.reference") 719) :: (.str (Str.ofString "/claim/cut.py") 720) :: (.int 336 0) :: (.int 1 0) :: (.int 0 0) :: (.int 0 0) :: (.int 3 0) :: (.ref 392) :: (.bool true) :: (.int 181 0) :: (.ref 393) :: .none :: (.ref 394) :: (.ref 395) :: (.ref 396) :: (.int 726 0) :: (.int 336 0) :: (.str (Str.ofString "/claim/cut.py") 727) :: []))), #[]⟩) ::
  (nat_lit 398, ⟨(.type "function"), none, (.func fd398), #[]⟩) ::
  (nat_lit 399, ⟨(.type "tuple"), none, (.seq #[] 0), #[]⟩) ::
  (nat_lit 401, ⟨(.type "tuple"), none, (.seq #[(.str (Str.ofString "self") 732), (.str (Str.ofString "at") 733), (.str (Str.ofString "parts") 734)] 0), #[]⟩) ::
  (nat_lit 402, ⟨(.type "tuple"), none, (.seq #[] 0), #[]⟩) ::
  (nat_lit 404, ⟨(.type "code"), none, (.fields (List.toArray ((.str (Str.ofString "path_term") 729) :: (.str (Str.ofString "ExprParser.path_term") 730) :: (.str (Str.ofString "/claim/cut.py") 731) :: (.int 351 0) :: (.int 3 0) :: (.int 0 0) :: (.int 0 0) :: (.int 3 0) :: (.ref 399) :: (.bool true) :: (.int 181 0) :: (.ref 400) :: .none :: (.ref 401) :: (.ref 402) :: (.ref 403) :: (.int 735 0) :: (.int 351 0) :: (.str (Str.ofString "/claim/cut.py") 736) :: []))), #[]⟩) ::
  (nat_lit 405, ⟨(.type "function"), none, (.func fd405), #[]⟩) ::
  (nat_lit 406, ⟨(.type "tuple"), none, (.seq #[] 0), #[]⟩) ::
  (nat_lit 408, ⟨(.type "tuple"), none, (.seq #[(.str (Str.ofString "self") 741), (.str (Str.ofString "base") 742)] 0), #[]⟩) ::
  (nat_lit 409, ⟨(.type "tuple"), none, (.seq #[] 0), #[]⟩) ::
  (nat_lit 411, ⟨(.type "code"), none, (.fields (List.toArray ((.str (Str.ofString "selects") 738) :: (.str (Str.ofString "ExprParser.selects") 739) :: (.str (Str.ofString "/claim/cut.py") 740) :: (.int 356 0) :: (.int 2 0) :: (.int 0 0) :: (.int 0 0) :: (.int 3 0) :: (.ref 406) :: (.bool true) :: (.int 181 0) :: (.ref 407) :: .none :: (.ref 408) :: (.ref 409) :: (.ref 410) :: (.int 743 0) :: (.int 356 0) :: (.str (Str.ofString "/claim/cut.py") 744) :: []))), #[]⟩) ::
  (nat_lit 412, ⟨(.type "function"), none, (.func fd412), #[]⟩) ::
  (nat_lit 413, ⟨(.type "tuple"), none, (.seq #[] 0), #[]⟩) ::
  (nat_lit 415, ⟨(.type "tuple"), none, (.seq #[(.str (Str.ofString "self") 749), (.str (Str.ofString "first") 750), (.str (Str.ofString "second") 751), (.str (Str.ofString "kind") 752)] 0), #[]⟩) ::
  (nat_lit 416, ⟨(.type "tuple"), none, (.seq #[] 0), #[]⟩) ::
  (nat_lit 418, ⟨(.type "code"), none, (.fields (List.toArray ((.str (Str.ofString "bracket") 746) :: (.str (Str.ofString "ExprParser.bracket") 747) :: (.str (Str.ofString "/claim/cut.py") 748) :: (.int 363 0) :: (.int 1 0) :: (.int 0 0) :: (.int 0 0) :: (.int 3 0) :: (.ref 413) :: (.bool true) :: (.int 181 0) :: (.ref 414) :: .none :: (.ref 415) :: (.ref 416) :: (.ref 417) :: (.int 753 0) :: (.int 363 0) :: (.str (Str.ofString "/claim/cut.py") 754) :: []))), #[]⟩) ::
  (nat_lit 419, ⟨(.type "function"), none, (.func fd419), #[]⟩) ::
  (nat_lit 420, ⟨(.type "tuple"), none, (.seq #[] 0), #[]⟩) ::
  (nat_lit 422, ⟨(.type "tuple"), none, (.seq #[(.str (Str.ofString "self") 759), (.str (Str.ofString "base") 760), (.str (Str.ofString "select") 761)] 0), #[]⟩) ::
  (nat_lit 423, ⟨(.type "tuple"), none, (.seq #[] 0), #[]⟩) ::
  (nat_lit 425, ⟨(.type "code"), none, (.fields (List.toArray ((.str (Str.ofString "with_select") 756) :: (.str (Str.ofString "ExprParser.with_select") 757) :: (.str (Str.ofString "/claim/cut.py") 758) :: (.int 379 0) :: (.int 3 0) :: (.int 0 0) :: (.int 0 0) :: (.int 3 0) :: (.ref 420) :: (.bool true) :: (.int 181 0) :: (.ref 421) :: .none :: (.ref 422) :: (.ref 423) :: (.ref 424) :: (.int 762 0) :: (.int 379 0) :: (.str (Str.ofString "/claim/cut.py") 763) :: []))), #[]⟩) ::
  (nat_lit 426, ⟨(.type "function"), none, (.func fd426), #[]⟩) ::
  (nat_lit 427, ⟨(.type "tuple"), none, (.seq #[] 0), #[]⟩) ::
  (nat_lit 429, ⟨(.type "tuple"), none, (.seq #[(.str (Str.ofString "self") 768)] 0), #[]⟩) ::
  (nat_lit 430, ⟨(.type "tuple"), none, (.seq #[] 0), #[]⟩) ::
  (nat_lit 432, ⟨(.type "code"), none, (.fields (List.toArray ((.str (Str.ofString "lvalue") 765) :: (.str (Str.ofString "ExprParser.lvalue") 766) :: (.str (Str.ofString "/claim/cut.py") 767) :: (.int 384 0) :: (.int 1 0) :: (.int 0 0) :: (.int 0 0) :: (.int 3 0) :: (.ref 427) :: (.bool true) :: (.int 181 0) :: (.ref 428) :: .none :: (.ref 429) :: (.ref 430) :: (.ref 431) :: (.int 769 0) :: (.int 384 0) :: (.str (Str.ofString "/claim/cut.py") 770) :: []))), #[]⟩) ::
  (nat_lit 433, ⟨(.type "function"), none, (.func fd433), #[]⟩) ::
  (nat_lit 434, ⟨(.type "tuple"), none, (.seq #[] 0), #[]⟩) ::
  (nat_lit 436, ⟨(.type "tuple"), none, (.seq #[(.str (Str.ofString "self") 775)] 0), #[]⟩) ::
  (nat_lit 437, ⟨(.type "tuple"), none, (.seq #[] 0), #[]⟩) ::
  (nat_lit 439, ⟨(.type "code"), none, (.fields (List.toArray ((.str (Str.ofString "name_path") 772) :: (.str (Str.ofString "ExprParser.name_path") 773) :: (.str (Str.ofString "/claim/cut.py") 774) :: (.int 387 0) :: (.int 1 0) :: (.int 0 0) :: (.int 0 0) :: (.int 3 0) :: (.ref 434) :: (.bool true) :: (.int 181 0) :: (.ref 435) :: .none :: (.ref 436) :: (.ref 437) :: (.ref 438) :: (.int 776 0) :: (.int 387 0) :: (.str (Str.ofString "/claim/cut.py") 777) :: []))), #[]⟩) ::
  (nat_lit 440, ⟨(.type "function"), none, (.func fd440), #[]⟩) ::
  (nat_lit 441, ⟨(.type "tuple"), none, (.seq #[] 0), #[]⟩) ::
  (nat_lit 443, ⟨(.type "tuple"), none, (.seq #[(.str (Str.ofString "self") 782)] 0), #[]⟩) ::
  (nat_lit 444, ⟨(.type "tuple"), none, (.seq #[] 0), #[]⟩) ::
  (nat_lit 446, ⟨(.type "code"), none, (.fields (List.toArray ((.str (Str.ofString "range_or_none") 779) :: (.str (Str.ofString "ExprParser.range_or_none") 780) :: (.str (Str.ofString "/claim/cut.py") 781) :: (.int 390 0) :: (.int 1 0) :: (.int 0 0) :: (.int 0 0) :: (.int 3 0) :: (.ref 441) :: (.bool true) :: (.int 181 0) :: (.ref 442) :: .none :: (.ref 443) :: (.ref 444) :: (.ref 445) :: (.int 783 0) :: (.int 390 0) :: (.str (Str.ofString "/claim/cut.py") 784) :: []))), #[]⟩) ::
  (nat_lit 447, ⟨(.type "function"), none, (.func fd447), #[]⟩) ::
  (nat_lit 448, ⟨(.type "tuple"), none, (.seq #[] 0), #[]⟩) ::
  (nat_lit 450, ⟨(.type "tuple"), none, (.seq #[(.str (Str.ofString "self") 789)] 0), #[]⟩) ::
  (nat_lit 451, ⟨(.type "tuple"), none, (.seq #[] 0), #[]⟩) ::
  (nat_lit 453, ⟨(.type "code"), none, (.fields (List.toArray ((.str (Str.ofString "delay_value") 786) :: (.str (Str.ofString "ExprParser.delay_value") 787) :: (.str (Str.ofString "/claim/cut.py") 788) :: (.int 393 0) :: (.int 1 0) :: (.int 0 0) :: (.int 0 0) :: (.int 3 0) :: (.ref 448) :: (.bool true) :: (.int 181 0) :: (.ref 449) :: .none :: (.ref 450) :: (.ref 451) :: (.ref 452) :: (.int 790 0) :: (.int 393 0) :: (.str (Str.ofString "/claim/cut.py") 791) :: []))), #[]⟩) ::
  (nat_lit 454, ⟨(.type "function"), none, (.func fd454), #[]⟩) ::
  (nat_lit 455, ⟨(.type "tuple"), none, (.seq #[] 0), #[]⟩) ::
  (nat_lit 457, ⟨(.type "tuple"), none, (.seq #[(.str (Str.ofString "self") 796)] 0), #[]⟩) ::
  (nat_lit 458, ⟨(.type "tuple"), none, (.seq #[] 0), #[]⟩) ::
  (nat_lit 460, ⟨(.type "code"), none, (.fields (List.toArray ((.str (Str.ofString "delay") 793) :: (.str (Str.ofString "ExprParser.delay") 794) :: (.str (Str.ofString "/claim/cut.py") 795) :: (.int 396 0) :: (.int 1 0) :: (.int 0 0) :: (.int 0 0) :: (.int 3 0) :: (.ref 455) :: (.bool true) :: (.int 181 0) :: (.ref 456) :: .none :: (.ref 457) :: (.ref 458) :: (.ref 459) :: (.int 797 0) :: (.int 396 0) :: (.str (Str.ofString "/claim/cut.py") 798) :: []))), #[]⟩) ::
  (nat_lit 461, ⟨(.type "function"), none, (.func fd461), #[]⟩) ::
  (nat_lit 462, ⟨(.type "tuple"), none, (.seq #[] 0), #[]⟩) ::
  (nat_lit 464, ⟨(.type "tuple"), none, (.seq #[(.str (Str.ofString "self") 803)] 0), #[]⟩) ::
  (nat_lit 465, ⟨(.type "tuple"), none, (.seq #[] 0), #[]⟩) ::
  (nat_lit 467, ⟨(.type "code"), none, (.fields (List.toArray ((.str (Str.ofString "delays") 800) :: (.str (Str.ofString "ExprParser.delays") 801) :: (.str (Str.ofString "/claim/cut.py") 802) :: (.int 399 0) :: (.int 1 0) :: (.int 0 0) :: (.int 0 0) :: (.int 3 0) :: (.ref 462) :: (.bool true) :: (.int 181 0) :: (.ref 463) :: .none :: (.ref 464) :: (.ref 465) :: (.ref 466) :: (.int 804 0) :: (.int 399 0) :: (.str (Str.ofString "/claim/cut.py") 805) :: []))), #[]⟩) ::
  (nat_lit 468, ⟨(.type "function"), none, (.func fd468), #[]⟩) ::
  (nat_lit 469, ⟨(.type "tuple"), none, (.seq #[(.str (Str.ofString "depth") 807), (.str (Str.ofString "nested") 808), (.str (Str.ofString "within") 809)] 0), #[]⟩) ::
  (nat_lit 470, ⟨(.type "dict"), none, (.dict (List.toArray (⟨PyData.keyHash P (Str.ofString "__module__"), .str (Str.ofString "__module__") 589, (.str (Str.ofString "gateloom.exprparse") 549)⟩ :: ⟨PyData.keyHash P (Str.ofString "__firstlineno__"), .str (Str.ofString "__firstlineno__") 593, (.int 201 592)⟩ :: ⟨PyData.keyHash P (Str.ofString "__init__"), .str (Str.ofString "__init__") 601, (.ref 307)⟩ :: ⟨PyData.keyHash P (Str.ofString "enter"), .str (Str.ofString "enter") 608, (.ref 314)⟩ :: ⟨PyData.keyHash P (Str.ofString "leave"), .str (Str.ofString "leave") 615, (.ref 321)⟩ :: ⟨PyData.keyHash P (Str.ofString "expression"), .str (Str.ofString "expression") 624, (.ref 328)⟩ :: ⟨PyData.keyHash P (Str.ofString "inner_expression"), .str (Str.ofString "inner_expression") 636, (.ref 335)⟩ :: ⟨PyData.keyHash P (Str.ofString "binary"), .str (Str.ofString "binary") 648, (.ref 342)⟩ :: ⟨PyData.keyHash P (Str.ofString "unary"), .str (Str.ofString "unary") 659, (.ref 349)⟩ :: ⟨PyData.keyHash P (Str.ofString "primary"), .str (Str.ofString "primary") 674, (.ref 356)⟩ :: ⟨PyData.keyHash P (Str.ofString "named_primary"), .str (Str.ofString "named_primary") 682, (.ref 363)⟩ :: ⟨PyData.keyHash P (Str.ofString "braces"), .str (Str.ofString "braces") 692, (.ref 370)⟩ :: ⟨PyData.keyHash P (Str.ofString "expression_list"), .str (Str.ofString "expression_list") 700, (.ref 377)⟩ :: ⟨PyData.keyHash P (Str.ofString "arguments"), .str (Str.ofString "arguments") 708, (.ref 384)⟩ :: ⟨PyData.keyHash P (Str.ofString "mintypmax"), .str (Str.ofString "mintypmax") 717, (.ref 391)⟩ :: ⟨PyData.keyHash P (Str.ofString "reference"), .str (Str.ofString "reference") 728, (.ref 398)⟩ :: ⟨PyData.keyHash P (Str.ofString "path_term"), .str (Str.ofString "path_term") 737, (.ref 405)⟩ :: ⟨PyData.keyHash P (Str.ofString "selects"), .str (Str.ofString "selects") 745, (.ref 412)⟩ :: ⟨PyData.keyHash P (Str.ofString "bracket"), .str (Str.ofString "bracket") 755, (.ref 419)⟩ :: ⟨PyData.keyHash P (Str.ofString "with_select"), .str (Str.ofString "with_select") 764, (.ref 426)⟩ :: ⟨PyData.keyHash P (Str.ofString "lvalue"), .str (Str.ofString "lvalue") 771, (.ref 433)⟩ :: ⟨PyData.keyHash P (Str.ofString "name_path"), .str (Str.ofString "name_path") 778, (.ref 440)⟩ :: ⟨PyData.keyHash P (Str.ofString "range_or_none"), .str (Str.ofString "range_or_none") 785, (.ref 447)⟩ :: ⟨PyData.keyHash P (Str.ofString "delay_value"), .str (Str.ofString "delay_value") 792, (.ref 454)⟩ :: ⟨PyData.keyHash P (Str.ofString "delay"), .str (Str.ofString "delay") 799, (.ref 461)⟩ :: ⟨PyData.keyHash P (Str.ofString "delays"), .str (Str.ofString "delays") 806, (.ref 468)⟩ :: ⟨PyData.keyHash P (Str.ofString "__static_attributes__"), .str (Str.ofString "__static_attributes__") 810, (.ref 469)⟩ :: ⟨PyData.keyHash P (Str.ofString "__doc__"), .str (Str.ofString "__doc__") 811, .none⟩ :: [])) 2), #[]⟩) ::
  (nat_lit 471, ⟨(.type "type"), none, (.cls ⟨Str.ofString "ExprParser", [(.ref 199)], [(.ref 471), (.ref 199), (.type "object")], 470, Str.ofString "ExprParser", true, [], [], false, none, false⟩), #[(some (.ref 294)), none, (some (.str (Str.ofString "ExprParser") 582)), (some (.str (Str.ofString "ExprParser") 590)), (some (.builtin "object.__new__")), (some (.bool true))]⟩) ::
  (nat_lit 474, ⟨(.type "tuple"), none, (.seq #[] 0), #[]⟩) ::
  (nat_lit 477, ⟨(.type "code"), none, (.fields (List.toArray ((.str (Str.ofString "law") 816) :: (.str (Str.ofString "law") 817) :: (.str (Str.ofString "/claim/cut.py") 818) :: (.int 402 0) :: (.int 1 0) :: (.int 0 0) :: (.int 0 0) :: (.int 3 0) :: (.ref 474) :: (.bool true) :: (.int 181 0) :: (.ref 475) :: .none :: .none :: .none :: (.ref 476) :: (.int 819 0) :: (.int 402 0) :: (.str (Str.ofString "/claim/cut.py") 820) :: []))), #[]⟩) ::
  (nat_lit 478, ⟨(.type "function"), none, (.func fd478), #[]⟩) :: []
set_option simprocs false in
open KP in
/-- the text as the head sees it -/
noncomputable def view : Program := by
  refine' (?f : (a : Program) → a = { PySem.Challenge.pw_rg0148_01 with main := { PySem.Challenge.pw_rg0148_01.main with body := [nth top 0, nth top 2, nth top 3, nth top 5, nth top 6, nth top 7, nth top 9, nth top 12, nth top 13, nth top 14, nth top 15, nth top 16, nth top 17, nth top 18, nth top 19, nth top 20, nth top 22, nth top 23, nth top 24, nth top 25, nth top 26, nth top 27, nth top 28, nth top 30] } } → Program) _ ?h
  case h => dsimp only [nth, top, PySem.Challenge.pw_rg0148_01]; exact rfl
  case f => exact fun a _ => a
abbrev kAs : List Addr := 2 :: 3 :: 15 :: 17 :: 18 :: 20 :: 21 :: 22 :: 29 :: 30 :: 32 :: 33 :: 35 :: 36 :: 37 :: 38 :: 39 :: 40 :: 43 :: 50 :: 51 :: 52 :: 62 :: 64 :: 65 :: 67 :: 68 :: 69 :: 70 :: 71 :: 72 :: 73 :: 83 :: 85 :: 86 :: 88 :: 89 :: 90 :: 92 :: 93 :: 95 :: 96 :: 97 :: 98 :: 99 :: 100 :: 101 :: 111 :: 113 :: 114 :: 116 :: 117 :: 118 :: 120 :: 121 :: 123 :: 124 :: 125 :: 126 :: 128 :: 129 :: 131 :: 132 :: 133 :: 135 :: 136 :: 138 :: 139 :: 140 :: 142 :: 143 :: 145 :: 146 :: 147 :: 149 :: 150 :: 152 :: 153 :: 154 :: 156 :: 157 :: 159 :: 160 :: 161 :: 163 :: 164 :: 166 :: 167 :: 168 :: 170 :: 171 :: 173 :: 174 :: 175 :: 177 :: 178 :: 180 :: 181 :: 182 :: 184 :: 185 :: 187 :: 188 :: 189 :: 190 :: 192 :: 193 :: 195 :: 196 :: 197 :: 198 :: 199 :: 200 :: 201 :: 204 :: 206 :: 207 :: 209 :: 210 :: 211 :: 212 :: 214 :: 215 :: 217 :: 218 :: 219 :: 221 :: 222 :: 224 :: 225 :: 226 :: 228 :: 229 :: 231 :: 232 :: 233 :: 235 :: 236 :: 238 :: 239 :: 240 :: 242 :: 243 :: 245 :: 246 :: 247 :: 249 :: 250 :: 252 :: 253 :: 254 :: 256 :: 257 :: 259 :: 260 :: 261 :: 263 :: 264 :: 266 :: 267 :: 268 :: 270 :: 271 :: 273 :: 274 :: 275 :: 277 :: 278 :: 280 :: 281 :: 282 :: 284 :: 285 :: 287 :: 288 :: 289 :: 292 :: 293 :: 294 :: 301 :: 303 :: 304 :: 306 :: 307 :: 308 :: 310 :: 311 :: 313 :: 314 :: 315 :: 317 :: 318 :: 320 :: 321 :: 322 :: 324 :: 325 :: 327 :: 328 :: 329 :: 331 :: 332 :: 334 :: 335 :: 336 :: 338 :: 339 :: 341 :: 342 :: 343 :: 345 :: 346 :: 348 :: 349 :: 350 :: 352 :: 353 :: 355 :: 356 :: 357 :: 359 :: 360 :: 362 :: 363 :: 364 :: 366 :: 367 :: 369 :: 370 :: 371 :: 373 :: 374 :: 376 :: 377 :: 378 :: 380 :: 381 :: 383 :: 384 :: 385 :: 387 :: 388 :: 390 :: 391 :: 392 :: 394 :: 395 :: 397 :: 398 :: 399 :: 401 :: 402 :: 404 :: 405 :: 406 :: 408 :: 409 :: 411 :: 412 :: 413 :: 415 :: 416 :: 418 :: 419 :: 420 :: 422 :: 423 :: 425 :: 426 :: 427 :: 429 :: 430 :: 432 :: 433 :: 434 :: 436 :: 437 :: 439 :: 440 :: 441 :: 443 :: 444 :: 446 :: 447 :: 448 :: 450 :: 451 :: 453 :: 454 :: 455 :: 457 :: 458 :: 460 :: 461 :: 462 :: 464 :: 465 :: 467 :: 468 :: 469 :: 470 :: 471 :: 474 :: 477 :: 478 :: []
theorem kE (P : Params) : kAs = (wrK P).map (·.1) := by kernel_rfl
noncomputable abbrev kH : Hook := kHook wrK kAs kE
noncomputable abbrev xT (s : Shared) : Bool := xlAt view [] s && recOk (RowW.records PySem.Challenge.rw_rg0148_01.row.toRowW) s
noncomputable def kO (P : Params) (a : Addr) : Obj := match (wrK P).lookup a with
  | some o => o
  | none => boot_o_0 P
noncomputable def hpSa (P : Params) : Heap := ⟨List.toArray (
  boot_o_0 P ::
  boot_o_1 P ::
  boot_o_2 P ::
  boot_o_3 P ::
  boot_o_4 P ::
  boot_o_5 P ::
  boot_o_6 P ::
  boot_o_7 P ::
  boot_o_8 P ::
  boot_o_9 P ::
  boot_o_10 P ::
  ⟨(.type "tuple"), none, (.seq #[] 0), #[]⟩ ::
  ⟨.none, none, (.fields #[]), #[]⟩ ::
  ⟨(.type "code"), none, (.fields (List.toArray ((.str (Str.ofString "<module>") 182) :: (.str (Str.ofString "<module>") 183) :: (.str (Str.ofString "/claim/cut.py") 184) :: (.int 1 0) :: (.int 0 0) :: (.int 0 0) :: (.int 0 0) :: (.int 0 0) :: (.ref 11) :: (.bool false) :: (.int 181 0) :: (.ref 12) :: .none :: .none :: .none :: .none :: (.int 185 0) :: (.int 1 0) :: (.str (Str.ofString "/claim/cut.py") 186) :: []))), #[]⟩ ::
  ⟨(.type "frame"), none, .plain, #[(some (.ref 13)), (some (.ref 3)), (some (.ref 3)), none, (some (.str (Str.ofString "__main__") 164)), none, (some (.ref 0))]⟩ ::
  []), {}⟩
noncomputable abbrev stSa (w : World) (os : OsState) : Shared := ⟨hpSa w.params, Array.mk [], boot_drawn, 187, os⟩
noncomputable def hpS1 (P : Params) : Heap := ⟨List.toArray (
  boot_o_0 P ::
  boot_o_1 P ::
  kO P 2 ::
  ⟨(.type "dict"), none, (.dict #[⟨PyData.keyHash P (Str.ofString "__name__"), .str (Str.ofString "__name__") 165, (.str (Str.ofString "gateloom.tokens") 248)⟩, ⟨PyData.keyHash P (Str.ofString "__doc__"), .str (Str.ofString "__doc__") 166, .none⟩, ⟨PyData.keyHash P (Str.ofString "__package__"), .str (Str.ofString "__package__") 167, .none⟩, ⟨PyData.keyHash P (Str.ofString "__loader__"), .str (Str.ofString "__loader__") 168, (.builtin "__main__.__loader__#opaque")⟩, ⟨PyData.keyHash P (Str.ofString "__spec__"), .str (Str.ofString "__spec__") 169, .none⟩, ⟨PyData.keyHash P (Str.ofString "__annotations__"), .str (Str.ofString "__annotations__") 170, (.ref 6)⟩, ⟨PyData.keyHash P (Str.ofString "__builtins__"), .str (Str.ofString "__builtins__") 171, (.ref 4)⟩, ⟨PyData.keyHash P (Str.ofString "__file__"), .str (Str.ofString "__file__") 173, (.str (Str.ofString "/claim/cut.py") 172)⟩, ⟨PyData.keyHash P (Str.ofString "__cached__"), .str (Str.ofString "__cached__") 174, .none⟩, ⟨PyData.keyHash P (Str.ofString "_wall"), .str (Str.ofString "_wall") 193, (.ref 21)⟩, ⟨PyData.keyHash P (Str.ofString "GateloomError"), .str (Str.ofString "GateloomError") 231, (.ref 39)⟩, ⟨PyData.keyHash P (Str.ofString "SourceError"), .str (Str.ofString "SourceError") 247, (.ref 52)⟩, ⟨PyData.keyHash P (Str.ofString "Token"), .str (Str.ofString "Token") 282, (.ref 71)⟩, ⟨PyData.keyHash P (Str.ofString "TokenRow"), .str (Str.ofString "TokenRow") 321, (.ref 99)⟩] 14), #[]⟩ ::
  boot_o_4 P ::
  boot_o_5 P ::
  boot_o_6 P ::
  boot_o_7 P ::
  boot_o_8 P ::
  boot_o_9 P ::
  boot_o_10 P ::
  ⟨(.type "tuple"), none, (.seq #[] 0), #[]⟩ ::
  ⟨.none, none, (.fields #[(.int 1 0), (.int 0 0), (.ref 20), (.int 5 0), (.int 0 0), (.ref 27), (.int 11 0), (.int 0 0), (.ref 48), (.int 14 0), (.int 0 0), (.ref 60), (.int 20 0), (.int 0 0), (.ref 81)]), #[]⟩ ::
  ⟨(.type "code"), none, (.fields (List.toArray ((.str (Str.ofString "<module>") 182) :: (.str (Str.ofString "<module>") 183) :: (.str (Str.ofString "/claim/cut.py") 184) :: (.int 1 0) :: (.int 0 0) :: (.int 0 0) :: (.int 0 0) :: (.int 0 0) :: (.ref 11) :: (.bool false) :: (.int 181 0) :: (.ref 12) :: .none :: .none :: .none :: .none :: (.int 185 0) :: (.int 1 0) :: (.str (Str.ofString "/claim/cut.py") 186) :: []))), #[]⟩ ::
  ⟨(.type "frame"), none, .plain, #[(some (.ref 13)), (some (.ref 3)), (some (.ref 3)), none, (some (.str (Str.ofString "__main__") 164)), none, (some (.ref 0))]⟩ ::
  kO P 15 ::
  ⟨.none, none, (.fields #[]), #[]⟩ ::
  kO P 17 ::
  kO P 18 ::
  ⟨.none, none, (.func ⟨Str.ofString "_wall", Str.ofString "_wall", KP.fA (KP.nth KP.top 0), .stmts (KP.fB (KP.nth KP.top 0)), KP.fS (KP.nth KP.top 0), 0, [], .none, .none, .none, .none, none, .none, .none, 0⟩), #[]⟩ ::
  kO P 20 ::
  kO P 21 ::
  kO P 22 ::
  ⟨(.type "builtin_function_or_method"), none, (.fields #[(.builtin "type.__prepare__"), (.type "type")]), #[]⟩ ::
  ⟨(.type "dict"), none, (.dict #[⟨PyData.keyHash P (Str.ofString "__module__"), .str (Str.ofString "__module__") 203, (.str (Str.ofString "gateloom.errors") 194)⟩, ⟨PyData.keyHash P (Str.ofString "__qualname__"), .str (Str.ofString "__qualname__") 205, (.str (Str.ofString "GateloomError") 204)⟩, ⟨PyData.keyHash P (Str.ofString "__firstlineno__"), .str (Str.ofString "__firstlineno__") 207, (.int 5 206)⟩, ⟨PyData.keyHash P (Str.ofString "__init__"), .str (Str.ofString "__init__") 220, (.ref 36)⟩, ⟨PyData.keyHash P (Str.ofString "__static_attributes__"), .str (Str.ofString "__static_attributes__") 224, (.ref 37)⟩] 5), #[]⟩ ::
  ⟨(.type "tuple"), none, (.seq #[] 0), #[]⟩ ::
  ⟨.none, none, (.fields #[(.int 7 0), (.int 4 0), (.ref 35)]), #[]⟩ ::
  ⟨(.type "code"), none, (.fields (List.toArray ((.str (Str.ofString "GateloomError") 198) :: (.str (Str.ofString "GateloomError") 199) :: (.str (Str.ofString "/claim/cut.py") 200) :: (.int 5 0) :: (.int 0 0) :: (.int 0 0) :: (.int 0 0) :: (.int 0 0) :: (.ref 25) :: (.bool false) :: (.int 181 0) :: (.ref 26) :: .none :: .none :: .none :: .none :: (.int 201 0) :: (.int 5 0) :: (.str (Str.ofString "/claim/cut.py") 202) :: []))), #[]⟩ ::
  ⟨(.type "frame"), none, .plain, #[(some (.ref 27)), (some (.ref 3)), (some (.ref 24)), none, (some (.str (Str.ofString "gateloom.errors") 194)), none, (some (.ref 0))]⟩ ::
  kO P 29 ::
  kO P 30 ::
  ⟨.none, none, (.fields #[]), #[]⟩ ::
  kO P 32 ::
  kO P 33 ::
  ⟨.none, none, (.func ⟨Str.ofString "__init__", Str.ofString "GateloomError.__init__", KP.fA (KP.nth (KP.cB (KP.nth KP.top 2)) 0), .stmts (KP.fB (KP.nth (KP.cB (KP.nth KP.top 2)) 0)), KP.fS (KP.nth (KP.cB (KP.nth KP.top 2)) 0), 0, [], .none, .none, .none, .none, none, .none, .none, 0⟩), #[]⟩ ::
  kO P 35 ::
  kO P 36 ::
  kO P 37 ::
  kO P 38 ::
  kO P 39 ::
  kO P 40 ::
  ⟨(.type "super"), none, (.fields #[(.ref 39), (.ref 39), (.ref 39)]), #[]⟩ ::
  ⟨(.type "builtin_function_or_method"), none, (.fields #[(.builtin "object.__init_subclass__"), (.ref 39)]), #[]⟩ ::
  kO P 43 ::
  ⟨(.type "builtin_function_or_method"), none, (.fields #[(.builtin "type.__prepare__"), (.type "type")]), #[]⟩ ::
  ⟨(.type "dict"), none, (.dict #[⟨PyData.keyHash P (Str.ofString "__module__"), .str (Str.ofString "__module__") 239, (.str (Str.ofString "gateloom.errors") 194)⟩, ⟨PyData.keyHash P (Str.ofString "__qualname__"), .str (Str.ofString "__qualname__") 241, (.str (Str.ofString "SourceError") 240)⟩, ⟨PyData.keyHash P (Str.ofString "__firstlineno__"), .str (Str.ofString "__firstlineno__") 243, (.int 11 242)⟩, ⟨PyData.keyHash P (Str.ofString "__static_attributes__"), .str (Str.ofString "__static_attributes__") 244, (.ref 50)⟩] 4), #[]⟩ ::
  ⟨(.type "tuple"), none, (.seq #[] 0), #[]⟩ ::
  ⟨.none, none, (.fields #[]), #[]⟩ ::
  ⟨(.type "code"), none, (.fields (List.toArray ((.str (Str.ofString "SourceError") 234) :: (.str (Str.ofString "SourceError") 235) :: (.str (Str.ofString "/claim/cut.py") 236) :: (.int 11 0) :: (.int 0 0) :: (.int 0 0) :: (.int 0 0) :: (.int 0 0) :: (.ref 46) :: (.bool false) :: (.int 181 0) :: (.ref 47) :: .none :: .none :: .none :: .none :: (.int 237 0) :: (.int 11 0) :: (.str (Str.ofString "/claim/cut.py") 238) :: []))), #[]⟩ ::
  ⟨(.type "frame"), none, .plain, #[(some (.ref 48)), (some (.ref 3)), (some (.ref 45)), none, (some (.str (Str.ofString "gateloom.errors") 194)), none, (some (.ref 0))]⟩ ::
  kO P 50 ::
  kO P 51 ::
  kO P 52 ::
  ⟨(.type "super"), none, (.fields #[(.ref 52), (.ref 52), (.ref 52)]), #[]⟩ ::
  ⟨(.type "builtin_function_or_method"), none, (.fields #[(.builtin "object.__init_subclass__"), (.ref 52)]), #[]⟩ ::
  ⟨(.type "tuple"), none, (.seq #[] 0), #[]⟩ ::
  ⟨(.type "builtin_function_or_method"), none, (.fields #[(.builtin "type.__prepare__"), (.type "type")]), #[]⟩ ::
  ⟨(.type "dict"), none, (.dict #[⟨PyData.keyHash P (Str.ofString "__module__"), .str (Str.ofString "__module__") 257, (.str (Str.ofString "gateloom.tokens") 248)⟩, ⟨PyData.keyHash P (Str.ofString "__qualname__"), .str (Str.ofString "__qualname__") 259, (.str (Str.ofString "Token") 258)⟩, ⟨PyData.keyHash P (Str.ofString "__firstlineno__"), .str (Str.ofString "__firstlineno__") 261, (.int 14 260)⟩, ⟨PyData.keyHash P (Str.ofString "__init__"), .str (Str.ofString "__init__") 271, (.ref 68)⟩, ⟨PyData.keyHash P (Str.ofString "__static_attributes__"), .str (Str.ofString "__static_attributes__") 275, (.ref 69)⟩] 5), #[]⟩ ::
  ⟨(.type "tuple"), none, (.seq #[] 0), #[]⟩ ::
  ⟨.none, none, (.fields #[(.int 16 0), (.int 4 0), (.ref 67)]), #[]⟩ ::
  ⟨(.type "code"), none, (.fields (List.toArray ((.str (Str.ofString "Token") 252) :: (.str (Str.ofString "Token") 253) :: (.str (Str.ofString "/claim/cut.py") 254) :: (.int 14 0) :: (.int 0 0) :: (.int 0 0) :: (.int 0 0) :: (.int 0 0) :: (.ref 58) :: (.bool false) :: (.int 181 0) :: (.ref 59) :: .none :: .none :: .none :: .none :: (.int 255 0) :: (.int 14 0) :: (.str (Str.ofString "/claim/cut.py") 256) :: []))), #[]⟩ ::
  ⟨(.type "frame"), none, .plain, #[(some (.ref 60)), (some (.ref 3)), (some (.ref 57)), none, (some (.str (Str.ofString "gateloom.tokens") 248)), none, (some (.ref 0))]⟩ ::
  kO P 62 ::
  ⟨.none, none, (.fields #[]), #[]⟩ ::
  kO P 64 ::
  kO P 65 ::
  ⟨.none, none, (.func ⟨Str.ofString "__init__", Str.ofString "Token.__init__", KP.fA (KP.nth (KP.cB (KP.nth KP.top 5)) 0), .stmts (KP.fB (KP.nth (KP.cB (KP.nth KP.top 5)) 0)), KP.fS (KP.nth (KP.cB (KP.nth KP.top 5)) 0), 0, [], .none, .none, .none, .none, none, .none, .none, 0⟩), #[]⟩ ::
  kO P 67 ::
  kO P 68 ::
  kO P 69 ::
  kO P 70 ::
  kO P 71 ::
  kO P 72 ::
  kO P 73 ::
  ⟨(.type "super"), none, (.fields #[(.ref 71), (.ref 71), (.ref 71)]), #[]⟩ ::
  ⟨(.type "builtin_function_or_method"), none, (.fields #[(.builtin "object.__init_subclass__"), (.ref 71)]), #[]⟩ ::
  ⟨(.type "tuple"), none, (.seq #[] 0), #[]⟩ ::
  ⟨(.type "builtin_function_or_method"), none, (.fields #[(.builtin "type.__prepare__"), (.type "type")]), #[]⟩ ::
  ⟨(.type "dict"), none, (.dict #[⟨PyData.keyHash P (Str.ofString "__module__"), .str (Str.ofString "__module__") 290, (.str (Str.ofString "gateloom.tokens") 248)⟩, ⟨PyData.keyHash P (Str.ofString "__qualname__"), .str (Str.ofString "__qualname__") 292, (.str (Str.ofString "TokenRow") 291)⟩, ⟨PyData.keyHash P (Str.ofString "__firstlineno__"), .str (Str.ofString "__firstlineno__") 294, (.int 20 293)⟩, ⟨PyData.keyHash P (Str.ofString "__init__"), .str (Str.ofString "__init__") 302, (.ref 89)⟩, ⟨PyData.keyHash P (Str.ofString "next_token"), .str (Str.ofString "next_token") 310, (.ref 96)⟩, ⟨PyData.keyHash P (Str.ofString "__static_attributes__"), .str (Str.ofString "__static_attributes__") 314, (.ref 97)⟩] 6), #[]⟩ ::
  ⟨(.type "tuple"), none, (.seq #[] 0), #[]⟩ ::
  ⟨.none, none, (.fields #[(.int 22 0), (.int 4 0), (.ref 88), (.int 27 0), (.int 4 0), (.ref 95)]), #[]⟩ ::
  ⟨(.type "code"), none, (.fields (List.toArray ((.str (Str.ofString "TokenRow") 285) :: (.str (Str.ofString "TokenRow") 286) :: (.str (Str.ofString "/claim/cut.py") 287) :: (.int 20 0) :: (.int 0 0) :: (.int 0 0) :: (.int 0 0) :: (.int 0 0) :: (.ref 79) :: (.bool false) :: (.int 181 0) :: (.ref 80) :: .none :: .none :: .none :: .none :: (.int 288 0) :: (.int 20 0) :: (.str (Str.ofString "/claim/cut.py") 289) :: []))), #[]⟩ ::
  ⟨(.type "frame"), none, .plain, #[(some (.ref 81)), (some (.ref 3)), (some (.ref 78)), none, (some (.str (Str.ofString "gateloom.tokens") 248)), none, (some (.ref 0))]⟩ ::
  kO P 83 ::
  ⟨.none, none, (.fields #[]), #[]⟩ ::
  kO P 85 ::
  kO P 86 ::
  ⟨.none, none, (.func ⟨Str.ofString "__init__", Str.ofString "TokenRow.__init__", KP.fA (KP.nth (KP.cB (KP.nth KP.top 6)) 0), .stmts (KP.fB (KP.nth (KP.cB (KP.nth KP.top 6)) 0)), KP.fS (KP.nth (KP.cB (KP.nth KP.top 6)) 0), 0, [], .none, .none, .none, .none, none, .none, .none, 0⟩), #[]⟩ ::
  kO P 88 ::
  kO P 89 ::
  kO P 90 ::
  ⟨.none, none, (.fields #[]), #[]⟩ ::
  kO P 92 ::
  kO P 93 ::
  ⟨.none, none, (.func ⟨Str.ofString "next_token", Str.ofString "TokenRow.next_token", KP.fA (KP.nth (KP.cB (KP.nth KP.top 6)) 1), .stmts (KP.fB (KP.nth (KP.cB (KP.nth KP.top 6)) 1)), KP.fS (KP.nth (KP.cB (KP.nth KP.top 6)) 1), 0, [], .none, .none, .none, .none, none, .none, .none, 0⟩), #[]⟩ ::
  kO P 95 ::
  kO P 96 ::
  kO P 97 ::
  kO P 98 ::
  kO P 99 ::
  kO P 100 ::
  kO P 101 ::
  ⟨(.type "super"), none, (.fields #[(.ref 99), (.ref 99), (.ref 99)]), #[]⟩ ::
  ⟨(.type "builtin_function_or_method"), none, (.fields #[(.builtin "object.__init_subclass__"), (.ref 99)]), #[]⟩ ::
  []), {}⟩
noncomputable abbrev stS1 (w : World) (os : OsState) : Shared := ⟨hpS1 w.params, Array.mk [], boot_drawn, 322, os⟩
noncomputable def hpS2 (P : Params) : Heap := ⟨List.toArray (
  boot_o_0 P ::
  boot_o_1 P ::
  kO P 2 ::
  ⟨(.type "dict"), none, (.dict (List.toArray (⟨PyData.keyHash P (Str.ofString "__name__"), .str (Str.ofString "__name__") 165, (.str (Str.ofString "gateloom.exprparse") 549)⟩ :: ⟨PyData.keyHash P (Str.ofString "__doc__"), .str (Str.ofString "__doc__") 166, .none⟩ :: ⟨PyData.keyHash P (Str.ofString "__package__"), .str (Str.ofString "__package__") 167, .none⟩ :: ⟨PyData.keyHash P (Str.ofString "__loader__"), .str (Str.ofString "__loader__") 168, (.builtin "__main__.__loader__#opaque")⟩ :: ⟨PyData.keyHash P (Str.ofString "__spec__"), .str (Str.ofString "__spec__") 169, .none⟩ :: ⟨PyData.keyHash P (Str.ofString "__annotations__"), .str (Str.ofString "__annotations__") 170, (.ref 6)⟩ :: ⟨PyData.keyHash P (Str.ofString "__builtins__"), .str (Str.ofString "__builtins__") 171, (.ref 4)⟩ :: ⟨PyData.keyHash P (Str.ofString "__file__"), .str (Str.ofString "__file__") 173, (.str (Str.ofString "/claim/cut.py") 172)⟩ :: ⟨PyData.keyHash P (Str.ofString "__cached__"), .str (Str.ofString "__cached__") 174, .none⟩ :: ⟨PyData.keyHash P (Str.ofString "_wall"), .str (Str.ofString "_wall") 193, (.ref 21)⟩ :: ⟨PyData.keyHash P (Str.ofString "GateloomError"), .str (Str.ofString "GateloomError") 231, (.ref 39)⟩ :: ⟨PyData.keyHash P (Str.ofString "SourceError"), .str (Str.ofString "SourceError") 247, (.ref 52)⟩ :: ⟨PyData.keyHash P (Str.ofString "Token"), .str (Str.ofString "Token") 282, (.ref 71)⟩ :: ⟨PyData.keyHash P (Str.ofString "TokenRow"), .str (Str.ofString "TokenRow") 321, (.ref 99)⟩ :: ⟨PyData.keyHash P (Str.ofString "Cursor"), .str (Str.ofString "Cursor") 444, (.ref 199)⟩ :: ⟨PyData.keyHash P (Str.ofString "mask"), .str (Str.ofString "mask") 453, (.ref 210)⟩ :: ⟨PyData.keyHash P (Str.ofString "vec"), .str (Str.ofString "vec") 464, (.ref 218)⟩ :: ⟨PyData.keyHash P (Str.ofString "MOST_BITS"), .str (Str.ofString "MOST_BITS") 468, (.int 65536 467)⟩ :: ⟨PyData.keyHash P (Str.ofString "PLAIN_BITS"), .str (Str.ofString "PLAIN_BITS") 470, (.int 32 469)⟩ :: ⟨PyData.keyHash P (Str.ofString "digit_bits"), .str (Str.ofString "digit_bits") 477, (.ref 225)⟩ :: ⟨PyData.keyHash P (Str.ofString "decimal_value"), .str (Str.ofString "decimal_value") 486, (.ref 232)⟩ :: ⟨PyData.keyHash P (Str.ofString "size_value"), .str (Str.ofString "size_value") 495, (.ref 239)⟩ :: ⟨PyData.keyHash P (Str.ofString "digit_pair"), .str (Str.ofString "digit_pair") 503, (.ref 246)⟩ :: ⟨PyData.keyHash P (Str.ofString "grouped"), .str (Str.ofString "grouped") 518, (.ref 253)⟩ :: ⟨PyData.keyHash P (Str.ofString "padded_vec"), .str (Str.ofString "padded_vec") 530, (.ref 260)⟩ :: ⟨PyData.keyHash P (Str.ofString "numeral"), .str (Str.ofString "numeral") 548, (.ref 267)⟩ :: ⟨PyData.keyHash P (Str.ofString "MOST_NEST"), .str (Str.ofString "MOST_NEST") 552, (.int 60 551)⟩ :: ⟨PyData.keyHash P (Str.ofString "MOST_HEIGHT"), .str (Str.ofString "MOST_HEIGHT") 554, (.int 200 553)⟩ :: ⟨PyData.keyHash P (Str.ofString "precedence"), .str (Str.ofString "precedence") 561, (.ref 274)⟩ :: ⟨PyData.keyHash P (Str.ofString "is_unary"), .str (Str.ofString "is_unary") 568, (.ref 281)⟩ :: ⟨PyData.keyHash P (Str.ofString "plain_operator"), .str (Str.ofString "plain_operator") 575, (.ref 288)⟩ :: ⟨PyData.keyHash P (Str.ofString "is_high"), .str (Str.ofString "is_high") 581, (.ref 293)⟩ :: [])) 32), #[]⟩ ::
  boot_o_4 P ::
  boot_o_5 P ::
  boot_o_6 P ::
  boot_o_7 P ::
  boot_o_8 P ::
  boot_o_9 P ::
  boot_o_10 P ::
  ⟨(.type "tuple"), none, (.seq #[] 0), #[]⟩ ::
  ⟨.none, none, (.fields (List.toArray ((.int 1 0) :: (.int 0 0) :: (.ref 20) :: (.int 5 0) :: (.int 0 0) :: (.ref 27) :: (.int 11 0) :: (.int 0 0) :: (.ref 48) :: (.int 14 0) :: (.int 0 0) :: (.ref 60) :: (.int 20 0) :: (.int 0 0) :: (.ref 81) :: (.int 33 0) :: (.int 0 0) :: (.ref 109) :: (.int 90 0) :: (.int 0 0) :: (.ref 209) :: (.int 92 0) :: (.int 0 0) :: (.ref 217) :: (.int 98 0) :: (.int 0 0) :: (.ref 224) :: (.int 104 0) :: (.int 0 0) :: (.ref 231) :: (.int 109 0) :: (.int 0 0) :: (.ref 238) :: (.int 114 0) :: (.int 0 0) :: (.ref 245) :: (.int 120 0) :: (.int 0 0) :: (.ref 252) :: (.int 130 0) :: (.int 0 0) :: (.ref 259) :: (.int 138 0) :: (.int 0 0) :: (.ref 266) :: (.int 164 0) :: (.int 0 0) :: (.ref 273) :: (.int 188 0) :: (.int 0 0) :: (.ref 280) :: (.int 190 0) :: (.int 0 0) :: (.ref 287) :: (.int 194 0) :: (.int 0 0) :: (.ref 292) :: []))), #[]⟩ ::
  ⟨(.type "code"), none, (.fields (List.toArray ((.str (Str.ofString "<module>") 182) :: (.str (Str.ofString "<module>") 183) :: (.str (Str.ofString "/claim/cut.py") 184) :: (.int 1 0) :: (.int 0 0) :: (.int 0 0) :: (.int 0 0) :: (.int 0 0) :: (.ref 11) :: (.bool false) :: (.int 181 0) :: (.ref 12) :: .none :: .none :: .none :: .none :: (.int 185 0) :: (.int 1 0) :: (.str (Str.ofString "/claim/cut.py") 186) :: []))), #[]⟩ ::
  ⟨(.type "frame"), none, .plain, #[(some (.ref 13)), (some (.ref 3)), (some (.ref 3)), none, (some (.str (Str.ofString "__main__") 164)), none, (some (.ref 0))]⟩ ::
  kO P 15 ::
  ⟨.none, none, (.fields #[]), #[]⟩ ::
  kO P 17 ::
  kO P 18 ::
  ⟨.none, none, (.func ⟨Str.ofString "_wall", Str.ofString "_wall", KP.fA (KP.nth KP.top 0), .stmts (KP.fB (KP.nth KP.top 0)), KP.fS (KP.nth KP.top 0), 0, [], .none, .none, .none, .none, none, .none, .none, 0⟩), #[]⟩ ::
  kO P 20 ::
  kO P 21 ::
  kO P 22 ::
  ⟨(.type "builtin_function_or_method"), none, (.fields #[(.builtin "type.__prepare__"), (.type "type")]), #[]⟩ ::
  ⟨(.type "dict"), none, (.dict #[⟨PyData.keyHash P (Str.ofString "__module__"), .str (Str.ofString "__module__") 203, (.str (Str.ofString "gateloom.errors") 194)⟩, ⟨PyData.keyHash P (Str.ofString "__qualname__"), .str (Str.ofString "__qualname__") 205, (.str (Str.ofString "GateloomError") 204)⟩, ⟨PyData.keyHash P (Str.ofString "__firstlineno__"), .str (Str.ofString "__firstlineno__") 207, (.int 5 206)⟩, ⟨PyData.keyHash P (Str.ofString "__init__"), .str (Str.ofString "__init__") 220, (.ref 36)⟩, ⟨PyData.keyHash P (Str.ofString "__static_attributes__"), .str (Str.ofString "__static_attributes__") 224, (.ref 37)⟩] 5), #[]⟩ ::
  ⟨(.type "tuple"), none, (.seq #[] 0), #[]⟩ ::
  ⟨.none, none, (.fields #[(.int 7 0), (.int 4 0), (.ref 35)]), #[]⟩ ::
  ⟨(.type "code"), none, (.fields (List.toArray ((.str (Str.ofString "GateloomError") 198) :: (.str (Str.ofString "GateloomError") 199) :: (.str (Str.ofString "/claim/cut.py") 200) :: (.int 5 0) :: (.int 0 0) :: (.int 0 0) :: (.int 0 0) :: (.int 0 0) :: (.ref 25) :: (.bool false) :: (.int 181 0) :: (.ref 26) :: .none :: .none :: .none :: .none :: (.int 201 0) :: (.int 5 0) :: (.str (Str.ofString "/claim/cut.py") 202) :: []))), #[]⟩ ::
  ⟨(.type "frame"), none, .plain, #[(some (.ref 27)), (some (.ref 3)), (some (.ref 24)), none, (some (.str (Str.ofString "gateloom.errors") 194)), none, (some (.ref 0))]⟩ ::
  kO P 29 ::
  kO P 30 ::
  ⟨.none, none, (.fields #[]), #[]⟩ ::
  kO P 32 ::
  kO P 33 ::
  ⟨.none, none, (.func ⟨Str.ofString "__init__", Str.ofString "GateloomError.__init__", KP.fA (KP.nth (KP.cB (KP.nth KP.top 2)) 0), .stmts (KP.fB (KP.nth (KP.cB (KP.nth KP.top 2)) 0)), KP.fS (KP.nth (KP.cB (KP.nth KP.top 2)) 0), 0, [], .none, .none, .none, .none, none, .none, .none, 0⟩), #[]⟩ ::
  kO P 35 ::
  kO P 36 ::
  kO P 37 ::
  kO P 38 ::
  kO P 39 ::
  kO P 40 ::
  ⟨(.type "super"), none, (.fields #[(.ref 39), (.ref 39), (.ref 39)]), #[]⟩ ::
  ⟨(.type "builtin_function_or_method"), none, (.fields #[(.builtin "object.__init_subclass__"), (.ref 39)]), #[]⟩ ::
  kO P 43 ::
  ⟨(.type "builtin_function_or_method"), none, (.fields #[(.builtin "type.__prepare__"), (.type "type")]), #[]⟩ ::
  ⟨(.type "dict"), none, (.dict #[⟨PyData.keyHash P (Str.ofString "__module__"), .str (Str.ofString "__module__") 239, (.str (Str.ofString "gateloom.errors") 194)⟩, ⟨PyData.keyHash P (Str.ofString "__qualname__"), .str (Str.ofString "__qualname__") 241, (.str (Str.ofString "SourceError") 240)⟩, ⟨PyData.keyHash P (Str.ofString "__firstlineno__"), .str (Str.ofString "__firstlineno__") 243, (.int 11 242)⟩, ⟨PyData.keyHash P (Str.ofString "__static_attributes__"), .str (Str.ofString "__static_attributes__") 244, (.ref 50)⟩] 4), #[]⟩ ::
  ⟨(.type "tuple"), none, (.seq #[] 0), #[]⟩ ::
  ⟨.none, none, (.fields #[]), #[]⟩ ::
  ⟨(.type "code"), none, (.fields (List.toArray ((.str (Str.ofString "SourceError") 234) :: (.str (Str.ofString "SourceError") 235) :: (.str (Str.ofString "/claim/cut.py") 236) :: (.int 11 0) :: (.int 0 0) :: (.int 0 0) :: (.int 0 0) :: (.int 0 0) :: (.ref 46) :: (.bool false) :: (.int 181 0) :: (.ref 47) :: .none :: .none :: .none :: .none :: (.int 237 0) :: (.int 11 0) :: (.str (Str.ofString "/claim/cut.py") 238) :: []))), #[]⟩ ::
  ⟨(.type "frame"), none, .plain, #[(some (.ref 48)), (some (.ref 3)), (some (.ref 45)), none, (some (.str (Str.ofString "gateloom.errors") 194)), none, (some (.ref 0))]⟩ ::
  kO P 50 ::
  kO P 51 ::
  kO P 52 ::
  ⟨(.type "super"), none, (.fields #[(.ref 52), (.ref 52), (.ref 52)]), #[]⟩ ::
  ⟨(.type "builtin_function_or_method"), none, (.fields #[(.builtin "object.__init_subclass__"), (.ref 52)]), #[]⟩ ::
  ⟨(.type "tuple"), none, (.seq #[] 0), #[]⟩ ::
  ⟨(.type "builtin_function_or_method"), none, (.fields #[(.builtin "type.__prepare__"), (.type "type")]), #[]⟩ ::
  ⟨(.type "dict"), none, (.dict #[⟨PyData.keyHash P (Str.ofString "__module__"), .str (Str.ofString "__module__") 257, (.str (Str.ofString "gateloom.tokens") 248)⟩, ⟨PyData.keyHash P (Str.ofString "__qualname__"), .str (Str.ofString "__qualname__") 259, (.str (Str.ofString "Token") 258)⟩, ⟨PyData.keyHash P (Str.ofString "__firstlineno__"), .str (Str.ofString "__firstlineno__") 261, (.int 14 260)⟩, ⟨PyData.keyHash P (Str.ofString "__init__"), .str (Str.ofString "__init__") 271, (.ref 68)⟩, ⟨PyData.keyHash P (Str.ofString "__static_attributes__"), .str (Str.ofString "__static_attributes__") 275, (.ref 69)⟩] 5), #[]⟩ ::
  ⟨(.type "tuple"), none, (.seq #[] 0), #[]⟩ ::
  ⟨.none, none, (.fields #[(.int 16 0), (.int 4 0), (.ref 67)]), #[]⟩ ::
  ⟨(.type "code"), none, (.fields (List.toArray ((.str (Str.ofString "Token") 252) :: (.str (Str.ofString "Token") 253) :: (.str (Str.ofString "/claim/cut.py") 254) :: (.int 14 0) :: (.int 0 0) :: (.int 0 0) :: (.int 0 0) :: (.int 0 0) :: (.ref 58) :: (.bool false) :: (.int 181 0) :: (.ref 59) :: .none :: .none :: .none :: .none :: (.int 255 0) :: (.int 14 0) :: (.str (Str.ofString "/claim/cut.py") 256) :: []))), #[]⟩ ::
  ⟨(.type "frame"), none, .plain, #[(some (.ref 60)), (some (.ref 3)), (some (.ref 57)), none, (some (.str (Str.ofString "gateloom.tokens") 248)), none, (some (.ref 0))]⟩ ::
  kO P 62 ::
  ⟨.none, none, (.fields #[]), #[]⟩ ::
  kO P 64 ::
  kO P 65 ::
  ⟨.none, none, (.func ⟨Str.ofString "__init__", Str.ofString "Token.__init__", KP.fA (KP.nth (KP.cB (KP.nth KP.top 5)) 0), .stmts (KP.fB (KP.nth (KP.cB (KP.nth KP.top 5)) 0)), KP.fS (KP.nth (KP.cB (KP.nth KP.top 5)) 0), 0, [], .none, .none, .none, .none, none, .none, .none, 0⟩), #[]⟩ ::
  kO P 67 ::
  kO P 68 ::
  kO P 69 ::
  kO P 70 ::
  kO P 71 ::
  kO P 72 ::
  kO P 73 ::
  ⟨(.type "super"), none, (.fields #[(.ref 71), (.ref 71), (.ref 71)]), #[]⟩ ::
  ⟨(.type "builtin_function_or_method"), none, (.fields #[(.builtin "object.__init_subclass__"), (.ref 71)]), #[]⟩ ::
  ⟨(.type "tuple"), none, (.seq #[] 0), #[]⟩ ::
  ⟨(.type "builtin_function_or_method"), none, (.fields #[(.builtin "type.__prepare__"), (.type "type")]), #[]⟩ ::
  ⟨(.type "dict"), none, (.dict #[⟨PyData.keyHash P (Str.ofString "__module__"), .str (Str.ofString "__module__") 290, (.str (Str.ofString "gateloom.tokens") 248)⟩, ⟨PyData.keyHash P (Str.ofString "__qualname__"), .str (Str.ofString "__qualname__") 292, (.str (Str.ofString "TokenRow") 291)⟩, ⟨PyData.keyHash P (Str.ofString "__firstlineno__"), .str (Str.ofString "__firstlineno__") 294, (.int 20 293)⟩, ⟨PyData.keyHash P (Str.ofString "__init__"), .str (Str.ofString "__init__") 302, (.ref 89)⟩, ⟨PyData.keyHash P (Str.ofString "next_token"), .str (Str.ofString "next_token") 310, (.ref 96)⟩, ⟨PyData.keyHash P (Str.ofString "__static_attributes__"), .str (Str.ofString "__static_attributes__") 314, (.ref 97)⟩] 6), #[]⟩ ::
  ⟨(.type "tuple"), none, (.seq #[] 0), #[]⟩ ::
  ⟨.none, none, (.fields #[(.int 22 0), (.int 4 0), (.ref 88), (.int 27 0), (.int 4 0), (.ref 95)]), #[]⟩ ::
  ⟨(.type "code"), none, (.fields (List.toArray ((.str (Str.ofString "TokenRow") 285) :: (.str (Str.ofString "TokenRow") 286) :: (.str (Str.ofString "/claim/cut.py") 287) :: (.int 20 0) :: (.int 0 0) :: (.int 0 0) :: (.int 0 0) :: (.int 0 0) :: (.ref 79) :: (.bool false) :: (.int 181 0) :: (.ref 80) :: .none :: .none :: .none :: .none :: (.int 288 0) :: (.int 20 0) :: (.str (Str.ofString "/claim/cut.py") 289) :: []))), #[]⟩ ::
  ⟨(.type "frame"), none, .plain, #[(some (.ref 81)), (some (.ref 3)), (some (.ref 78)), none, (some (.str (Str.ofString "gateloom.tokens") 248)), none, (some (.ref 0))]⟩ ::
  kO P 83 ::
  ⟨.none, none, (.fields #[]), #[]⟩ ::
  kO P 85 ::
  kO P 86 ::
  ⟨.none, none, (.func ⟨Str.ofString "__init__", Str.ofString "TokenRow.__init__", KP.fA (KP.nth (KP.cB (KP.nth KP.top 6)) 0), .stmts (KP.fB (KP.nth (KP.cB (KP.nth KP.top 6)) 0)), KP.fS (KP.nth (KP.cB (KP.nth KP.top 6)) 0), 0, [], .none, .none, .none, .none, none, .none, .none, 0⟩), #[]⟩ ::
  kO P 88 ::
  kO P 89 ::
  kO P 90 ::
  ⟨.none, none, (.fields #[]), #[]⟩ ::
  kO P 92 ::
  kO P 93 ::
  ⟨.none, none, (.func ⟨Str.ofString "next_token", Str.ofString "TokenRow.next_token", KP.fA (KP.nth (KP.cB (KP.nth KP.top 6)) 1), .stmts (KP.fB (KP.nth (KP.cB (KP.nth KP.top 6)) 1)), KP.fS (KP.nth (KP.cB (KP.nth KP.top 6)) 1), 0, [], .none, .none, .none, .none, none, .none, .none, 0⟩), #[]⟩ ::
  kO P 95 ::
  kO P 96 ::
  kO P 97 ::
  kO P 98 ::
  kO P 99 ::
  kO P 100 ::
  kO P 101 ::
  ⟨(.type "super"), none, (.fields #[(.ref 99), (.ref 99), (.ref 99)]), #[]⟩ ::
  ⟨(.type "builtin_function_or_method"), none, (.fields #[(.builtin "object.__init_subclass__"), (.ref 99)]), #[]⟩ ::
  ⟨(.type "tuple"), none, (.seq #[] 0), #[]⟩ ::
  ⟨(.type "builtin_function_or_method"), none, (.fields #[(.builtin "type.__prepare__"), (.type "type")]), #[]⟩ ::
  ⟨(.type "dict"), none, (.dict #[⟨PyData.keyHash P (Str.ofString "__module__"), .str (Str.ofString "__module__") 329, (.str (Str.ofString "gateloom.tokens") 248)⟩, ⟨PyData.keyHash P (Str.ofString "__qualname__"), .str (Str.ofString "__qualname__") 331, (.str (Str.ofString "Cursor") 330)⟩, ⟨PyData.keyHash P (Str.ofString "__firstlineno__"), .str (Str.ofString "__firstlineno__") 333, (.int 33 332)⟩, ⟨PyData.keyHash P (Str.ofString "__init__"), .str (Str.ofString "__init__") 341, (.ref 117)⟩, ⟨PyData.keyHash P (Str.ofString "fetch"), .str (Str.ofString "fetch") 349, (.ref 124)⟩, ⟨PyData.keyHash P (Str.ofString "peek"), .str (Str.ofString "peek") 358, (.ref 132)⟩, ⟨PyData.keyHash P (Str.ofString "take"), .str (Str.ofString "take") 366, (.ref 139)⟩, ⟨PyData.keyHash P (Str.ofString "is_op"), .str (Str.ofString "is_op") 374, (.ref 146)⟩, ⟨PyData.keyHash P (Str.ofString "is_key"), .str (Str.ofString "is_key") 382, (.ref 153)⟩, ⟨PyData.keyHash P (Str.ofString "accept_op"), .str (Str.ofString "accept_op") 390, (.ref 160)⟩, ⟨PyData.keyHash P (Str.ofString "accept_key"), .str (Str.ofString "accept_key") 398, (.ref 167)⟩, ⟨PyData.keyHash P (Str.ofString "expect_op"), .str (Str.ofString "expect_op") 406, (.ref 174)⟩, ⟨PyData.keyHash P (Str.ofString "expect_key"), .str (Str.ofString "expect_key") 414, (.ref 181)⟩, ⟨PyData.keyHash P (Str.ofString "expect_id"), .str (Str.ofString "expect_id") 421, (.ref 188)⟩, ⟨PyData.keyHash P (Str.ofString "fail"), .str (Str.ofString "fail") 431, (.ref 196)⟩, ⟨PyData.keyHash P (Str.ofString "__static_attributes__"), .str (Str.ofString "__static_attributes__") 437, (.ref 197)⟩] 16), #[]⟩ ::
  ⟨(.type "tuple"), none, (.seq #[] 0), #[]⟩ ::
  ⟨.none, none, (.fields (List.toArray ((.int 35 0) :: (.int 4 0) :: (.ref 116) :: (.int 42 0) :: (.int 4 0) :: (.ref 123) :: (.int 48 0) :: (.int 4 0) :: (.ref 131) :: (.int 51 0) :: (.int 4 0) :: (.ref 138) :: (.int 60 0) :: (.int 4 0) :: (.ref 145) :: (.int 63 0) :: (.int 4 0) :: (.ref 152) :: (.int 66 0) :: (.int 4 0) :: (.ref 159) :: (.int 72 0) :: (.int 4 0) :: (.ref 166) :: (.int 75 0) :: (.int 4 0) :: (.ref 173) :: (.int 79 0) :: (.int 4 0) :: (.ref 180) :: (.int 82 0) :: (.int 4 0) :: (.ref 187) :: (.int 87 0) :: (.int 4 0) :: (.ref 195) :: []))), #[]⟩ ::
  ⟨(.type "code"), none, (.fields (List.toArray ((.str (Str.ofString "Cursor") 324) :: (.str (Str.ofString "Cursor") 325) :: (.str (Str.ofString "/claim/cut.py") 326) :: (.int 33 0) :: (.int 0 0) :: (.int 0 0) :: (.int 0 0) :: (.int 0 0) :: (.ref 107) :: (.bool false) :: (.int 181 0) :: (.ref 108) :: .none :: .none :: .none :: .none :: (.int 327 0) :: (.int 33 0) :: (.str (Str.ofString "/claim/cut.py") 328) :: []))), #[]⟩ ::
  ⟨(.type "frame"), none, .plain, #[(some (.ref 109)), (some (.ref 3)), (some (.ref 106)), none, (some (.str (Str.ofString "gateloom.tokens") 248)), none, (some (.ref 0))]⟩ ::
  kO P 111 ::
  ⟨.none, none, (.fields #[]), #[]⟩ ::
  kO P 113 ::
  kO P 114 ::
  ⟨.none, none, (.func ⟨Str.ofString "__init__", Str.ofString "Cursor.__init__", KP.fA (KP.nth (KP.cB (KP.nth KP.top 7)) 0), .stmts (KP.fB (KP.nth (KP.cB (KP.nth KP.top 7)) 0)), KP.fS (KP.nth (KP.cB (KP.nth KP.top 7)) 0), 0, [], .none, .none, .none, .none, none, .none, .none, 0⟩), #[]⟩ ::
  kO P 116 ::
  kO P 117 ::
  kO P 118 ::
  ⟨.none, none, (.fields #[]), #[]⟩ ::
  kO P 120 ::
  kO P 121 ::
  ⟨.none, none, (.func ⟨Str.ofString "fetch", Str.ofString "Cursor.fetch", KP.fA (KP.nth (KP.cB (KP.nth KP.top 7)) 1), .stmts (KP.fB (KP.nth (KP.cB (KP.nth KP.top 7)) 1)), KP.fS (KP.nth (KP.cB (KP.nth KP.top 7)) 1), 0, [], .none, .none, .none, .none, none, .none, .none, 0⟩), #[]⟩ ::
  kO P 123 ::
  kO P 124 ::
  kO P 125 ::
  kO P 126 ::
  ⟨.none, none, (.fields #[]), #[]⟩ ::
  kO P 128 ::
  kO P 129 ::
  ⟨.none, none, (.func ⟨Str.ofString "peek", Str.ofString "Cursor.peek", KP.fA (KP.nth (KP.cB (KP.nth KP.top 7)) 2), .stmts (KP.fB (KP.nth (KP.cB (KP.nth KP.top 7)) 2)), KP.fS (KP.nth (KP.cB (KP.nth KP.top 7)) 2), 0, [], .none, .none, .none, .none, none, .none, .none, 0⟩), #[]⟩ ::
  kO P 131 ::
  kO P 132 ::
  kO P 133 ::
  ⟨.none, none, (.fields #[]), #[]⟩ ::
  kO P 135 ::
  kO P 136 ::
  ⟨.none, none, (.func ⟨Str.ofString "take", Str.ofString "Cursor.take", KP.fA (KP.nth (KP.cB (KP.nth KP.top 7)) 3), .stmts (KP.fB (KP.nth (KP.cB (KP.nth KP.top 7)) 3)), KP.fS (KP.nth (KP.cB (KP.nth KP.top 7)) 3), 0, [], .none, .none, .none, .none, none, .none, .none, 0⟩), #[]⟩ ::
  kO P 138 ::
  kO P 139 ::
  kO P 140 ::
  ⟨.none, none, (.fields #[]), #[]⟩ ::
  kO P 142 ::
  kO P 143 ::
  ⟨.none, none, (.func ⟨Str.ofString "is_op", Str.ofString "Cursor.is_op", KP.fA (KP.nth (KP.cB (KP.nth KP.top 7)) 4), .stmts (KP.fB (KP.nth (KP.cB (KP.nth KP.top 7)) 4)), KP.fS (KP.nth (KP.cB (KP.nth KP.top 7)) 4), 0, [], .none, .none, .none, .none, none, .none, .none, 0⟩), #[]⟩ ::
  kO P 145 ::
  kO P 146 ::
  kO P 147 ::
  ⟨.none, none, (.fields #[]), #[]⟩ ::
  kO P 149 ::
  kO P 150 ::
  ⟨.none, none, (.func ⟨Str.ofString "is_key", Str.ofString "Cursor.is_key", KP.fA (KP.nth (KP.cB (KP.nth KP.top 7)) 5), .stmts (KP.fB (KP.nth (KP.cB (KP.nth KP.top 7)) 5)), KP.fS (KP.nth (KP.cB (KP.nth KP.top 7)) 5), 0, [], .none, .none, .none, .none, none, .none, .none, 0⟩), #[]⟩ ::
  kO P 152 ::
  kO P 153 ::
  kO P 154 ::
  ⟨.none, none, (.fields #[]), #[]⟩ ::
  kO P 156 ::
  kO P 157 ::
  ⟨.none, none, (.func ⟨Str.ofString "accept_op", Str.ofString "Cursor.accept_op", KP.fA (KP.nth (KP.cB (KP.nth KP.top 7)) 6), .stmts (KP.fB (KP.nth (KP.cB (KP.nth KP.top 7)) 6)), KP.fS (KP.nth (KP.cB (KP.nth KP.top 7)) 6), 0, [], .none, .none, .none, .none, none, .none, .none, 0⟩), #[]⟩ ::
  kO P 159 ::
  kO P 160 ::
  kO P 161 ::
  ⟨.none, none, (.fields #[]), #[]⟩ ::
  kO P 163 ::
  kO P 164 ::
  ⟨.none, none, (.func ⟨Str.ofString "accept_key", Str.ofString "Cursor.accept_key", KP.fA (KP.nth (KP.cB (KP.nth KP.top 7)) 7), .stmts (KP.fB (KP.nth (KP.cB (KP.nth KP.top 7)) 7)), KP.fS (KP.nth (KP.cB (KP.nth KP.top 7)) 7), 0, [], .none, .none, .none, .none, none, .none, .none, 0⟩), #[]⟩ ::
  kO P 166 ::
  kO P 167 ::
  kO P 168 ::
  ⟨.none, none, (.fields #[]), #[]⟩ ::
  kO P 170 ::
  kO P 171 ::
  ⟨.none, none, (.func ⟨Str.ofString "expect_op", Str.ofString "Cursor.expect_op", KP.fA (KP.nth (KP.cB (KP.nth KP.top 7)) 8), .stmts (KP.fB (KP.nth (KP.cB (KP.nth KP.top 7)) 8)), KP.fS (KP.nth (KP.cB (KP.nth KP.top 7)) 8), 0, [], .none, .none, .none, .none, none, .none, .none, 0⟩), #[]⟩ ::
  kO P 173 ::
  kO P 174 ::
  kO P 175 ::
  ⟨.none, none, (.fields #[]), #[]⟩ ::
  kO P 177 ::
  kO P 178 ::
  ⟨.none, none, (.func ⟨Str.ofString "expect_key", Str.ofString "Cursor.expect_key", KP.fA (KP.nth (KP.cB (KP.nth KP.top 7)) 9), .stmts (KP.fB (KP.nth (KP.cB (KP.nth KP.top 7)) 9)), KP.fS (KP.nth (KP.cB (KP.nth KP.top 7)) 9), 0, [], .none, .none, .none, .none, none, .none, .none, 0⟩), #[]⟩ ::
  kO P 180 ::
  kO P 181 ::
  kO P 182 ::
  ⟨.none, none, (.fields #[]), #[]⟩ ::
  kO P 184 ::
  kO P 185 ::
  ⟨.none, none, (.func ⟨Str.ofString "expect_id", Str.ofString "Cursor.expect_id", KP.fA (KP.nth (KP.cB (KP.nth KP.top 7)) 10), .stmts (KP.fB (KP.nth (KP.cB (KP.nth KP.top 7)) 10)), KP.fS (KP.nth (KP.cB (KP.nth KP.top 7)) 10), 0, [], .none, .none, .none, .none, none, .none, .none, 0⟩), #[]⟩ ::
  kO P 187 ::
  kO P 188 ::
  kO P 189 ::
  kO P 190 ::
  ⟨.none, none, (.fields #[]), #[]⟩ ::
  kO P 192 ::
  kO P 193 ::
  ⟨.none, none, (.func ⟨Str.ofString "fail", Str.ofString "Cursor.fail", KP.fA (KP.nth (KP.cB (KP.nth KP.top 7)) 11), .stmts (KP.fB (KP.nth (KP.cB (KP.nth KP.top 7)) 11)), KP.fS (KP.nth (KP.cB (KP.nth KP.top 7)) 11), 0, [], .none, .none, .none, .none, none, .none, .none, 0⟩), #[]⟩ ::
  kO P 195 ::
  kO P 196 ::
  kO P 197 ::
  kO P 198 ::
  ⟨(.type "type"), none, (.cls ⟨Str.ofString "Cursor", [(.type "object")], [(.ref 199), (.type "object")], 198, Str.ofString "Cursor", true, [], [], false, none, false⟩), #[none, none, (some (.str (Str.ofString "Cursor") 322)), (some (.str (Str.ofString "Cursor") 330)), (some (.builtin "object.__new__")), (some (.bool true))]⟩ ::
  kO P 200 ::
  kO P 201 ::
  ⟨(.type "super"), none, (.fields #[(.ref 199), (.ref 199), (.ref 199)]), #[]⟩ ::
  ⟨(.type "builtin_function_or_method"), none, (.fields #[(.builtin "object.__init_subclass__"), (.ref 199)]), #[]⟩ ::
  kO P 204 ::
  ⟨.none, none, (.fields #[]), #[]⟩ ::
  kO P 206 ::
  kO P 207 ::
  ⟨.none, none, (.func ⟨Str.ofString "mask", Str.ofString "mask", KP.fA (KP.nth KP.top 9), .stmts (KP.fB (KP.nth KP.top 9)), KP.fS (KP.nth KP.top 9), 0, [], .none, .none, .none, .none, none, .none, .none, 0⟩), #[]⟩ ::
  kO P 209 ::
  kO P 210 ::
  kO P 211 ::
  kO P 212 ::
  ⟨.none, none, (.fields #[]), #[]⟩ ::
  kO P 214 ::
  kO P 215 ::
  ⟨.none, none, (.func ⟨Str.ofString "vec", Str.ofString "vec", KP.fA (KP.nth KP.top 10), .stmts (KP.fB (KP.nth KP.top 10)), KP.fS (KP.nth KP.top 10), 0, [], .none, .none, .none, .none, none, .none, .none, 0⟩), #[]⟩ ::
  kO P 217 ::
  kO P 218 ::
  kO P 219 ::
  ⟨.none, none, (.fields #[]), #[]⟩ ::
  kO P 221 ::
  kO P 222 ::
  ⟨.none, none, (.func ⟨Str.ofString "digit_bits", Str.ofString "digit_bits", KP.fA (KP.nth KP.top 14), .stmts (KP.fB (KP.nth KP.top 14)), KP.fS (KP.nth KP.top 14), 0, [], .none, .none, .none, .none, none, .none, .none, 0⟩), #[]⟩ ::
  kO P 224 ::
  kO P 225 ::
  kO P 226 ::
  ⟨.none, none, (.fields #[]), #[]⟩ ::
  kO P 228 ::
  kO P 229 ::
  ⟨.none, none, (.func ⟨Str.ofString "decimal_value", Str.ofString "decimal_value", KP.fA (KP.nth KP.top 15), .stmts (KP.fB (KP.nth KP.top 15)), KP.fS (KP.nth KP.top 15), 0, [], .none, .none, .none, .none, none, .none, .none, 0⟩), #[]⟩ ::
  kO P 231 ::
  kO P 232 ::
  kO P 233 ::
  ⟨.none, none, (.fields #[]), #[]⟩ ::
  kO P 235 ::
  kO P 236 ::
  ⟨.none, none, (.func ⟨Str.ofString "size_value", Str.ofString "size_value", KP.fA (KP.nth KP.top 16), .stmts (KP.fB (KP.nth KP.top 16)), KP.fS (KP.nth KP.top 16), 0, [], .none, .none, .none, .none, none, .none, .none, 0⟩), #[]⟩ ::
  kO P 238 ::
  kO P 239 ::
  kO P 240 ::
  ⟨.none, none, (.fields #[]), #[]⟩ ::
  kO P 242 ::
  kO P 243 ::
  ⟨.none, none, (.func ⟨Str.ofString "digit_pair", Str.ofString "digit_pair", KP.fA (KP.nth KP.top 17), .stmts (KP.fB (KP.nth KP.top 17)), KP.fS (KP.nth KP.top 17), 0, [], .none, .none, .none, .none, none, .none, .none, 0⟩), #[]⟩ ::
  kO P 245 ::
  kO P 246 ::
  kO P 247 ::
  ⟨.none, none, (.fields #[]), #[]⟩ ::
  kO P 249 ::
  kO P 250 ::
  ⟨.none, none, (.func ⟨Str.ofString "grouped", Str.ofString "grouped", KP.fA (KP.nth KP.top 18), .stmts (KP.fB (KP.nth KP.top 18)), KP.fS (KP.nth KP.top 18), 0, [], .none, .none, .none, .none, none, .none, .none, 0⟩), #[]⟩ ::
  kO P 252 ::
  kO P 253 ::
  kO P 254 ::
  ⟨.none, none, (.fields #[]), #[]⟩ ::
  kO P 256 ::
  kO P 257 ::
  ⟨.none, none, (.func ⟨Str.ofString "padded_vec", Str.ofString "padded_vec", KP.fA (KP.nth KP.top 19), .stmts (KP.fB (KP.nth KP.top 19)), KP.fS (KP.nth KP.top 19), 0, [], .none, .none, .none, .none, none, .none, .none, 0⟩), #[]⟩ ::
  kO P 259 ::
  kO P 260 ::
  kO P 261 ::
  ⟨.none, none, (.fields #[]), #[]⟩ ::
  kO P 263 ::
  kO P 264 ::
  ⟨.none, none, (.func ⟨Str.ofString "numeral", Str.ofString "numeral", KP.fA (KP.nth KP.top 20), .stmts (KP.fB (KP.nth KP.top 20)), KP.fS (KP.nth KP.top 20), 0, [], .none, .none, .none, .none, none, .none, .none, 0⟩), #[]⟩ ::
  kO P 266 ::
  kO P 267 ::
  kO P 268 ::
  ⟨.none, none, (.fields #[]), #[]⟩ ::
  kO P 270 ::
  kO P 271 ::
  ⟨.none, none, (.func ⟨Str.ofString "precedence", Str.ofString "precedence", KP.fA (KP.nth KP.top 24), .stmts (KP.fB (KP.nth KP.top 24)), KP.fS (KP.nth KP.top 24), 0, [], .none, .none, .none, .none, none, .none, .none, 0⟩), #[]⟩ ::
  kO P 273 ::
  kO P 274 ::
  kO P 275 ::
  ⟨.none, none, (.fields #[]), #[]⟩ ::
  kO P 277 ::
  kO P 278 ::
  ⟨.none, none, (.func ⟨Str.ofString "is_unary", Str.ofString "is_unary", KP.fA (KP.nth KP.top 25), .stmts (KP.fB (KP.nth KP.top 25)), KP.fS (KP.nth KP.top 25), 0, [], .none, .none, .none, .none, none, .none, .none, 0⟩), #[]⟩ ::
  kO P 280 ::
  kO P 281 ::
  kO P 282 ::
  ⟨.none, none, (.fields #[]), #[]⟩ ::
  kO P 284 ::
  kO P 285 ::
  ⟨.none, none, (.func ⟨Str.ofString "plain_operator", Str.ofString "plain_operator", KP.fA (KP.nth KP.top 26), .stmts (KP.fB (KP.nth KP.top 26)), KP.fS (KP.nth KP.top 26), 0, [], .none, .none, .none, .none, none, .none, .none, 0⟩), #[]⟩ ::
  kO P 287 ::
  kO P 288 ::
  kO P 289 ::
  ⟨.none, none, (.fields #[]), #[]⟩ ::
  ⟨.none, none, (.func ⟨Str.ofString "is_high", Str.ofString "is_high", KP.fA (KP.nth KP.top 27), .stmts (KP.fB (KP.nth KP.top 27)), KP.fS (KP.nth KP.top 27), 0, [], .none, .none, .none, .none, none, .none, .none, 0⟩), #[]⟩ ::
  kO P 292 ::
  kO P 293 ::
  []), {}⟩
noncomputable abbrev stS2 (w : World) (os : OsState) : Shared := ⟨hpS2 w.params, Array.mk [], boot_drawn, 582, os⟩
noncomputable def hpS3 (P : Params) : Heap := ⟨List.toArray (
  boot_o_0 P ::
  boot_o_1 P ::
  kO P 2 ::
  kO P 3 ::
  boot_o_4 P ::
  boot_o_5 P ::
  boot_o_6 P ::
  boot_o_7 P ::
  boot_o_8 P ::
  boot_o_9 P ::
  boot_o_10 P ::
  ⟨(.type "tuple"), none, (.seq #[] 0), #[]⟩ ::
  ⟨.none, none, (.fields (List.toArray ((.int 1 0) :: (.int 0 0) :: (.ref 20) :: (.int 5 0) :: (.int 0 0) :: (.ref 27) :: (.int 11 0) :: (.int 0 0) :: (.ref 48) :: (.int 14 0) :: (.int 0 0) :: (.ref 60) :: (.int 20 0) :: (.int 0 0) :: (.ref 81) :: (.int 33 0) :: (.int 0 0) :: (.ref 109) :: (.int 90 0) :: (.int 0 0) :: (.ref 209) :: (.int 92 0) :: (.int 0 0) :: (.ref 217) :: (.int 98 0) :: (.int 0 0) :: (.ref 224) :: (.int 104 0) :: (.int 0 0) :: (.ref 231) :: (.int 109 0) :: (.int 0 0) :: (.ref 238) :: (.int 114 0) :: (.int 0 0) :: (.ref 245) :: (.int 120 0) :: (.int 0 0) :: (.ref 252) :: (.int 130 0) :: (.int 0 0) :: (.ref 259) :: (.int 138 0) :: (.int 0 0) :: (.ref 266) :: (.int 164 0) :: (.int 0 0) :: (.ref 273) :: (.int 188 0) :: (.int 0 0) :: (.ref 280) :: (.int 190 0) :: (.int 0 0) :: (.ref 287) :: (.int 194 0) :: (.int 0 0) :: (.ref 292) :: (.int 201 0) :: (.int 0 0) :: (.ref 299) :: (.int 402 0) :: (.int 0 0) :: (.ref 477) :: []))), #[]⟩ ::
  ⟨(.type "code"), none, (.fields (List.toArray ((.str (Str.ofString "<module>") 182) :: (.str (Str.ofString "<module>") 183) :: (.str (Str.ofString "/claim/cut.py") 184) :: (.int 1 0) :: (.int 0 0) :: (.int 0 0) :: (.int 0 0) :: (.int 0 0) :: (.ref 11) :: (.bool false) :: (.int 181 0) :: (.ref 12) :: .none :: .none :: .none :: .none :: (.int 185 0) :: (.int 1 0) :: (.str (Str.ofString "/claim/cut.py") 186) :: []))), #[]⟩ ::
  ⟨(.type "frame"), none, .plain, #[(some (.ref 13)), (some (.ref 3)), (some (.ref 3)), none, (some (.str (Str.ofString "__main__") 164)), none, (some (.ref 0))]⟩ ::
  kO P 15 ::
  ⟨.none, none, (.fields #[]), #[]⟩ ::
  kO P 17 ::
  kO P 18 ::
  ⟨.none, none, (.func ⟨Str.ofString "_wall", Str.ofString "_wall", KP.fA (KP.nth KP.top 0), .stmts (KP.fB (KP.nth KP.top 0)), KP.fS (KP.nth KP.top 0), 0, [], .none, .none, .none, .none, none, .none, .none, 0⟩), #[]⟩ ::
  kO P 20 ::
  kO P 21 ::
  kO P 22 ::
  ⟨(.type "builtin_function_or_method"), none, (.fields #[(.builtin "type.__prepare__"), (.type "type")]), #[]⟩ ::
  ⟨(.type "dict"), none, (.dict #[⟨PyData.keyHash P (Str.ofString "__module__"), .str (Str.ofString "__module__") 203, (.str (Str.ofString "gateloom.errors") 194)⟩, ⟨PyData.keyHash P (Str.ofString "__qualname__"), .str (Str.ofString "__qualname__") 205, (.str (Str.ofString "GateloomError") 204)⟩, ⟨PyData.keyHash P (Str.ofString "__firstlineno__"), .str (Str.ofString "__firstlineno__") 207, (.int 5 206)⟩, ⟨PyData.keyHash P (Str.ofString "__init__"), .str (Str.ofString "__init__") 220, (.ref 36)⟩, ⟨PyData.keyHash P (Str.ofString "__static_attributes__"), .str (Str.ofString "__static_attributes__") 224, (.ref 37)⟩] 5), #[]⟩ ::
  ⟨(.type "tuple"), none, (.seq #[] 0), #[]⟩ ::
  ⟨.none, none, (.fields #[(.int 7 0), (.int 4 0), (.ref 35)]), #[]⟩ ::
  ⟨(.type "code"), none, (.fields (List.toArray ((.str (Str.ofString "GateloomError") 198) :: (.str (Str.ofString "GateloomError") 199) :: (.str (Str.ofString "/claim/cut.py") 200) :: (.int 5 0) :: (.int 0 0) :: (.int 0 0) :: (.int 0 0) :: (.int 0 0) :: (.ref 25) :: (.bool false) :: (.int 181 0) :: (.ref 26) :: .none :: .none :: .none :: .none :: (.int 201 0) :: (.int 5 0) :: (.str (Str.ofString "/claim/cut.py") 202) :: []))), #[]⟩ ::
  ⟨(.type "frame"), none, .plain, #[(some (.ref 27)), (some (.ref 3)), (some (.ref 24)), none, (some (.str (Str.ofString "gateloom.errors") 194)), none, (some (.ref 0))]⟩ ::
  kO P 29 ::
  kO P 30 ::
  ⟨.none, none, (.fields #[]), #[]⟩ ::
  kO P 32 ::
  kO P 33 ::
  ⟨.none, none, (.func ⟨Str.ofString "__init__", Str.ofString "GateloomError.__init__", KP.fA (KP.nth (KP.cB (KP.nth KP.top 2)) 0), .stmts (KP.fB (KP.nth (KP.cB (KP.nth KP.top 2)) 0)), KP.fS (KP.nth (KP.cB (KP.nth KP.top 2)) 0), 0, [], .none, .none, .none, .none, none, .none, .none, 0⟩), #[]⟩ ::
  kO P 35 ::
  kO P 36 ::
  kO P 37 ::
  kO P 38 ::
  kO P 39 ::
  kO P 40 ::
  ⟨(.type "super"), none, (.fields #[(.ref 39), (.ref 39), (.ref 39)]), #[]⟩ ::
  ⟨(.type "builtin_function_or_method"), none, (.fields #[(.builtin "object.__init_subclass__"), (.ref 39)]), #[]⟩ ::
  kO P 43 ::
  ⟨(.type "builtin_function_or_method"), none, (.fields #[(.builtin "type.__prepare__"), (.type "type")]), #[]⟩ ::
  ⟨(.type "dict"), none, (.dict #[⟨PyData.keyHash P (Str.ofString "__module__"), .str (Str.ofString "__module__") 239, (.str (Str.ofString "gateloom.errors") 194)⟩, ⟨PyData.keyHash P (Str.ofString "__qualname__"), .str (Str.ofString "__qualname__") 241, (.str (Str.ofString "SourceError") 240)⟩, ⟨PyData.keyHash P (Str.ofString "__firstlineno__"), .str (Str.ofString "__firstlineno__") 243, (.int 11 242)⟩, ⟨PyData.keyHash P (Str.ofString "__static_attributes__"), .str (Str.ofString "__static_attributes__") 244, (.ref 50)⟩] 4), #[]⟩ ::
  ⟨(.type "tuple"), none, (.seq #[] 0), #[]⟩ ::
  ⟨.none, none, (.fields #[]), #[]⟩ ::
  ⟨(.type "code"), none, (.fields (List.toArray ((.str (Str.ofString "SourceError") 234) :: (.str (Str.ofString "SourceError") 235) :: (.str (Str.ofString "/claim/cut.py") 236) :: (.int 11 0) :: (.int 0 0) :: (.int 0 0) :: (.int 0 0) :: (.int 0 0) :: (.ref 46) :: (.bool false) :: (.int 181 0) :: (.ref 47) :: .none :: .none :: .none :: .none :: (.int 237 0) :: (.int 11 0) :: (.str (Str.ofString "/claim/cut.py") 238) :: []))), #[]⟩ ::
  ⟨(.type "frame"), none, .plain, #[(some (.ref 48)), (some (.ref 3)), (some (.ref 45)), none, (some (.str (Str.ofString "gateloom.errors") 194)), none, (some (.ref 0))]⟩ ::
  kO P 50 ::
  kO P 51 ::
  kO P 52 ::
  ⟨(.type "super"), none, (.fields #[(.ref 52), (.ref 52), (.ref 52)]), #[]⟩ ::
  ⟨(.type "builtin_function_or_method"), none, (.fields #[(.builtin "object.__init_subclass__"), (.ref 52)]), #[]⟩ ::
  ⟨(.type "tuple"), none, (.seq #[] 0), #[]⟩ ::
  ⟨(.type "builtin_function_or_method"), none, (.fields #[(.builtin "type.__prepare__"), (.type "type")]), #[]⟩ ::
  ⟨(.type "dict"), none, (.dict #[⟨PyData.keyHash P (Str.ofString "__module__"), .str (Str.ofString "__module__") 257, (.str (Str.ofString "gateloom.tokens") 248)⟩, ⟨PyData.keyHash P (Str.ofString "__qualname__"), .str (Str.ofString "__qualname__") 259, (.str (Str.ofString "Token") 258)⟩, ⟨PyData.keyHash P (Str.ofString "__firstlineno__"), .str (Str.ofString "__firstlineno__") 261, (.int 14 260)⟩, ⟨PyData.keyHash P (Str.ofString "__init__"), .str (Str.ofString "__init__") 271, (.ref 68)⟩, ⟨PyData.keyHash P (Str.ofString "__static_attributes__"), .str (Str.ofString "__static_attributes__") 275, (.ref 69)⟩] 5), #[]⟩ ::
  ⟨(.type "tuple"), none, (.seq #[] 0), #[]⟩ ::
  ⟨.none, none, (.fields #[(.int 16 0), (.int 4 0), (.ref 67)]), #[]⟩ ::
  ⟨(.type "code"), none, (.fields (List.toArray ((.str (Str.ofString "Token") 252) :: (.str (Str.ofString "Token") 253) :: (.str (Str.ofString "/claim/cut.py") 254) :: (.int 14 0) :: (.int 0 0) :: (.int 0 0) :: (.int 0 0) :: (.int 0 0) :: (.ref 58) :: (.bool false) :: (.int 181 0) :: (.ref 59) :: .none :: .none :: .none :: .none :: (.int 255 0) :: (.int 14 0) :: (.str (Str.ofString "/claim/cut.py") 256) :: []))), #[]⟩ ::
  ⟨(.type "frame"), none, .plain, #[(some (.ref 60)), (some (.ref 3)), (some (.ref 57)), none, (some (.str (Str.ofString "gateloom.tokens") 248)), none, (some (.ref 0))]⟩ ::
  kO P 62 ::
  ⟨.none, none, (.fields #[]), #[]⟩ ::
  kO P 64 ::
  kO P 65 ::
  ⟨.none, none, (.func ⟨Str.ofString "__init__", Str.ofString "Token.__init__", KP.fA (KP.nth (KP.cB (KP.nth KP.top 5)) 0), .stmts (KP.fB (KP.nth (KP.cB (KP.nth KP.top 5)) 0)), KP.fS (KP.nth (KP.cB (KP.nth KP.top 5)) 0), 0, [], .none, .none, .none, .none, none, .none, .none, 0⟩), #[]⟩ ::
  kO P 67 ::
  kO P 68 ::
  kO P 69 ::
  kO P 70 ::
  kO P 71 ::
  kO P 72 ::
  kO P 73 ::
  ⟨(.type "super"), none, (.fields #[(.ref 71), (.ref 71), (.ref 71)]), #[]⟩ ::
  ⟨(.type "builtin_function_or_method"), none, (.fields #[(.builtin "object.__init_subclass__"), (.ref 71)]), #[]⟩ ::
  ⟨(.type "tuple"), none, (.seq #[] 0), #[]⟩ ::
  ⟨(.type "builtin_function_or_method"), none, (.fields #[(.builtin "type.__prepare__"), (.type "type")]), #[]⟩ ::
  ⟨(.type "dict"), none, (.dict #[⟨PyData.keyHash P (Str.ofString "__module__"), .str (Str.ofString "__module__") 290, (.str (Str.ofString "gateloom.tokens") 248)⟩, ⟨PyData.keyHash P (Str.ofString "__qualname__"), .str (Str.ofString "__qualname__") 292, (.str (Str.ofString "TokenRow") 291)⟩, ⟨PyData.keyHash P (Str.ofString "__firstlineno__"), .str (Str.ofString "__firstlineno__") 294, (.int 20 293)⟩, ⟨PyData.keyHash P (Str.ofString "__init__"), .str (Str.ofString "__init__") 302, (.ref 89)⟩, ⟨PyData.keyHash P (Str.ofString "next_token"), .str (Str.ofString "next_token") 310, (.ref 96)⟩, ⟨PyData.keyHash P (Str.ofString "__static_attributes__"), .str (Str.ofString "__static_attributes__") 314, (.ref 97)⟩] 6), #[]⟩ ::
  ⟨(.type "tuple"), none, (.seq #[] 0), #[]⟩ ::
  ⟨.none, none, (.fields #[(.int 22 0), (.int 4 0), (.ref 88), (.int 27 0), (.int 4 0), (.ref 95)]), #[]⟩ ::
  ⟨(.type "code"), none, (.fields (List.toArray ((.str (Str.ofString "TokenRow") 285) :: (.str (Str.ofString "TokenRow") 286) :: (.str (Str.ofString "/claim/cut.py") 287) :: (.int 20 0) :: (.int 0 0) :: (.int 0 0) :: (.int 0 0) :: (.int 0 0) :: (.ref 79) :: (.bool false) :: (.int 181 0) :: (.ref 80) :: .none :: .none :: .none :: .none :: (.int 288 0) :: (.int 20 0) :: (.str (Str.ofString "/claim/cut.py") 289) :: []))), #[]⟩ ::
  ⟨(.type "frame"), none, .plain, #[(some (.ref 81)), (some (.ref 3)), (some (.ref 78)), none, (some (.str (Str.ofString "gateloom.tokens") 248)), none, (some (.ref 0))]⟩ ::
  kO P 83 ::
  ⟨.none, none, (.fields #[]), #[]⟩ ::
  kO P 85 ::
  kO P 86 ::
  ⟨.none, none, (.func ⟨Str.ofString "__init__", Str.ofString "TokenRow.__init__", KP.fA (KP.nth (KP.cB (KP.nth KP.top 6)) 0), .stmts (KP.fB (KP.nth (KP.cB (KP.nth KP.top 6)) 0)), KP.fS (KP.nth (KP.cB (KP.nth KP.top 6)) 0), 0, [], .none, .none, .none, .none, none, .none, .none, 0⟩), #[]⟩ ::
  kO P 88 ::
  kO P 89 ::
  kO P 90 ::
  ⟨.none, none, (.fields #[]), #[]⟩ ::
  kO P 92 ::
  kO P 93 ::
  ⟨.none, none, (.func ⟨Str.ofString "next_token", Str.ofString "TokenRow.next_token", KP.fA (KP.nth (KP.cB (KP.nth KP.top 6)) 1), .stmts (KP.fB (KP.nth (KP.cB (KP.nth KP.top 6)) 1)), KP.fS (KP.nth (KP.cB (KP.nth KP.top 6)) 1), 0, [], .none, .none, .none, .none, none, .none, .none, 0⟩), #[]⟩ ::
  kO P 95 ::
  kO P 96 ::
  kO P 97 ::
  kO P 98 ::
  kO P 99 ::
  kO P 100 ::
  kO P 101 ::
  ⟨(.type "super"), none, (.fields #[(.ref 99), (.ref 99), (.ref 99)]), #[]⟩ ::
  ⟨(.type "builtin_function_or_method"), none, (.fields #[(.builtin "object.__init_subclass__"), (.ref 99)]), #[]⟩ ::
  ⟨(.type "tuple"), none, (.seq #[] 0), #[]⟩ ::
  ⟨(.type "builtin_function_or_method"), none, (.fields #[(.builtin "type.__prepare__"), (.type "type")]), #[]⟩ ::
  ⟨(.type "dict"), none, (.dict #[⟨PyData.keyHash P (Str.ofString "__module__"), .str (Str.ofString "__module__") 329, (.str (Str.ofString "gateloom.tokens") 248)⟩, ⟨PyData.keyHash P (Str.ofString "__qualname__"), .str (Str.ofString "__qualname__") 331, (.str (Str.ofString "Cursor") 330)⟩, ⟨PyData.keyHash P (Str.ofString "__firstlineno__"), .str (Str.ofString "__firstlineno__") 333, (.int 33 332)⟩, ⟨PyData.keyHash P (Str.ofString "__init__"), .str (Str.ofString "__init__") 341, (.ref 117)⟩, ⟨PyData.keyHash P (Str.ofString "fetch"), .str (Str.ofString "fetch") 349, (.ref 124)⟩, ⟨PyData.keyHash P (Str.ofString "peek"), .str (Str.ofString "peek") 358, (.ref 132)⟩, ⟨PyData.keyHash P (Str.ofString "take"), .str (Str.ofString "take") 366, (.ref 139)⟩, ⟨PyData.keyHash P (Str.ofString "is_op"), .str (Str.ofString "is_op") 374, (.ref 146)⟩, ⟨PyData.keyHash P (Str.ofString "is_key"), .str (Str.ofString "is_key") 382, (.ref 153)⟩, ⟨PyData.keyHash P (Str.ofString "accept_op"), .str (Str.ofString "accept_op") 390, (.ref 160)⟩, ⟨PyData.keyHash P (Str.ofString "accept_key"), .str (Str.ofString "accept_key") 398, (.ref 167)⟩, ⟨PyData.keyHash P (Str.ofString "expect_op"), .str (Str.ofString "expect_op") 406, (.ref 174)⟩, ⟨PyData.keyHash P (Str.ofString "expect_key"), .str (Str.ofString "expect_key") 414, (.ref 181)⟩, ⟨PyData.keyHash P (Str.ofString "expect_id"), .str (Str.ofString "expect_id") 421, (.ref 188)⟩, ⟨PyData.keyHash P (Str.ofString "fail"), .str (Str.ofString "fail") 431, (.ref 196)⟩, ⟨PyData.keyHash P (Str.ofString "__static_attributes__"), .str (Str.ofString "__static_attributes__") 437, (.ref 197)⟩] 16), #[]⟩ ::
  ⟨(.type "tuple"), none, (.seq #[] 0), #[]⟩ ::
  ⟨.none, none, (.fields (List.toArray ((.int 35 0) :: (.int 4 0) :: (.ref 116) :: (.int 42 0) :: (.int 4 0) :: (.ref 123) :: (.int 48 0) :: (.int 4 0) :: (.ref 131) :: (.int 51 0) :: (.int 4 0) :: (.ref 138) :: (.int 60 0) :: (.int 4 0) :: (.ref 145) :: (.int 63 0) :: (.int 4 0) :: (.ref 152) :: (.int 66 0) :: (.int 4 0) :: (.ref 159) :: (.int 72 0) :: (.int 4 0) :: (.ref 166) :: (.int 75 0) :: (.int 4 0) :: (.ref 173) :: (.int 79 0) :: (.int 4 0) :: (.ref 180) :: (.int 82 0) :: (.int 4 0) :: (.ref 187) :: (.int 87 0) :: (.int 4 0) :: (.ref 195) :: []))), #[]⟩ ::
  ⟨(.type "code"), none, (.fields (List.toArray ((.str (Str.ofString "Cursor") 324) :: (.str (Str.ofString "Cursor") 325) :: (.str (Str.ofString "/claim/cut.py") 326) :: (.int 33 0) :: (.int 0 0) :: (.int 0 0) :: (.int 0 0) :: (.int 0 0) :: (.ref 107) :: (.bool false) :: (.int 181 0) :: (.ref 108) :: .none :: .none :: .none :: .none :: (.int 327 0) :: (.int 33 0) :: (.str (Str.ofString "/claim/cut.py") 328) :: []))), #[]⟩ ::
  ⟨(.type "frame"), none, .plain, #[(some (.ref 109)), (some (.ref 3)), (some (.ref 106)), none, (some (.str (Str.ofString "gateloom.tokens") 248)), none, (some (.ref 0))]⟩ ::
  kO P 111 ::
  ⟨.none, none, (.fields #[]), #[]⟩ ::
  kO P 113 ::
  kO P 114 ::
  ⟨.none, none, (.func ⟨Str.ofString "__init__", Str.ofString "Cursor.__init__", KP.fA (KP.nth (KP.cB (KP.nth KP.top 7)) 0), .stmts (KP.fB (KP.nth (KP.cB (KP.nth KP.top 7)) 0)), KP.fS (KP.nth (KP.cB (KP.nth KP.top 7)) 0), 0, [], .none, .none, .none, .none, none, .none, .none, 0⟩), #[]⟩ ::
  kO P 116 ::
  kO P 117 ::
  kO P 118 ::
  ⟨.none, none, (.fields #[]), #[]⟩ ::
  kO P 120 ::
  kO P 121 ::
  ⟨.none, none, (.func ⟨Str.ofString "fetch", Str.ofString "Cursor.fetch", KP.fA (KP.nth (KP.cB (KP.nth KP.top 7)) 1), .stmts (KP.fB (KP.nth (KP.cB (KP.nth KP.top 7)) 1)), KP.fS (KP.nth (KP.cB (KP.nth KP.top 7)) 1), 0, [], .none, .none, .none, .none, none, .none, .none, 0⟩), #[]⟩ ::
  kO P 123 ::
  kO P 124 ::
  kO P 125 ::
  kO P 126 ::
  ⟨.none, none, (.fields #[]), #[]⟩ ::
  kO P 128 ::
  kO P 129 ::
  ⟨.none, none, (.func ⟨Str.ofString "peek", Str.ofString "Cursor.peek", KP.fA (KP.nth (KP.cB (KP.nth KP.top 7)) 2), .stmts (KP.fB (KP.nth (KP.cB (KP.nth KP.top 7)) 2)), KP.fS (KP.nth (KP.cB (KP.nth KP.top 7)) 2), 0, [], .none, .none, .none, .none, none, .none, .none, 0⟩), #[]⟩ ::
  kO P 131 ::
  kO P 132 ::
  kO P 133 ::
  ⟨.none, none, (.fields #[]), #[]⟩ ::
  kO P 135 ::
  kO P 136 ::
  ⟨.none, none, (.func ⟨Str.ofString "take", Str.ofString "Cursor.take", KP.fA (KP.nth (KP.cB (KP.nth KP.top 7)) 3), .stmts (KP.fB (KP.nth (KP.cB (KP.nth KP.top 7)) 3)), KP.fS (KP.nth (KP.cB (KP.nth KP.top 7)) 3), 0, [], .none, .none, .none, .none, none, .none, .none, 0⟩), #[]⟩ ::
  kO P 138 ::
  kO P 139 ::
  kO P 140 ::
  ⟨.none, none, (.fields #[]), #[]⟩ ::
  kO P 142 ::
  kO P 143 ::
  ⟨.none, none, (.func ⟨Str.ofString "is_op", Str.ofString "Cursor.is_op", KP.fA (KP.nth (KP.cB (KP.nth KP.top 7)) 4), .stmts (KP.fB (KP.nth (KP.cB (KP.nth KP.top 7)) 4)), KP.fS (KP.nth (KP.cB (KP.nth KP.top 7)) 4), 0, [], .none, .none, .none, .none, none, .none, .none, 0⟩), #[]⟩ ::
  kO P 145 ::
  kO P 146 ::
  kO P 147 ::
  ⟨.none, none, (.fields #[]), #[]⟩ ::
  kO P 149 ::
  kO P 150 ::
  ⟨.none, none, (.func ⟨Str.ofString "is_key", Str.ofString "Cursor.is_key", KP.fA (KP.nth (KP.cB (KP.nth KP.top 7)) 5), .stmts (KP.fB (KP.nth (KP.cB (KP.nth KP.top 7)) 5)), KP.fS (KP.nth (KP.cB (KP.nth KP.top 7)) 5), 0, [], .none, .none, .none, .none, none, .none, .none, 0⟩), #[]⟩ ::
  kO P 152 ::
  kO P 153 ::
  kO P 154 ::
  ⟨.none, none, (.fields #[]), #[]⟩ ::
  kO P 156 ::
  kO P 157 ::
  ⟨.none, none, (.func ⟨Str.ofString "accept_op", Str.ofString "Cursor.accept_op", KP.fA (KP.nth (KP.cB (KP.nth KP.top 7)) 6), .stmts (KP.fB (KP.nth (KP.cB (KP.nth KP.top 7)) 6)), KP.fS (KP.nth (KP.cB (KP.nth KP.top 7)) 6), 0, [], .none, .none, .none, .none, none, .none, .none, 0⟩), #[]⟩ ::
  kO P 159 ::
  kO P 160 ::
  kO P 161 ::
  ⟨.none, none, (.fields #[]), #[]⟩ ::
  kO P 163 ::
  kO P 164 ::
  ⟨.none, none, (.func ⟨Str.ofString "accept_key", Str.ofString "Cursor.accept_key", KP.fA (KP.nth (KP.cB (KP.nth KP.top 7)) 7), .stmts (KP.fB (KP.nth (KP.cB (KP.nth KP.top 7)) 7)), KP.fS (KP.nth (KP.cB (KP.nth KP.top 7)) 7), 0, [], .none, .none, .none, .none, none, .none, .none, 0⟩), #[]⟩ ::
  kO P 166 ::
  kO P 167 ::
  kO P 168 ::
  ⟨.none, none, (.fields #[]), #[]⟩ ::
  kO P 170 ::
  kO P 171 ::
  ⟨.none, none, (.func ⟨Str.ofString "expect_op", Str.ofString "Cursor.expect_op", KP.fA (KP.nth (KP.cB (KP.nth KP.top 7)) 8), .stmts (KP.fB (KP.nth (KP.cB (KP.nth KP.top 7)) 8)), KP.fS (KP.nth (KP.cB (KP.nth KP.top 7)) 8), 0, [], .none, .none, .none, .none, none, .none, .none, 0⟩), #[]⟩ ::
  kO P 173 ::
  kO P 174 ::
  kO P 175 ::
  ⟨.none, none, (.fields #[]), #[]⟩ ::
  kO P 177 ::
  kO P 178 ::
  ⟨.none, none, (.func ⟨Str.ofString "expect_key", Str.ofString "Cursor.expect_key", KP.fA (KP.nth (KP.cB (KP.nth KP.top 7)) 9), .stmts (KP.fB (KP.nth (KP.cB (KP.nth KP.top 7)) 9)), KP.fS (KP.nth (KP.cB (KP.nth KP.top 7)) 9), 0, [], .none, .none, .none, .none, none, .none, .none, 0⟩), #[]⟩ ::
  kO P 180 ::
  kO P 181 ::
  kO P 182 ::
  ⟨.none, none, (.fields #[]), #[]⟩ ::
  kO P 184 ::
  kO P 185 ::
  ⟨.none, none, (.func ⟨Str.ofString "expect_id", Str.ofString "Cursor.expect_id", KP.fA (KP.nth (KP.cB (KP.nth KP.top 7)) 10), .stmts (KP.fB (KP.nth (KP.cB (KP.nth KP.top 7)) 10)), KP.fS (KP.nth (KP.cB (KP.nth KP.top 7)) 10), 0, [], .none, .none, .none, .none, none, .none, .none, 0⟩), #[]⟩ ::
  kO P 187 ::
  kO P 188 ::
  kO P 189 ::
  kO P 190 ::
  ⟨.none, none, (.fields #[]), #[]⟩ ::
  kO P 192 ::
  kO P 193 ::
  ⟨.none, none, (.func ⟨Str.ofString "fail", Str.ofString "Cursor.fail", KP.fA (KP.nth (KP.cB (KP.nth KP.top 7)) 11), .stmts (KP.fB (KP.nth (KP.cB (KP.nth KP.top 7)) 11)), KP.fS (KP.nth (KP.cB (KP.nth KP.top 7)) 11), 0, [], .none, .none, .none, .none, none, .none, .none, 0⟩), #[]⟩ ::
  kO P 195 ::
  kO P 196 ::
  kO P 197 ::
  kO P 198 ::
  kO P 199 ::
  kO P 200 ::
  kO P 201 ::
  ⟨(.type "super"), none, (.fields #[(.ref 199), (.ref 199), (.ref 199)]), #[]⟩ ::
  ⟨(.type "builtin_function_or_method"), none, (.fields #[(.builtin "object.__init_subclass__"), (.ref 199)]), #[]⟩ ::
  kO P 204 ::
  ⟨.none, none, (.fields #[]), #[]⟩ ::
  kO P 206 ::
  kO P 207 ::
  ⟨.none, none, (.func ⟨Str.ofString "mask", Str.ofString "mask", KP.fA (KP.nth KP.top 9), .stmts (KP.fB (KP.nth KP.top 9)), KP.fS (KP.nth KP.top 9), 0, [], .none, .none, .none, .none, none, .none, .none, 0⟩), #[]⟩ ::
  kO P 209 ::
  kO P 210 ::
  kO P 211 ::
  kO P 212 ::
  ⟨.none, none, (.fields #[]), #[]⟩ ::
  kO P 214 ::
  kO P 215 ::
  ⟨.none, none, (.func ⟨Str.ofString "vec", Str.ofString "vec", KP.fA (KP.nth KP.top 10), .stmts (KP.fB (KP.nth KP.top 10)), KP.fS (KP.nth KP.top 10), 0, [], .none, .none, .none, .none, none, .none, .none, 0⟩), #[]⟩ ::
  kO P 217 ::
  kO P 218 ::
  kO P 219 ::
  ⟨.none, none, (.fields #[]), #[]⟩ ::
  kO P 221 ::
  kO P 222 ::
  ⟨.none, none, (.func ⟨Str.ofString "digit_bits", Str.ofString "digit_bits", KP.fA (KP.nth KP.top 14), .stmts (KP.fB (KP.nth KP.top 14)), KP.fS (KP.nth KP.top 14), 0, [], .none, .none, .none, .none, none, .none, .none, 0⟩), #[]⟩ ::
  kO P 224 ::
  kO P 225 ::
  kO P 226 ::
  ⟨.none, none, (.fields #[]), #[]⟩ ::
  kO P 228 ::
  kO P 229 ::
  ⟨.none, none, (.func ⟨Str.ofString "decimal_value", Str.ofString "decimal_value", KP.fA (KP.nth KP.top 15), .stmts (KP.fB (KP.nth KP.top 15)), KP.fS (KP.nth KP.top 15), 0, [], .none, .none, .none, .none, none, .none, .none, 0⟩), #[]⟩ ::
  kO P 231 ::
  kO P 232 ::
  kO P 233 ::
  ⟨.none, none, (.fields #[]), #[]⟩ ::
  kO P 235 ::
  kO P 236 ::
  ⟨.none, none, (.func ⟨Str.ofString "size_value", Str.ofString "size_value", KP.fA (KP.nth KP.top 16), .stmts (KP.fB (KP.nth KP.top 16)), KP.fS (KP.nth KP.top 16), 0, [], .none, .none, .none, .none, none, .none, .none, 0⟩), #[]⟩ ::
  kO P 238 ::
  kO P 239 ::
  kO P 240 ::
  ⟨.none, none, (.fields #[]), #[]⟩ ::
  kO P 242 ::
  kO P 243 ::
  ⟨.none, none, (.func ⟨Str.ofString "digit_pair", Str.ofString "digit_pair", KP.fA (KP.nth KP.top 17), .stmts (KP.fB (KP.nth KP.top 17)), KP.fS (KP.nth KP.top 17), 0, [], .none, .none, .none, .none, none, .none, .none, 0⟩), #[]⟩ ::
  kO P 245 ::
  kO P 246 ::
  kO P 247 ::
  ⟨.none, none, (.fields #[]), #[]⟩ ::
  kO P 249 ::
  kO P 250 ::
  ⟨.none, none, (.func ⟨Str.ofString "grouped", Str.ofString "grouped", KP.fA (KP.nth KP.top 18), .stmts (KP.fB (KP.nth KP.top 18)), KP.fS (KP.nth KP.top 18), 0, [], .none, .none, .none, .none, none, .none, .none, 0⟩), #[]⟩ ::
  kO P 252 ::
  kO P 253 ::
  kO P 254 ::
  ⟨.none, none, (.fields #[]), #[]⟩ ::
  kO P 256 ::
  kO P 257 ::
  ⟨.none, none, (.func ⟨Str.ofString "padded_vec", Str.ofString "padded_vec", KP.fA (KP.nth KP.top 19), .stmts (KP.fB (KP.nth KP.top 19)), KP.fS (KP.nth KP.top 19), 0, [], .none, .none, .none, .none, none, .none, .none, 0⟩), #[]⟩ ::
  kO P 259 ::
  kO P 260 ::
  kO P 261 ::
  ⟨.none, none, (.fields #[]), #[]⟩ ::
  kO P 263 ::
  kO P 264 ::
  ⟨.none, none, (.func ⟨Str.ofString "numeral", Str.ofString "numeral", KP.fA (KP.nth KP.top 20), .stmts (KP.fB (KP.nth KP.top 20)), KP.fS (KP.nth KP.top 20), 0, [], .none, .none, .none, .none, none, .none, .none, 0⟩), #[]⟩ ::
  kO P 266 ::
  kO P 267 ::
  kO P 268 ::
  ⟨.none, none, (.fields #[]), #[]⟩ ::
  kO P 270 ::
  kO P 271 ::
  ⟨.none, none, (.func ⟨Str.ofString "precedence", Str.ofString "precedence", KP.fA (KP.nth KP.top 24), .stmts (KP.fB (KP.nth KP.top 24)), KP.fS (KP.nth KP.top 24), 0, [], .none, .none, .none, .none, none, .none, .none, 0⟩), #[]⟩ ::
  kO P 273 ::
  kO P 274 ::
  kO P 275 ::
  ⟨.none, none, (.fields #[]), #[]⟩ ::
  kO P 277 ::
  kO P 278 ::
  ⟨.none, none, (.func ⟨Str.ofString "is_unary", Str.ofString "is_unary", KP.fA (KP.nth KP.top 25), .stmts (KP.fB (KP.nth KP.top 25)), KP.fS (KP.nth KP.top 25), 0, [], .none, .none, .none, .none, none, .none, .none, 0⟩), #[]⟩ ::
  kO P 280 ::
  kO P 281 ::
  kO P 282 ::
  ⟨.none, none, (.fields #[]), #[]⟩ ::
  kO P 284 ::
  kO P 285 ::
  ⟨.none, none, (.func ⟨Str.ofString "plain_operator", Str.ofString "plain_operator", KP.fA (KP.nth KP.top 26), .stmts (KP.fB (KP.nth KP.top 26)), KP.fS (KP.nth KP.top 26), 0, [], .none, .none, .none, .none, none, .none, .none, 0⟩), #[]⟩ ::
  kO P 287 ::
  kO P 288 ::
  kO P 289 ::
  ⟨.none, none, (.fields #[]), #[]⟩ ::
  ⟨.none, none, (.func ⟨Str.ofString "is_high", Str.ofString "is_high", KP.fA (KP.nth KP.top 27), .stmts (KP.fB (KP.nth KP.top 27)), KP.fS (KP.nth KP.top 27), 0, [], .none, .none, .none, .none, none, .none, .none, 0⟩), #[]⟩ ::
  kO P 292 ::
  kO P 293 ::
  kO P 294 ::
  ⟨(.type "builtin_function_or_method"), none, (.fields #[(.builtin "type.__prepare__"), (.type "type")]), #[]⟩ ::
  ⟨(.type "dict"), none, (.dict (List.toArray (⟨PyData.keyHash P (Str.ofString "__module__"), .str (Str.ofString "__module__") 589, (.str (Str.ofString "gateloom.exprparse") 549)⟩ :: ⟨PyData.keyHash P (Str.ofString "__qualname__"), .str (Str.ofString "__qualname__") 591, (.str (Str.ofString "ExprParser") 590)⟩ :: ⟨PyData.keyHash P (Str.ofString "__firstlineno__"), .str (Str.ofString "__firstlineno__") 593, (.int 201 592)⟩ :: ⟨PyData.keyHash P (Str.ofString "__init__"), .str (Str.ofString "__init__") 601, (.ref 307)⟩ :: ⟨PyData.keyHash P (Str.ofString "enter"), .str (Str.ofString "enter") 608, (.ref 314)⟩ :: ⟨PyData.keyHash P (Str.ofString "leave"), .str (Str.ofString "leave") 615, (.ref 321)⟩ :: ⟨PyData.keyHash P (Str.ofString "expression"), .str (Str.ofString "expression") 624, (.ref 328)⟩ :: ⟨PyData.keyHash P (Str.ofString "inner_expression"), .str (Str.ofString "inner_expression") 636, (.ref 335)⟩ :: ⟨PyData.keyHash P (Str.ofString "binary"), .str (Str.ofString "binary") 648, (.ref 342)⟩ :: ⟨PyData.keyHash P (Str.ofString "unary"), .str (Str.ofString "unary") 659, (.ref 349)⟩ :: ⟨PyData.keyHash P (Str.ofString "primary"), .str (Str.ofString "primary") 674, (.ref 356)⟩ :: ⟨PyData.keyHash P (Str.ofString "named_primary"), .str (Str.ofString "named_primary") 682, (.ref 363)⟩ :: ⟨PyData.keyHash P (Str.ofString "braces"), .str (Str.ofString "braces") 692, (.ref 370)⟩ :: ⟨PyData.keyHash P (Str.ofString "expression_list"), .str (Str.ofString "expression_list") 700, (.ref 377)⟩ :: ⟨PyData.keyHash P (Str.ofString "arguments"), .str (Str.ofString "arguments") 708, (.ref 384)⟩ :: ⟨PyData.keyHash P (Str.ofString "mintypmax"), .str (Str.ofString "mintypmax") 717, (.ref 391)⟩ :: ⟨PyData.keyHash P (Str.ofString "reference"), .str (Str.ofString "reference") 728, (.ref 398)⟩ :: ⟨PyData.keyHash P (Str.ofString "path_term"), .str (Str.ofString "path_term") 737, (.ref 405)⟩ :: ⟨PyData.keyHash P (Str.ofString "selects"), .str (Str.ofString "selects") 745, (.ref 412)⟩ :: ⟨PyData.keyHash P (Str.ofString "bracket"), .str (Str.ofString "bracket") 755, (.ref 419)⟩ :: ⟨PyData.keyHash P (Str.ofString "with_select"), .str (Str.ofString "with_select") 764, (.ref 426)⟩ :: ⟨PyData.keyHash P (Str.ofString "lvalue"), .str (Str.ofString "lvalue") 771, (.ref 433)⟩ :: ⟨PyData.keyHash P (Str.ofString "name_path"), .str (Str.ofString "name_path") 778, (.ref 440)⟩ :: ⟨PyData.keyHash P (Str.ofString "range_or_none"), .str (Str.ofString "range_or_none") 785, (.ref 447)⟩ :: ⟨PyData.keyHash P (Str.ofString "delay_value"), .str (Str.ofString "delay_value") 792, (.ref 454)⟩ :: ⟨PyData.keyHash P (Str.ofString "delay"), .str (Str.ofString "delay") 799, (.ref 461)⟩ :: ⟨PyData.keyHash P (Str.ofString "delays"), .str (Str.ofString "delays") 806, (.ref 468)⟩ :: ⟨PyData.keyHash P (Str.ofString "__static_attributes__"), .str (Str.ofString "__static_attributes__") 810, (.ref 469)⟩ :: [])) 28), #[]⟩ ::
  ⟨(.type "tuple"), none, (.seq #[] 0), #[]⟩ ::
  ⟨.none, none, (.fields (List.toArray ((.int 203 0) :: (.int 4 0) :: (.ref 306) :: (.int 209 0) :: (.int 4 0) :: (.ref 313) :: (.int 214 0) :: (.int 4 0) :: (.ref 320) :: (.int 217 0) :: (.int 4 0) :: (.ref 327) :: (.int 228 0) :: (.int 4 0) :: (.ref 334) :: (.int 244 0) :: (.int 4 0) :: (.ref 341) :: (.int 255 0) :: (.int 4 0) :: (.ref 348) :: (.int 265 0) :: (.int 4 0) :: (.ref 355) :: (.int 292 0) :: (.int 4 0) :: (.ref 362) :: (.int 298 0) :: (.int 4 0) :: (.ref 369) :: (.int 313 0) :: (.int 4 0) :: (.ref 376) :: (.int 319 0) :: (.int 4 0) :: (.ref 383) :: (.int 327 0) :: (.int 4 0) :: (.ref 390) :: (.int 336 0) :: (.int 4 0) :: (.ref 397) :: (.int 351 0) :: (.int 4 0) :: (.ref 404) :: (.int 356 0) :: (.int 4 0) :: (.ref 411) :: (.int 363 0) :: (.int 4 0) :: (.ref 418) :: (.int 379 0) :: (.int 4 0) :: (.ref 425) :: (.int 384 0) :: (.int 4 0) :: (.ref 432) :: (.int 387 0) :: (.int 4 0) :: (.ref 439) :: (.int 390 0) :: (.int 4 0) :: (.ref 446) :: (.int 393 0) :: (.int 4 0) :: (.ref 453) :: (.int 396 0) :: (.int 4 0) :: (.ref 460) :: (.int 399 0) :: (.int 4 0) :: (.ref 467) :: []))), #[]⟩ ::
  ⟨(.type "code"), none, (.fields (List.toArray ((.str (Str.ofString "ExprParser") 584) :: (.str (Str.ofString "ExprParser") 585) :: (.str (Str.ofString "/claim/cut.py") 586) :: (.int 201 0) :: (.int 0 0) :: (.int 0 0) :: (.int 0 0) :: (.int 0 0) :: (.ref 297) :: (.bool false) :: (.int 181 0) :: (.ref 298) :: .none :: .none :: .none :: .none :: (.int 587 0) :: (.int 201 0) :: (.str (Str.ofString "/claim/cut.py") 588) :: []))), #[]⟩ ::
  ⟨(.type "frame"), none, .plain, #[(some (.ref 299)), (some (.ref 3)), (some (.ref 296)), none, (some (.str (Str.ofString "gateloom.exprparse") 549)), none, (some (.ref 0))]⟩ ::
  kO P 301 ::
  ⟨.none, none, (.fields #[]), #[]⟩ ::
  kO P 303 ::
  kO P 304 ::
  ⟨.none, none, (.func ⟨Str.ofString "__init__", Str.ofString "ExprParser.__init__", KP.fA (KP.nth (KP.cB (KP.nth KP.top 28)) 0), .stmts (KP.fB (KP.nth (KP.cB (KP.nth KP.top 28)) 0)), KP.fS (KP.nth (KP.cB (KP.nth KP.top 28)) 0), 0, [], .none, .none, .none, .none, none, .none, .none, 0⟩), #[]⟩ ::
  kO P 306 ::
  kO P 307 ::
  kO P 308 ::
  ⟨.none, none, (.fields #[]), #[]⟩ ::
  kO P 310 ::
  kO P 311 ::
  ⟨.none, none, (.func ⟨Str.ofString "enter", Str.ofString "ExprParser.enter", KP.fA (KP.nth (KP.cB (KP.nth KP.top 28)) 1), .stmts (KP.fB (KP.nth (KP.cB (KP.nth KP.top 28)) 1)), KP.fS (KP.nth (KP.cB (KP.nth KP.top 28)) 1), 0, [], .none, .none, .none, .none, none, .none, .none, 0⟩), #[]⟩ ::
  kO P 313 ::
  kO P 314 ::
  kO P 315 ::
  ⟨.none, none, (.fields #[]), #[]⟩ ::
  kO P 317 ::
  kO P 318 ::
  ⟨.none, none, (.func ⟨Str.ofString "leave", Str.ofString "ExprParser.leave", KP.fA (KP.nth (KP.cB (KP.nth KP.top 28)) 2), .stmts (KP.fB (KP.nth (KP.cB (KP.nth KP.top 28)) 2)), KP.fS (KP.nth (KP.cB (KP.nth KP.top 28)) 2), 0, [], .none, .none, .none, .none, none, .none, .none, 0⟩), #[]⟩ ::
  kO P 320 ::
  kO P 321 ::
  kO P 322 ::
  ⟨.none, none, (.fields #[]), #[]⟩ ::
  kO P 324 ::
  kO P 325 ::
  ⟨.none, none, (.func ⟨Str.ofString "expression", Str.ofString "ExprParser.expression", KP.fA (KP.nth (KP.cB (KP.nth KP.top 28)) 3), .stmts (KP.fB (KP.nth (KP.cB (KP.nth KP.top 28)) 3)), KP.fS (KP.nth (KP.cB (KP.nth KP.top 28)) 3), 0, [], .none, .none, .none, .none, none, .none, .none, 0⟩), #[]⟩ ::
  kO P 327 ::
  kO P 328 ::
  kO P 329 ::
  ⟨.none, none, (.fields #[]), #[]⟩ ::
  kO P 331 ::
  kO P 332 ::
  ⟨.none, none, (.func ⟨Str.ofString "inner_expression", Str.ofString "ExprParser.inner_expression", KP.fA (KP.nth (KP.cB (KP.nth KP.top 28)) 4), .stmts (KP.fB (KP.nth (KP.cB (KP.nth KP.top 28)) 4)), KP.fS (KP.nth (KP.cB (KP.nth KP.top 28)) 4), 0, [], .none, .none, .none, .none, none, .none, .none, 0⟩), #[]⟩ ::
  kO P 334 ::
  kO P 335 ::
  kO P 336 ::
  ⟨.none, none, (.fields #[]), #[]⟩ ::
  kO P 338 ::
  kO P 339 ::
  ⟨.none, none, (.func ⟨Str.ofString "binary", Str.ofString "ExprParser.binary", KP.fA (KP.nth (KP.cB (KP.nth KP.top 28)) 5), .stmts (KP.fB (KP.nth (KP.cB (KP.nth KP.top 28)) 5)), KP.fS (KP.nth (KP.cB (KP.nth KP.top 28)) 5), 0, [], .none, .none, .none, .none, none, .none, .none, 0⟩), #[]⟩ ::
  kO P 341 ::
  kO P 342 ::
  kO P 343 ::
  ⟨.none, none, (.fields #[]), #[]⟩ ::
  kO P 345 ::
  kO P 346 ::
  ⟨.none, none, (.func ⟨Str.ofString "unary", Str.ofString "ExprParser.unary", KP.fA (KP.nth (KP.cB (KP.nth KP.top 28)) 6), .stmts (KP.fB (KP.nth (KP.cB (KP.nth KP.top 28)) 6)), KP.fS (KP.nth (KP.cB (KP.nth KP.top 28)) 6), 0, [], .none, .none, .none, .none, none, .none, .none, 0⟩), #[]⟩ ::
  kO P 348 ::
  kO P 349 ::
  kO P 350 ::
  ⟨.none, none, (.fields #[]), #[]⟩ ::
  kO P 352 ::
  kO P 353 ::
  ⟨.none, none, (.func ⟨Str.ofString "primary", Str.ofString "ExprParser.primary", KP.fA (KP.nth (KP.cB (KP.nth KP.top 28)) 7), .stmts (KP.fB (KP.nth (KP.cB (KP.nth KP.top 28)) 7)), KP.fS (KP.nth (KP.cB (KP.nth KP.top 28)) 7), 0, [], .none, .none, .none, .none, none, .none, .none, 0⟩), #[]⟩ ::
  kO P 355 ::
  kO P 356 ::
  kO P 357 ::
  ⟨.none, none, (.fields #[]), #[]⟩ ::
  kO P 359 ::
  kO P 360 ::
  ⟨.none, none, (.func ⟨Str.ofString "named_primary", Str.ofString "ExprParser.named_primary", KP.fA (KP.nth (KP.cB (KP.nth KP.top 28)) 8), .stmts (KP.fB (KP.nth (KP.cB (KP.nth KP.top 28)) 8)), KP.fS (KP.nth (KP.cB (KP.nth KP.top 28)) 8), 0, [], .none, .none, .none, .none, none, .none, .none, 0⟩), #[]⟩ ::
  kO P 362 ::
  kO P 363 ::
  kO P 364 ::
  ⟨.none, none, (.fields #[]), #[]⟩ ::
  kO P 366 ::
  kO P 367 ::
  ⟨.none, none, (.func ⟨Str.ofString "braces", Str.ofString "ExprParser.braces", KP.fA (KP.nth (KP.cB (KP.nth KP.top 28)) 9), .stmts (KP.fB (KP.nth (KP.cB (KP.nth KP.top 28)) 9)), KP.fS (KP.nth (KP.cB (KP.nth KP.top 28)) 9), 0, [], .none, .none, .none, .none, none, .none, .none, 0⟩), #[]⟩ ::
  kO P 369 ::
  kO P 370 ::
  kO P 371 ::
  ⟨.none, none, (.fields #[]), #[]⟩ ::
  kO P 373 ::
  kO P 374 ::
  ⟨.none, none, (.func ⟨Str.ofString "expression_list", Str.ofString "ExprParser.expression_list", KP.fA (KP.nth (KP.cB (KP.nth KP.top 28)) 10), .stmts (KP.fB (KP.nth (KP.cB (KP.nth KP.top 28)) 10)), KP.fS (KP.nth (KP.cB (KP.nth KP.top 28)) 10), 0, [], .none, .none, .none, .none, none, .none, .none, 0⟩), #[]⟩ ::
  kO P 376 ::
  kO P 377 ::
  kO P 378 ::
  ⟨.none, none, (.fields #[]), #[]⟩ ::
  kO P 380 ::
  kO P 381 ::
  ⟨.none, none, (.func ⟨Str.ofString "arguments", Str.ofString "ExprParser.arguments", KP.fA (KP.nth (KP.cB (KP.nth KP.top 28)) 11), .stmts (KP.fB (KP.nth (KP.cB (KP.nth KP.top 28)) 11)), KP.fS (KP.nth (KP.cB (KP.nth KP.top 28)) 11), 0, [], .none, .none, .none, .none, none, .none, .none, 0⟩), #[]⟩ ::
  kO P 383 ::
  kO P 384 ::
  kO P 385 ::
  ⟨.none, none, (.fields #[]), #[]⟩ ::
  kO P 387 ::
  kO P 388 ::
  ⟨.none, none, (.func ⟨Str.ofString "mintypmax", Str.ofString "ExprParser.mintypmax", KP.fA (KP.nth (KP.cB (KP.nth KP.top 28)) 12), .stmts (KP.fB (KP.nth (KP.cB (KP.nth KP.top 28)) 12)), KP.fS (KP.nth (KP.cB (KP.nth KP.top 28)) 12), 0, [], .none, .none, .none, .none, none, .none, .none, 0⟩), #[]⟩ ::
  kO P 390 ::
  kO P 391 ::
  kO P 392 ::
  ⟨.none, none, (.fields #[]), #[]⟩ ::
  kO P 394 ::
  kO P 395 ::
  ⟨.none, none, (.func ⟨Str.ofString "reference", Str.ofString "ExprParser.reference", KP.fA (KP.nth (KP.cB (KP.nth KP.top 28)) 13), .stmts (KP.fB (KP.nth (KP.cB (KP.nth KP.top 28)) 13)), KP.fS (KP.nth (KP.cB (KP.nth KP.top 28)) 13), 0, [], .none, .none, .none, .none, none, .none, .none, 0⟩), #[]⟩ ::
  kO P 397 ::
  kO P 398 ::
  kO P 399 ::
  ⟨.none, none, (.fields #[]), #[]⟩ ::
  kO P 401 ::
  kO P 402 ::
  ⟨.none, none, (.func ⟨Str.ofString "path_term", Str.ofString "ExprParser.path_term", KP.fA (KP.nth (KP.cB (KP.nth KP.top 28)) 14), .stmts (KP.fB (KP.nth (KP.cB (KP.nth KP.top 28)) 14)), KP.fS (KP.nth (KP.cB (KP.nth KP.top 28)) 14), 0, [], .none, .none, .none, .none, none, .none, .none, 0⟩), #[]⟩ ::
  kO P 404 ::
  kO P 405 ::
  kO P 406 ::
  ⟨.none, none, (.fields #[]), #[]⟩ ::
  kO P 408 ::
  kO P 409 ::
  ⟨.none, none, (.func ⟨Str.ofString "selects", Str.ofString "ExprParser.selects", KP.fA (KP.nth (KP.cB (KP.nth KP.top 28)) 15), .stmts (KP.fB (KP.nth (KP.cB (KP.nth KP.top 28)) 15)), KP.fS (KP.nth (KP.cB (KP.nth KP.top 28)) 15), 0, [], .none, .none, .none, .none, none, .none, .none, 0⟩), #[]⟩ ::
  kO P 411 ::
  kO P 412 ::
  kO P 413 ::
  ⟨.none, none, (.fields #[]), #[]⟩ ::
  kO P 415 ::
  kO P 416 ::
  ⟨.none, none, (.func ⟨Str.ofString "bracket", Str.ofString "ExprParser.bracket", KP.fA (KP.nth (KP.cB (KP.nth KP.top 28)) 16), .stmts (KP.fB (KP.nth (KP.cB (KP.nth KP.top 28)) 16)), KP.fS (KP.nth (KP.cB (KP.nth KP.top 28)) 16), 0, [], .none, .none, .none, .none, none, .none, .none, 0⟩), #[]⟩ ::
  kO P 418 ::
  kO P 419 ::
  kO P 420 ::
  ⟨.none, none, (.fields #[]), #[]⟩ ::
  kO P 422 ::
  kO P 423 ::
  ⟨.none, none, (.func ⟨Str.ofString "with_select", Str.ofString "ExprParser.with_select", KP.fA (KP.nth (KP.cB (KP.nth KP.top 28)) 17), .stmts (KP.fB (KP.nth (KP.cB (KP.nth KP.top 28)) 17)), KP.fS (KP.nth (KP.cB (KP.nth KP.top 28)) 17), 0, [], .none, .none, .none, .none, none, .none, .none, 0⟩), #[]⟩ ::
  kO P 425 ::
  kO P 426 ::
  kO P 427 ::
  ⟨.none, none, (.fields #[]), #[]⟩ ::
  kO P 429 ::
  kO P 430 ::
  ⟨.none, none, (.func ⟨Str.ofString "lvalue", Str.ofString "ExprParser.lvalue", KP.fA (KP.nth (KP.cB (KP.nth KP.top 28)) 18), .stmts (KP.fB (KP.nth (KP.cB (KP.nth KP.top 28)) 18)), KP.fS (KP.nth (KP.cB (KP.nth KP.top 28)) 18), 0, [], .none, .none, .none, .none, none, .none, .none, 0⟩), #[]⟩ ::
  kO P 432 ::
  kO P 433 ::
  kO P 434 ::
  ⟨.none, none, (.fields #[]), #[]⟩ ::
  kO P 436 ::
  kO P 437 ::
  ⟨.none, none, (.func ⟨Str.ofString "name_path", Str.ofString "ExprParser.name_path", KP.fA (KP.nth (KP.cB (KP.nth KP.top 28)) 19), .stmts (KP.fB (KP.nth (KP.cB (KP.nth KP.top 28)) 19)), KP.fS (KP.nth (KP.cB (KP.nth KP.top 28)) 19), 0, [], .none, .none, .none, .none, none, .none, .none, 0⟩), #[]⟩ ::
  kO P 439 ::
  kO P 440 ::
  kO P 441 ::
  ⟨.none, none, (.fields #[]), #[]⟩ ::
  kO P 443 ::
  kO P 444 ::
  ⟨.none, none, (.func ⟨Str.ofString "range_or_none", Str.ofString "ExprParser.range_or_none", KP.fA (KP.nth (KP.cB (KP.nth KP.top 28)) 20), .stmts (KP.fB (KP.nth (KP.cB (KP.nth KP.top 28)) 20)), KP.fS (KP.nth (KP.cB (KP.nth KP.top 28)) 20), 0, [], .none, .none, .none, .none, none, .none, .none, 0⟩), #[]⟩ ::
  kO P 446 ::
  kO P 447 ::
  kO P 448 ::
  ⟨.none, none, (.fields #[]), #[]⟩ ::
  kO P 450 ::
  kO P 451 ::
  ⟨.none, none, (.func ⟨Str.ofString "delay_value", Str.ofString "ExprParser.delay_value", KP.fA (KP.nth (KP.cB (KP.nth KP.top 28)) 21), .stmts (KP.fB (KP.nth (KP.cB (KP.nth KP.top 28)) 21)), KP.fS (KP.nth (KP.cB (KP.nth KP.top 28)) 21), 0, [], .none, .none, .none, .none, none, .none, .none, 0⟩), #[]⟩ ::
  kO P 453 ::
  kO P 454 ::
  kO P 455 ::
  ⟨.none, none, (.fields #[]), #[]⟩ ::
  kO P 457 ::
  kO P 458 ::
  ⟨.none, none, (.func ⟨Str.ofString "delay", Str.ofString "ExprParser.delay", KP.fA (KP.nth (KP.cB (KP.nth KP.top 28)) 22), .stmts (KP.fB (KP.nth (KP.cB (KP.nth KP.top 28)) 22)), KP.fS (KP.nth (KP.cB (KP.nth KP.top 28)) 22), 0, [], .none, .none, .none, .none, none, .none, .none, 0⟩), #[]⟩ ::
  kO P 460 ::
  kO P 461 ::
  kO P 462 ::
  ⟨.none, none, (.fields #[]), #[]⟩ ::
  kO P 464 ::
  kO P 465 ::
  ⟨.none, none, (.func ⟨Str.ofString "delays", Str.ofString "ExprParser.delays", KP.fA (KP.nth (KP.cB (KP.nth KP.top 28)) 23), .stmts (KP.fB (KP.nth (KP.cB (KP.nth KP.top 28)) 23)), KP.fS (KP.nth (KP.cB (KP.nth KP.top 28)) 23), 0, [], .none, .none, .none, .none, none, .none, .none, 0⟩), #[]⟩ ::
  kO P 467 ::
  kO P 468 ::
  kO P 469 ::
  kO P 470 ::
  kO P 471 ::
  ⟨(.type "super"), none, (.fields #[(.ref 471), (.ref 471), (.ref 471)]), #[]⟩ ::
  ⟨(.type "builtin_function_or_method"), none, (.fields #[(.builtin "object.__init_subclass__"), (.ref 471)]), #[]⟩ ::
  kO P 474 ::
  ⟨.none, none, (.fields #[]), #[]⟩ ::
  ⟨.none, none, (.func ⟨Str.ofString "law", Str.ofString "law", KP.fA (KP.nth KP.top 30), .stmts (KP.fB (KP.nth KP.top 30)), KP.fS (KP.nth KP.top 30), 0, [], .none, .none, .none, .none, none, .none, .none, 0⟩), #[]⟩ ::
  kO P 477 ::
  kO P 478 ::
  []), {}⟩
noncomputable abbrev stS3 (w : World) (os : OsState) : Shared := ⟨hpS3 w.params, Array.mk [], boot_drawn, 822, os⟩
noncomputable abbrev boot0 (w : World) (os : OsState) : Shared := ⟨boot_heap w.params, Array.mk [], boot_drawn, boot_toks, os⟩
noncomputable def envT : Env := { scope := PySem.Challenge.pw_rg0148_01.main.scope, locals := mainNs, globals := mainNs, cells := [], code := .ref 13, frame := some 14 }
open KP in
noncomputable def bl1 : List Stmt := [0, 1, 2, 3, 4, 5, 6].map (nth top)
open KP in
noncomputable def bl2 : List Stmt := [7, 8, 9, 10, 11, 12, 13, 14, 15, 16, 17, 18, 19, 20, 21, 22, 23, 24, 25, 26, 27].map (nth top)
open KP in
noncomputable def bl3 : List Stmt := [28, 29, 30].map (nth top)
noncomputable def blk : List Stmt := bl1 ++ (bl2 ++ (bl3 ++ []))
noncomputable def cE : Code := .body blk envT
abbrev q0 : Pos := ⟨0, 0, 0, 0⟩
abbrev q1 : Pos := ⟨20, 0, 32, 20⟩
abbrev q2 : Pos := ⟨194, 0, 200, 15⟩
abbrev q3 : Pos := ⟨402, 0, 441, 43⟩
abbrev bF : List Frame := [topFrame q0]
abbrev an : Option Value := some (.ref 6)
theorem st_pre (w : World) (os : OsState) : PySem.W.Fast.tw15667345088766844465 treeTable PySem.Challenge.pw_rg0148_01 w 11 an 12 (boot0 w os) (topStub PySem.Challenge.pw_rg0148_01) = some (stSa w os, ⟨PySem.W.Fast.tw11892475500146522536 treeTable cE, cE, q0, bF⟩) := by
  kernel_rfl
theorem st_block (w : World) (os : OsState) : PySem.W.Fast.tw14374325043358763698 treeTable PySem.Challenge.pw_rg0148_01 w 11 an 1 1 (stSa w os) ⟨(PySem.W.Fast.tw1066825118222455980 blk envT).wrap (fun _ => doneF .next) deadEnd id id, cE, q0, bF⟩ = some (.next, stSa w os, cE, q0) := by
  kernel_rfl
theorem st_1 (w : World) (os : OsState) : PySem.W.Fast.tw14374325043358763698 treeTable PySem.Challenge.pw_rg0148_01 w 11 an 1 983 (stSa w os) ⟨(PySem.W.Fast.tw12563942051412417395 bl1 envT).wrap doneF deadEnd id id, cE, q0, bF⟩ = some (.next, stS1 w os, cE, q1) := by
  kernel_rfl
theorem st_2 (w : World) (os : OsState) : PySem.W.Fast.tw14374325043358763698 treeTable PySem.Challenge.pw_rg0148_01 w 11 an 1 1054 (stS1 w os) ⟨(PySem.W.Fast.tw12563942051412417395 bl2 envT).wrap doneF deadEnd id id, cE, q1, bF⟩ = some (.next, stS2 w os, cE, q2) := by
  kernel_rfl
theorem st_3 (w : World) (os : OsState) : PySem.W.Fast.tw14374325043358763698 treeTable PySem.Challenge.pw_rg0148_01 w 11 an 1 1040 (stS2 w os) ⟨(PySem.W.Fast.tw12563942051412417395 bl3 envT).wrap doneF deadEnd id id, cE, q2, bF⟩ = some (.next, stS3 w os, cE, q3) := by
  kernel_rfl
theorem st_fin (w : World) (os : OsState) : PySem.W.Fast.tw14082659384304107361 treeTable PySem.Challenge.pw_rg0148_01 w 11 an 2 (stS3 w os) ⟨doneF .next, cE, q3, bF⟩ = some (stS3 w os) := by
  kernel_rfl
theorem run_ok (w : World) (os : OsState) : topRun treeTable PySem.Challenge.pw_rg0148_01 w 11 an (12 + (1 + (983 + (1054 + (1040 + 2))))) (boot0 w os) (topStub PySem.Challenge.pw_rg0148_01) = some (stS3 w os) := by
  have h0 := st_pre w os
  have hb := st_block w os
  have h1 := st_1 w os
  have h2 := st_2 w os
  have h3 := st_3 w os
  have hf := st_fin w os
  rw [← PySem.W.Fast.te15667345088766844465, ← PySem.W.Fast.te11892475500146522536] at h0
  rw [← PySem.W.Fast.te14374325043358763698, ← PySem.W.Fast.te1066825118222455980] at hb
  rw [← PySem.W.Fast.te14374325043358763698, ← PySem.W.Fast.te12563942051412417395] at h1 h2 h3
  rw [← PySem.W.Fast.te14082659384304107361] at hf
  exact go_top h0 (piece_block hb (piece_app h1 (piece_app h2 (piece_app h3 (piece_nil hf)))))
theorem look_1 (w : World) (os : OsState) : (staticsOk (importedModules PySem.Challenge.pw_rg0148_01.main.body) (boot_heap w.params) (hpS3 w.params) && namesBound PySem.Challenge.pw_rg0148_01 (hpS3 w.params) && gensDone (stS3 w os) && laidKept (boot_heap w.params) (hpS3 w.params)) = true := by
  kernel_rfl
theorem look_2 (w : World) (os : OsState) : PySem.W.Fast.tw4187177175401517315 view [Str.ofString "GateloomError", Str.ofString "vec"] (importedModules PySem.Challenge.pw_rg0148_01.main.body) xT true (stS3 w os) = openGood view [Str.ofString "GateloomError", Str.ofString "vec"] := by
  kernel_rfl
theorem look_3 (w : World) : kAs.map (hpS3 w.params).get? = (wrK w.params).map fun p => some p.2 := by
  kernel_rfl
theorem said_ok : PySem.Challenge.rw_rg0148_01.wellSaid = true := by kernel_rfl
theorem left : LeftO PySem.Challenge.pw_rg0148_01 view [Str.ofString "GateloomError", Str.ofString "vec"] xT kH.obs kH.val 6274 := by
  refine LeftO.of_pieces (H₀ := boot_heap) (H₁ := hpS3) (boot_open (by kernel_rfl) (by decide) fun _ => rfl) (fun w => by kernel_rfl) run_ok (by decide) (fun w => funext fun os => ?_)
  have l2 := look_2 w os
  rw [← PySem.W.Fast.te4187177175401517315] at l2
  exact Prod.ext (look_1 w os) (Prod.ext l2 (look_3 w))
section
abbrev Led := List (Addr × Obj)
abbrev Str0 (x : String) : Str := Str.ofString x
abbrev ent (w : World) (x : String) (t : Tok) (v : Value) : DictEntry := ⟨PyData.keyHash w.params (Str.ofString x), .str (Str.ofString x) t, v⟩

/-- a call of the text's def f from any place of the text: the ledger that it leaves, and what it gives back -/
def Spec (w : World) (f : Addr) (args : List Value) (k : Nat) (news : Led) (post : Value → Led → Prop) : Prop :=
  ∀ (p : Program) (loose : List Str) (mean : ExcName → Option Value) (mg mb : Str → Option Value) (dp un : Nat) (gd : Option (List Code)) (cn : Str) (cs : Scope) (a : Addr) (ccd : Value) (cl : List (Str × Addr)) (outer : List Env) (A₀ : Around) (base h₀ : Heap) (L : Addr) (m : Str → Option Value) (s : Shared)
    (Q E : Value → Shared → Prop),
    Below A₀ base outer h₀ → Fr h₀ L s.heap m → (wrK w.params).In h₀ → News h₀ L s.heap news → Top p loose mean mg mb h₀ → cs.kind = .function → dp + k < recursionLimit → un + 8 * k < cLine →
    (∀ r news' h' tk', Fr h₀ L h' m → News h₀ L h' news' → post r news' → Q r { s with heap := h', toks := tk' }) →
    wpAny (model PySem.Challenge.rw_rg0148_01.row.prog w) (ktrTop dp un gd cn cs L a ccd cl outer) (call (.ref f) args) Q E s

theorem Spec.use {w : World} {f : Addr} {args : List Value} {k : Nat} {news news₀ : Led} {post : Value → Led → Prop} (C : Spec w f args k news post)
  {p : Program} {loose : List Str} {mean : ExcName → Option Value} {mg mb : Str → Option Value} {dp un : Nat} {gd : Option (List Code)} {cn : Str} {cs : Scope} {a : Addr} {ccd : Value} {cl : List (Str × Addr)} {outer : List Env} {A₀ : Around} {base h₀ : Heap} {L : Addr} {m : Str → Option Value} {s : Shared}
    {Q E : Value → Shared → Prop}
    (B : Below A₀ base outer h₀) (F : Fr h₀ L s.heap m) (X : (wrK w.params).In h₀) (N : News h₀ L s.heap news₀) (T : Top p loose mean mg mb h₀) (hk : cs.kind = .function) (hs : ∀ q ∈ news, q ∈ news₀) (hd : dp + k < recursionLimit) (hu : un + 8 * k < cLine)
    (ret : ∀ r news' h' tk', Fr h₀ L h' m → News h₀ L h' news' → post r news' → Q r { s with heap := h', toks := tk' }) :
    wpAny (model PySem.Challenge.rw_rg0148_01.row.prog w) (ktrTop dp un gd cn cs L a ccd cl outer) (call (.ref f) args) Q E s :=
  C _ _ _ _ _ _ _ _ _ _ _ _ _ _ _ _ _ _ _ _ _ _ B F X (fun q hq => N q (hs q hq)) T hk hd hu ret

theorem Spec.mono {w : World} {f : Addr} {args : List Value} {k k' : Nat} {news : Led} {post post' : Value → Led → Prop} (C : Spec w f args k news post) (hk : k ≤ k') (h : ∀ r n, post r n → post' r n) : Spec w f args k' news post' := by
  unfold Spec at C ⊢
  intro p loose mean mg mb dp un gd cn cs a ccd cl outer A₀ base h₀ L m s Q E B F X N T hc hd hu hret
  exact C p loose mean mg mb dp un gd cn cs a ccd cl outer A₀ base h₀ L m s Q E B F X N T hc (Nat.lt_of_le_of_lt (by omega) hd) (Nat.lt_of_le_of_lt (by omega) hu) fun r n h' tk F' N' po => hret r n h' tk F' N' (h r n po)

abbrev PD (w : World) (ks : Nat → Tok) (src ah : Addr) (hashed : Bool) (tok : Addr) (at_ : Int) (ta : Tok) (depth : Int) (td : Tok) (within nested : Bool) : Obj :=
  dictOf [ent w "source" (ks 0) (.ref src), ent w "ahead" (ks 1) (.ref ah), ent w "hashed" (ks 2) (.bool hashed), ent w "token" (ks 3) (.ref tok), ent w "at" (ks 4) (.int at_ ta), ent w "depth" (ks 5) (.int depth td), ent w "within" (ks 6) (.bool within), ent w "nested" (ks 7) (.bool nested)] 8
abbrev RD (w : World) (rs : Nat → Tok) (tl : Addr) (place : Int) (tp : Tok) (parted : Bool) : Obj :=
  dictOf [ent w "tokens" (rs 0) (.ref tl), ent w "place" (rs 1) (.int place tp), ent w "parted" (rs 2) (.bool parted)] 3
abbrev TD (w : World) (ts : Nat → Tok) (kind : Str) (tk : Tok) (val : Str) (tv : Tok) (at_ : Int) (ta : Tok) : Obj :=
  dictOf [ent w "kind" (ts 0) (.str kind tk), ent w "value" (ts 1) (.str val tv), ent w "at" (ts 2) (.int at_ ta)] 3
/-- the ledger bears a token at t -/
def Tk (w : World) (rest : Led) (t : Addr) (kind val : Str) (at_ : Int) : Prop :=
  ∃ dT ts tk tv ta, (t, instObj 71 dT) ∈ rest ∧ (dT, TD w ts kind tk val tv at_ ta) ∈ rest
/-- what stands and is not turned: the parser's own object, its row's, the row's list, the list ahead -/
structure Wld (P dP R dR TL AH : Addr) (toks : List Value) (rest : Led) : Prop where
  hP : (P, instObj 471 dP) ∈ rest
  hR : (R, instObj 99 dR) ∈ rest
  hT : ∃ n, (TL, listOf toks.toArray n) ∈ rest
  hA : ∃ n, (AH, listOf ([] : List Value).toArray n) ∈ rest
  ne : @Ne Nat dP dR
  oP : ∀ p ∈ rest, p.1 ≠ dP
  oR : ∀ p ∈ rest, p.1 ≠ dR
  sz : toks.length ≤ 1000
abbrev Ldg (w : World) (dP dR : Addr) (ks rs : Nat → Tok) (R TL AH : Addr) (tok : Addr) (at_ : Int) (ta : Tok) (dep : Int) (td : Tok) (wi ne : Bool) (pl : Int) (tp : Tok) (rest : Led) : Led :=
  (dP, PD w ks R AH false tok at_ ta dep td wi ne) :: (dR, RD w rs TL pl tp false) :: rest

def Sub (R R1 : Led) : Prop := ∀ p ∈ R, p ∈ R1
theorem Sub.refl {R : Led} : Sub R R := fun _ h => h
theorem Sub.trans {R R1 R2 : Led} (a : Sub R R1) (b : Sub R1 R2) : Sub R R2 := fun p h => b p (a p h)
theorem Sub.cons {R : Led} {x : Addr × Obj} : Sub R (x :: R) := fun _ h => .tail _ h
theorem Sub.mem {R R1 : Led} {p : Addr × Obj} (a : Sub R R1) (h : p ∈ R) : p ∈ R1 := a p h
theorem Tk.intro {w : World} {R : Led} {t dT : Addr} {k0 k1 k2 tk tv ta : Tok} {k v : Str} {a : Int} (h1 : (t, instObj 71 dT) ∈ R)
    (h2 : (dT, dictOf [ent w "kind" k0 (.str k tk), ent w "value" k1 (.str v tv), ent w "at" k2 (.int a ta)] 3) ∈ R) : Tk w R t k v a :=
  ⟨dT, fun i => match i with | 0 => k0 | 1 => k1 | _ => k2, tk, tv, ta, h1, h2⟩
theorem Tk.sub {w : World} {R R1 : Led} {t : Addr} {k v : Str} {a : Int} (s : Sub R R1) (h : Tk w R t k v a) : Tk w R1 t k v a := by
  obtain ⟨dT, ts, tk, tv, ta, h1, h2⟩ := h
  exact ⟨dT, ts, tk, tv, ta, s _ h1, s _ h2⟩
theorem Wld.cons {P dP R dR TL AH : Addr} {toks : List Value} {rest : Led} {x : Addr} {o : Obj} (W : Wld P dP R dR TL AH toks rest) (h1 : @LT.lt Nat _ dP x) (h2 : @LT.lt Nat _ dR x) : Wld P dP R dR TL AH toks ((x, o) :: rest) := by
  obtain ⟨hP, hR, ⟨nT, hT⟩, ⟨nA, hA⟩, hne, oP, oR, sz⟩ := W
  refine ⟨.tail _ hP, .tail _ hR, ⟨nT, .tail _ hT⟩, ⟨nA, .tail _ hA⟩, hne, ?_, ?_, sz⟩
  · intro p hp
    rcases List.mem_cons.mp hp with rfl | hp
    · exact Nat.ne_of_gt h1
    · exact oP p hp
  · intro p hp
    rcases List.mem_cons.mp hp with rfl | hp
    · exact Nat.ne_of_gt h2
    · exact oR p hp
theorem perm1 {x a b : Addr × Obj} {r : Led} : ∀ q ∈ a :: b :: x :: r, q ∈ x :: a :: b :: r := by
  intro q h
  simp only [List.mem_cons] at h ⊢
  rcases h with h | h | h | h <;> simp [h]
theorem perm2 {x y a b : Addr × Obj} {r : Led} : ∀ q ∈ a :: b :: x :: y :: r, q ∈ x :: y :: a :: b :: r := by
  intro q h
  simp only [List.mem_cons] at h ⊢
  rcases h with h | h | h | h | h <;> simp [h]
theorem perm0 {r : Led} : ∀ q ∈ r, q ∈ r := fun _ h => h
theorem News.of {h₀ h : Heap} {L : Addr} {a b : Led} (N : News h₀ L h a) (s : ∀ q ∈ b, q ∈ a) : News h₀ L h b := fun q hq => N q (s q hq)
theorem News.dup {h₀ h : Heap} {L : Addr} {a : Led} {x : Addr × Obj} (N : News h₀ L h a) (s : x ∈ a) : News h₀ L h (x :: a) := fun q hq => by
  rcases List.mem_cons.mp hq with rfl | hq
  · exact N _ s
  · exact N q hq
/-- the token that the row hands out next -/
def Nxt (w : World) (toks : List Value) (R : Led) (pl : Int) (k v : Str) (a : Int) (pl' : Int) : Prop :=
  (0 ≤ pl ∧ pl < toks.length ∧ pl' = pl + 1 ∧ ∃ t, toks[pl.toNat]? = some (.ref t) ∧ Tk w R t k v a) ∨ (toks.length ≤ pl ∧ pl' = pl ∧ k = Str.ofString "eof" ∧ v = Str.ofString "" ∧ a = -1)
theorem Nxt.sub {w : World} {toks : List Value} {R R1 : Led} {pl pl' : Int} {k v : Str} {a : Int} (s : Sub R R1) (h : Nxt w toks R pl k v a pl') : Nxt w toks R1 pl k v a pl' := by
  rcases h with ⟨h1, h2, h3, t, h4, h5⟩ | h
  · exact .inl ⟨h1, h2, h3, t, h4, h5.sub s⟩
  · exact .inr h
end
section
local macro_rules | `(tactic| k_mem) => `(tactic| first | assumption | (refine Sub.mem (by assumption) ?_; k_mem))
local macro_rules | `(tactic| k_all) => `(tactic| assumption)
local macro_rules | `(tactic| walk_at "call builtin:len") => `(tactic| (k_here; (with_reducible show wpAny _ _ (call (Value.builtin "len") [Value.ref _]) _ _ _); k_dflt (refine' len_list ?k1 ?k2 ?_; (case k1 => exact News.isList (by k_asm) (by k_mem)); (case k2 => (simp only [List.size_toArray, List.length_cons, List.length_nil]; omega)); k_whole); (try simp only [List.size_toArray, List.length_cons, List.length_nil])))
section
local macro_rules | `(tactic| walk_at "subscriptTail") => `(tactic| (k_here; (with_reducible show wpAny _ _ (subscriptTail _ _ (Value.ref _) (Value.int _ _)) _ _ _); k_dflt (refine' item_listL ?k1 ?k2 ?k3 ?k4 ?_ ?k6; (case k1 => exact News.isList (by k_asm) (by k_mem)); (case k2 => assumption); (case k3 => omega); (case k4 => assumption); (case k6 => with_unfolding_all rfl); k_whole)))
local macro_rules | `(tactic| kpc_turns) => `(tactic| (refine' code_def ?k1 ?k2 ?k3 ?k4 ?k5 ?kA ?kF ?kK ?k6 ?k7 ?k8 ?k9 ?kB ?_ ?c2 ?c3 ?c4 ?c5; (case kA => exact rfl); (case kF => exact rfl); (case kK => first | exact rfl | assumption); (case k1 => k_asm); (case k2 => k_asm); (case k3 => k_asm); (case k4 => k_asm); (case k5 => k_asm); (case k6 => k_is); (case k7 => k_is); (case k8 => ktr_room); (case k9 => exact BindsTo.of_eq rfl); (case c5 => decide); (case kB => exact locs rfl); (case c2 => exact rfl); (case c3 => exact rfl); (case c4 => exact rfl); k_whole; intro g' L' h' FG' F' N' B' X' T'; (try dsimp only); (try k_fold)))
local macro_rules | `(tactic| walk_at "call ref") => `(tactic| (k_here; k_dflt ((refine' call_cls ?k1 ?k2 ?k3 ?k4 ?k5 ?k6 ?_; (case k1 => k_asm); (case k2 => k_asm); (case k3 => k_asm); (case k4 => k_is); (case k5 => k_is); (case k6 => k_is); k_whole; intro x' d' h' F' N' l1 l2; (try k_lt l1); (try k_lt2 l2); (try k_sweep); kpc_turns))))
local macro_rules | `(tactic| keq_rows) => `(tactic| first | exact fun _ h => h | exact perm1 | exact perm2)
set_option hygiene false in
local macro_rules | `(tactic| tb_start) => `(tactic| (
  unfold Spec
  k_fill
  intro p loose mean mg mb dp un gd cn cs a ccd cl outer A₀ base h₀ L m s Q E B F X N T hk hd hu hret
  refine wpAny_call ?_
  k_dflt kpc_turns
  k_steps))
variable {w : World} {P dP R dR TL AH : Addr} {toks : List Value} {rest : Led} {ks rs : Nat → Tok} {tok : Addr} {at_ : Int} {ta : Tok} {dep : Int} {td : Tok} {wi ne : Bool} {pl : Int} {tp : Tok}
theorem leave_spec (W : Wld P dP R dR TL AH toks rest) :
   Spec w 321 [.ref P] 3 (Ldg w dP dR ks rs R TL AH tok at_ ta dep td wi ne pl tp rest)
    (fun r news' => r = .none ∧ ∃ td', news' = Ldg w dP dR ks rs R TL AH tok at_ ta (dep - 1) td' wi ne pl tp rest) := by
  obtain ⟨hP, hR, ⟨nT, hT⟩, ⟨nA, hA⟩, hne, oP, oR, sz⟩ := W
  tb_start
  exact hret _ _ _ _ (by k_asm) (by k_asm) ⟨rfl, _, rfl⟩
theorem enter_ok (W : Wld P dP R dR TL AH toks rest) (hd : dep < 60) :
   Spec w 314 [.ref P] 3 (Ldg w dP dR ks rs R TL AH tok at_ ta dep td wi ne pl tp rest)
    (fun r news' => r = .none ∧ ∃ td', news' = Ldg w dP dR ks rs R TL AH tok at_ ta (dep + 1) td' wi ne pl tp rest) := by
  obtain ⟨hP, hR, ⟨nT, hT⟩, ⟨nA, hA⟩, hne, oP, oR, sz⟩ := W
  tb_start
  exact hret _ _ _ _ (by k_asm) (by k_asm) ⟨rfl, _, rfl⟩
theorem is_op_spec (W : Wld P dP R dR TL AH toks rest) {kind val text : Str} {tx : Tok} {a : Int} {b : Bool} (ht : Tk w rest tok kind val a) (hb : decide (kind = Str.ofString "op" ∧ val = text) = b) :
   Spec w 146 [.ref P, .str text tx] 3 (Ldg w dP dR ks rs R TL AH tok at_ ta dep td wi ne pl tp rest)
    (fun r news' => r = .bool b ∧ news' = Ldg w dP dR ks rs R TL AH tok at_ ta dep td wi ne pl tp rest) := by
  obtain ⟨hP, hR, ⟨nT, hT⟩, ⟨nA, hA⟩, hne, oP, oR, sz⟩ := W
  obtain ⟨dT, ts, tk, tv, taT, h1, h2⟩ := ht
  subst hb
  tb_start
  all_goals (refine hret _ _ _ _ (by k_asm) (by k_asm) ⟨?_, rfl⟩; first | (simp_all; done) | (simp_all; rfl) | skip)
theorem next_token_spec (W : Wld P dP R dR TL AH toks rest) {t2 : Addr} (h0 : 0 ≤ pl) (h1 : pl < toks.length) (hi : toks[pl.toNat]? = some (.ref t2)) :
   Spec w 96 [.ref R] 3 (Ldg w dP dR ks rs R TL AH tok at_ ta dep td wi ne pl tp rest)
    (fun r news' => r = .ref t2 ∧ ∃ tp', news' = Ldg w dP dR ks rs R TL AH tok at_ ta dep td wi ne (pl + 1) tp' rest) := by
  obtain ⟨hP, hR, ⟨nT, hT⟩, ⟨nA, hA⟩, hne, oP, oR, sz⟩ := W
  tb_start
  exact hret _ _ _ _ (by k_asm) (by k_asm) ⟨rfl, _, rfl⟩
theorem next_eof_spec (W : Wld P dP R dR TL AH toks rest) (h1 : toks.length ≤ pl) :
   Spec w 96 [.ref R] 4 (Ldg w dP dR ks rs R TL AH tok at_ ta dep td wi ne pl tp rest)
    (fun r news' => ∃ t2 R1, r = .ref t2 ∧ news' = Ldg w dP dR ks rs R TL AH tok at_ ta dep td wi ne pl tp R1 ∧ Sub rest R1 ∧ Wld P dP R dR TL AH toks R1 ∧ Tk w R1 t2 (Str.ofString "eof") (Str.ofString "") (-1)) := by
  have W0 := W
  obtain ⟨hP, hR, ⟨nT, hT⟩, ⟨nA, hA⟩, hne, oP, oR, sz⟩ := W
  tb_start
  rename (@LT.lt Nat _ _ _ ∧ @LT.lt Nat _ _ _ ∧ AllLt _ _) => l1
  rename (@LT.lt Nat _ _ _) => l2
  have NN := News.of (h₀ := h₀) (L := L) (a := _ :: _ :: _ :: _ :: rest) (by assumption) perm2
  exact hret _ _ _ _ (by k_asm) NN ⟨_, _, rfl, rfl, Sub.trans Sub.cons Sub.cons, (W0.cons l1.1 l1.2.1).cons (Nat.lt_trans l1.1 l2) (Nat.lt_trans l1.2.1 l2), Tk.intro (.head _) (.tail _ (.head _))⟩
theorem next_spec (W : Wld P dP R dR TL AH toks rest) {k v : Str} {a : Int} {pl' : Int} (hN : Nxt w toks rest pl k v a pl') :
   Spec w 96 [.ref R] 4 (Ldg w dP dR ks rs R TL AH tok at_ ta dep td wi ne pl tp rest)
    (fun r news' => ∃ t2 R1 tp', r = .ref t2 ∧ news' = Ldg w dP dR ks rs R TL AH tok at_ ta dep td wi ne pl' tp' R1 ∧ Sub rest R1 ∧ Wld P dP R dR TL AH toks R1 ∧ Tk w R1 t2 k v a) := by
  rcases hN with ⟨h0, h1, rfl, t, h2, h3⟩ | ⟨h1, rfl, rfl, rfl, rfl⟩
  · refine Spec.mono (next_token_spec W h0 h1 h2) (by omega) ?_
    rintro r n ⟨rfl, tp', rfl⟩
    exact ⟨_, _, _, rfl, rfl, Sub.refl, W, h3⟩
  · refine Spec.mono (next_eof_spec W h1) (by omega) ?_
    rintro r n ⟨t2, R1, rfl, rfl, h⟩
    exact ⟨_, _, _, rfl, rfl, h⟩
local macro_rules | `(tactic| kle_hand) => `(tactic| (intro r9 n9 h9 tk9 F9 N9 p9; obtain ⟨t9, R9, tp9, hr9, hn9, hs9, W9, ht9⟩ := p9; subst hr9; subst hn9; have hk9 := ht9; have W9' := W9; obtain ⟨hP9, hR9, ⟨nT9, hT9⟩, ⟨nA9, hA9⟩, hne9, oP9, oR9, sz9⟩ := W9'; obtain ⟨dT9, ts9, tk9, tv9, ta9, m9, m9'⟩ := ht9; (try k_sweep); (try dsimp only); (try k_fold)))
local macro_rules | `(tactic| walk_at "call ref") => `(tactic| (k_here; (with_reducible show wpAny _ _ (call (Value.ref 96) _) _ _ _); k_dflt ((refine' Spec.use (next_spec ?W ?hN) ?B ?F ?X ?N ?T ?hk ?hs ?hd ?hu ?_; (case B => k_asm); (case F => k_asm); (case X => k_asm); (case N => k_asm); (case T => k_asm); (case hk => first | exact rfl | assumption); (case hs => keq_rows); (case W => assumption); (case hN => assumption); (case hd => ktr_room); (case hu => ktr_units); k_whole; kle_hand))))
theorem fetch_spec (W : Wld P dP R dR TL AH toks rest) {k v : Str} {a : Int} {pl' : Int} (hN : Nxt w toks rest pl k v a pl') (hv : v ≠ Str.ofString "#") :
   Spec w 124 [.ref P] 6 (Ldg w dP dR ks rs R TL AH tok at_ ta dep td wi ne pl tp rest)
    (fun r news' => ∃ t2 R1 tp', r = .ref t2 ∧ news' = Ldg w dP dR ks rs R TL AH tok at_ ta dep td wi ne pl' tp' R1 ∧ Sub rest R1 ∧ Wld P dP R dR TL AH toks R1 ∧ Tk w R1 t2 k v a) := by
  have W0 := W
  obtain ⟨hP, hR, ⟨nT, hT⟩, ⟨nA, hA⟩, hne, oP, oR, sz⟩ := W
  tb_start
  all_goals (rename News _ _ _ _ => NN; rename (_ == Str.ofString "op") = _ => ek9)
  · have e : (v == Str.ofString "#") = false := beq_eq_false_iff_ne.mpr hv
    rw [e] at NN
    exact hret _ _ _ _ (by k_asm) NN ⟨_, _, _, rfl, rfl, by assumption, by assumption, by assumption⟩
  · rw [ek9] at NN
    exact hret _ _ _ _ (by k_asm) NN ⟨_, _, _, rfl, rfl, by assumption, by assumption, by assumption⟩
local macro_rules | `(tactic| walk_at "call ref") => `(tactic| (k_here; (with_reducible show wpAny _ _ (call (Value.ref 124) _) _ _ _); k_dflt ((refine' Spec.use (fetch_spec ?W ?hN ?hv) ?B ?F ?X ?N ?T ?hk ?hs ?hd ?hu ?_; (case B => k_asm); (case F => k_asm); (case X => k_asm); (case N => k_asm); (case T => k_asm); (case hk => first | exact rfl | assumption); (case hs => keq_rows); (case W => assumption); (case hN => assumption); (case hv => assumption); (case hd => ktr_room); (case hu => ktr_units); k_whole; kle_hand))))
theorem take_spec (W : Wld P dP R dR TL AH toks rest) {k v : Str} {a : Int} {pl' : Int} (hN : Nxt w toks rest pl k v a pl') (hv : v ≠ Str.ofString "#") :
   Spec w 139 [.ref P] 8 (Ldg w dP dR ks rs R TL AH tok at_ ta dep td wi ne pl tp rest)
    (fun r news' => r = .ref tok ∧ ∃ t2 R1 tp' ta', news' = Ldg w dP dR ks rs R TL AH t2 a ta' dep td wi ne pl' tp' R1 ∧ Sub rest R1 ∧ Wld P dP R dR TL AH toks R1 ∧ Tk w R1 t2 k v a) := by
  have W0 := W
  obtain ⟨hP, hR, ⟨nT, hT⟩, ⟨nA, hA⟩, hne, oP, oR, sz⟩ := W
  tb_start
  exact hret _ _ _ _ (by k_asm) (by k_asm) ⟨rfl, _, _, _, _, rfl, by assumption, by assumption, by assumption⟩
end
section
def kindOf (v : Str) : Str := if v = Str.ofString "a" then Str.ofString "id" else Str.ofString "op"
def hdK : List Str → Str
  | [] => Str.ofString "eof"
  | v :: _ => kindOf v
def hdV : List Str → Str
  | [] => Str.ofString ""
  | v :: _ => v
def hdA (i : Nat) : List Str → Int
  | [] => -1
  | _ :: _ => i
def plOf (i : Nat) : List Str → Int
  | [] => i
  | _ :: _ => i + 1
/-- the tokens from the i-th on -/
structure Strm (w : World) (toks : List Value) (R : Led) (i : Nat) (l : List Str) : Prop where
  len : toks.length = i + l.length
  at_ : ∀ j v, l[j]? = some v → ∃ t, toks[i + j]? = some (.ref t) ∧ Tk w R t (kindOf v) v ((i + j : Nat) : Int)
  no : ∀ v ∈ l, v ≠ Str.ofString "#"
theorem Strm.sub {w : World} {toks : List Value} {R R1 : Led} {i : Nat} {l : List Str} (s : Sub R R1) (h : Strm w toks R i l) : Strm w toks R1 i l :=
  ⟨h.len, fun j v e => by obtain ⟨t, a, b⟩ := h.at_ j v e; exact ⟨t, a, b.sub s⟩, h.no⟩
theorem Strm.tail {w : World} {toks : List Value} {R : Led} {i : Nat} {v : Str} {l : List Str} (h : Strm w toks R i (v :: l)) : Strm w toks R (i + 1) l :=
  ⟨by rw [h.len, List.length_cons]; omega, fun j v e => by
    obtain ⟨t, a, b⟩ := h.at_ (j + 1) v (by simpa using e)
    rw [show i + 1 + j = i + (j + 1) by omega]; exact ⟨t, a, b⟩, fun v hv => h.no v (.tail _ hv)⟩
theorem Strm.next {w : World} {toks : List Value} {R : Led} {i : Nat} {v : Str} {l : List Str} (h : Strm w toks R i (v :: l)) :
    Nxt w toks R (plOf i (v :: l)) (hdK l) (hdV l) (hdA (i + 1) l) (plOf (i + 1) l) := by
  have t := h.tail
  cases l with
  | nil => exact .inr ⟨by have := t.len; simp [plOf] at this ⊢; omega, by simp [plOf], rfl, rfl, rfl⟩
  | cons v2 l =>
    obtain ⟨t2, a, b⟩ := t.at_ 0 v2 rfl
    have hl := t.len
    refine .inl ⟨by simp [plOf]; omega, by simp [plOf] at hl ⊢; omega, by simp [plOf], t2, ?_, ?_⟩
    · have e : (plOf i (v :: v2 :: l)).toNat = i + 1 := by simp only [plOf]; omega
      rw [e]; exact a
    · simpa [hdK, hdV, hdA] using b
theorem Strm.ne {w : World} {toks : List Value} {R : Led} {i : Nat} {l : List Str} (h : Strm w toks R i l) : hdV l ≠ Str.ofString "#" := by
  cases l with
  | nil => simp only [hdV]; decide
  | cons v l => exact h.no v (.head _)
/-- the state between two calls: the i-th token is at hand, l is what is left with it -/
def Ps (w : World) (P dP R dR TL AH : Addr) (toks : List Value) (ks rs : Nat → Tok) (wi : Bool) (i : Nat) (l : List Str) (d : Int) (led : Led) (R0 : Led) : Prop :=
  ∃ tok ta td tp rest, led = Ldg w dP dR ks rs R TL AH tok (hdA i l) ta d td wi false (plOf i l) tp rest ∧ Sub R0 rest ∧ Wld P dP R dR TL AH toks rest ∧ Tk w rest tok (hdK l) (hdV l) (hdA i l) ∧ Strm w toks rest i l
end
section
section
variable {prog : Program} {w : World} {A : Around} {R : Result → Shared → Prop} {E : Value → Shared → Prop} {h : Heap} {g : Array GenState} {d : Drawn} {t : Nat} {os : OsState}
variable {nm q : Str} {C N : Addr} {bs bm bmB : List Value} {hdct : Bool} {sn : List Str} {sub : List Value} {ab : Bool} {col : Option Bool} {dd : Option Addr} {k0 k1 k2 k3 k5 : Option Value} {B newId initId : String}
/-- a new exception of a class whose line of bases holds classes of the text -/
theorem exc_new (F : ExcBaseFacts B newId initId bmB) (hB : bm.contains (.type B) = true) (hA : bm.contains (.type "AttributeError") = false) (hN : bm.contains (.type "NameError") = false) {rest : List Value}
    (hC : h.get? C = some (excClassObj nm q C N bs bm hdct sn sub ab col dd k0 k1 k2 k3 k5 newId))
    (hq : R (.ok (.ret (.ref (h.objs.size + 1)))) ⟨(h.push { cls := .type "tuple", data := .seq rest.toArray }).push
      { cls := .ref C, data := .fields #[.ref h.objs.size, .none, .none, .none, .bool false, .none] }, g, d, t, os⟩) (hrest : rest.length ≤ sizeLine) :
    codeAny (model prog w) A (.builtin newId ⟨.ref C :: rest, []⟩) R ⟨h, g, d, t, os⟩ := by
  have hends := F.ends
  have cB : (Value.ref C :: bm).contains (.type B) = true := by rw [List.contains_cons, hB, Bool.or_true]
  have cA : (Value.ref C :: bm).contains (.type "AttributeError") = false := by rw [List.contains_cons, hA]; rfl
  have cN : (Value.ref C :: bm).contains (.type "NameError") = false := by rw [List.contains_cons, hN]; rfl
  refine codeAny_builtinAt F.entry ?_
  unfold Builtin.«BaseException.__new__»
  refine PySem.wpAt_bind ?_
  show PySem.wpAt _ _ _ (stack >>= _) _ _ _
  refine PySem.wpAt_bind (PySem.wpAt_stack fun p below => PySem.wpAt_of_wpAny ?_)
  wp_walk
  refine PySem.wpAt_of_wpAny ?_
  rw [F.owner]
  repeat (first | with_reducible refine wpAny_madeHere_exc F.canon hC ?_ | with_reducible refine wpAny_loadPart_at hC ?_ | (with_reducible refine wpAny_isSubtype_exc hC ?_; first | rw [cB] | rw [cA] | rw [cN]) | wp_step)
  show R _ _
  rw [Heap.size_push]
  exact hq
theorem exc_type_call (F : ExcBaseFacts B newId initId bmB) (hB : (Value.ref 39 :: bmB).contains (.type B) = true) (hA : (Value.ref 39 :: bmB).contains (.type "AttributeError") = false) (hN : (Value.ref 39 :: bmB).contains (.type "NameError") = false)
    {rest : List Value} {fI : Addr} {oI : Obj} {Q : Fin → Shared → Prop}
    (hC : h.get? C = some (excClassObj nm q C N bs (.ref 39 :: bmB) hdct sn sub ab col dd k0 k1 k2 k3 k5 newId)) (hi : Looks (model prog w) h (typeLookup (.ref C) "__init__") (some (.ref fI))) (hfI : h.get? fI = some oI) (hfc : oI.cls = .type "function")
    (hq : wpAny (model prog w) A (call (.ref fI) (.ref (h.objs.size + 1) :: rest)) (fun r s' => r = .none ∧ Q (.done (.ret (.ref (h.objs.size + 1)))) s') E
      ⟨(h.push { cls := .type "tuple", data := .seq rest.toArray }).push { cls := .ref C, data := .fields #[.ref h.objs.size, .none, .none, .none, .bool false, .none] }, g, d, t, os⟩) (hrest : rest.length ≤ sizeLine) :
    wpAny (model prog w) A (Builtin.«type.__call__» ⟨.ref C :: rest, []⟩) Q E ⟨h, g, d, t, os⟩ := by
  repeat (first | with_reducible refine wpAny_loadPart_at hC ?_ | with_reducible refine wpAny_madeBy_exc hC ?_ | wp_step)
  refine codeAny_call_builtin_code (Code.quiet_builtin _ F.quiet) (wpAny_check_new_subU F hB .base hC ?_)
  refine exc_new F hB hA hN hC ?_ hrest
  show wpAny _ _ _ _ _ _
  have keep : ∀ {b : Addr} {o : Obj}, h.get? b = some o → ((h.push { cls := .type "tuple", data := .seq rest.toArray }).push { cls := .ref C, data := .fields #[.ref h.objs.size, .none, .none, .none, .bool false, .none] }).get? b = some o := fun e =>
    Heap.get?_push_of_some _ (Heap.get?_push_of_some _ e)
  have hget : ((h.push { cls := .type "tuple", data := .seq rest.toArray }).push
      { cls := .ref C, data := .fields #[.ref h.objs.size, .none, .none, .none, .bool false, .none] }).get? (h.objs.size + 1) = some
      { cls := .ref C, data := .fields #[.ref h.objs.size, .none, .none, .none, .bool false, .none] } := by heap_get
  have hcC : (Value.ref C :: Value.ref 39 :: bmB).contains (.ref C) = true := by simp
  unfold isInstance
  repeat (first | with_reducible refine wpAny_loadPart_at hget ?_ | (with_reducible refine wpAny_isSubtype_exc (keep hC) ?_; rw [hcC]) | wp_step)
  show wpAny _ _ (typeLookup (.ref C) _) _ _ _
  refine (hi.keeps fun _ _ e => keep e).here ?_
  refine wpAny_holding (wpAny_bind ?_)
  unfold bindSpecial
  refine wpAny_bind (wpAny_typeOf (T := "function") ⟨_, keep hfI, hfc⟩ ?_)
  rw [if_pos (by decide)]
  refine wpAny_pure (wpAny_bind (wpAny_mono hq (fun r s' hr => ?_) fun _ _ x => x))
  obtain ⟨rfl, hQ⟩ := hr
  wp_walk
  exact hQ
theorem exc_call (F : ExcBaseFacts B newId initId bmB) (hB : (Value.ref 39 :: bmB).contains (.type B) = true) (hA : (Value.ref 39 :: bmB).contains (.type "AttributeError") = false) (hN : (Value.ref 39 :: bmB).contains (.type "NameError") = false)
    {rest : List Value} {fI : Addr} {oI : Obj} {Q : Value → Shared → Prop}
    (hC : h.get? C = some (excClassObj nm q C N bs (.ref 39 :: bmB) hdct sn sub ab col dd k0 k1 k2 k3 k5 newId)) (hi : Looks (model prog w) h (typeLookup (.ref C) "__init__") (some (.ref fI))) (hfI : h.get? fI = some oI) (hfc : oI.cls = .type "function")
    (hq : wpAny (model prog w) (A.under (.builtin "type.__call__" ⟨.ref C :: rest, []⟩)) (call (.ref fI) (.ref (h.objs.size + 1) :: rest)) (fun r s' => r = .none ∧ Q (.ref (h.objs.size + 1)) s') E
      ⟨(h.push { cls := .type "tuple", data := .seq rest.toArray }).push { cls := .ref C, data := .fields #[.ref h.objs.size, .none, .none, .none, .bool false, .none] }, g, d, t, os⟩) (hrest : rest.length ≤ sizeLine) :
    wpAny (model prog w) A (call (.ref C) rest) Q E ⟨h, g, d, t, os⟩ := by
  have f1 := tc_lookup
  have f2 := tc_bind (.ref C)
  have hT : (⟨h, g, d, t, os⟩ : Shared).TypeIs (.ref C) "type" := ⟨_, hC, rfl⟩
  refine wpAny_call (codeAny_of_tree ?_)
  show wpAny _ _ (callAny (.ref C) _) _ _ _
  repeat (any_goals (first | assumption | with_reducible refine wpAny_loadPart_at hC ?_ | wp_step))
  refine ⟨rfl, ?_⟩
  refine codeAny_call_builtin_at (Code.quiet_builtin _ (by decide +kernel)) entry_typeCall (wpAny_check_type_call_sub hC (exc_type_call F hB hA hN hC hi hfI hfc hq hrest))
end
end
section
abbrev excO (t : Addr) (d : Option Addr) : Obj := { cls := .ref 52, dict := d, data := .fields #[.ref t, .none, .none, .none, .bool false, .none] }
section
variable {w : World} {A : Around} {s : Shared} {x L : Addr} {h₀ : Heap} {m : Str → Option Value} {news : Led} {R : Result → Shared → Prop}
theorem refuse_exc (self : Value) : refuseLoop self "__setattr__" [.ref 52, .ref 39, .type "Exception", .type "BaseException", .type "object"] = pure () := by
  rw [refuseLoop_ref, refuseLoop_ref]
  kernel_rfl
end
section
variable {w : World} {A : Around} {s : Shared} {x L : Addr} {h₀ : Heap} {m : Str → Option Value} {news : Led} {R : Result → Shared → Prop} {K : Frag}
/-- object.__setattr__ of an exception, where no class takes the name -/
theorem osa_exc {ox : Obj} {od : Option Obj} {cd : ClassData} {name : Str} {tk : Tok} {v : Value} (X : K.In s.heap) (I : InstAt s.heap x ox 52 od) (hc : clsIn K 52 = some cd) (hm : cd.mro = [.ref 52, .ref 39, .type "Exception", .type "BaseException", .type "object"])
    (ht : findIn K (.ref 52) name = some none)
    (h : ∀ b, wpAny (model PySem.Challenge.rw_rg0148_01.row.prog w) A.in1 (Builtin.ObjectAttr.storeInOwnDict (.ref x) (.ref 52) (.str name tk) name v b)
      (fun fin s' => match fin with | .done f => R (.ok f) s' | .again c' => c'.quiet = true ∧ codeAny (model PySem.Challenge.rw_rg0148_01.row.prog w) A c' R s') (fun e s' => R (.error e) s') s) :
    codeAny (model PySem.Challenge.rw_rg0148_01.row.prog w) A (.call (.builtin "object.__setattr__") ⟨[.ref x, .str name tk, v], []⟩) R s := by
  have SF := PySem.F.store_object
  have sub : Looks (model PySem.Challenge.rw_rg0148_01.row.prog w) s.heap (isInstance (.ref x) (.type "object")) true := I.type.andThen (looks_mroIn X (by unfold mroIn; rw [hc, Option.bind_some, hm]; rfl))
  refine codeAny_call_builtin SF.slot.plain SF.entry (@check_slot (model PySem.Challenge.rw_rg0148_01.row.prog w) _ _ s "object.__setattr__" "object" "__setattr__" (.ref x) [.str name tk, v] [] _ SF.kind SF.split sub (SF.args (.ref x) (.str name tk) v) ?_)
  have hmr : Looks (model PySem.Challenge.rw_rg0148_01.row.prog w) s.heap (mroOf (.ref 52)) cd.mro := (looks_clsIn X hc).andThen .now
  rw [osa_eq, refuse_eq]
  refine wpAny_bind (wpAny_bind (I.type.here (wpAny_bind (hmr.here ?_))))
  rw [hm, refuse_exc]
  refine wpAny_pure (wpAny_bind (I.type.here (wpAny_bind ((looks_findIn X ht).here (wpAny_bind ?_)))))
  exact wpAny_pure (h _)
end
end
section
section
variable {w : World} {A : Around} {s : Shared} {e t L : Addr} {h₀ : Heap} {m : Str → Option Value} {news : Led} {R : Result → Shared → Prop} {K : Frag}
theorem nsSet_new {d : Addr} {post : Led} {es : List DictEntry} {n : Nat} {name : Str} {tk : Tok} {v : Value} {M : Model} {E : Value → Shared → Prop} {Q : PySem.Fin → Shared → Prop} (hM : M.w = w) (F : Fr h₀ L s.heap m) (N : News h₀ L s.heap ((d, dictOf es n) :: post))
    (h2 : ∀ p ∈ post, p.1 ≠ d) (hl : (getL name es).isSome = true) (hz : (putL name (PyData.keyHash w.params name) (.str name s.toks) v es).length ≤ 1000)
    (h : ∀ h', Fr h₀ L h' m → News h₀ L h' ((d, dictOf (putL name (PyData.keyHash w.params name) (.str name s.toks) v es) (putN name es n)) :: post) → Q (.done (.ret .none)) { s with heap := h', toks := s.toks + 1 }) :
    wpAny M A (Builtin.ObjectAttr.storeInDict d (.str name tk) name v) Q E s := by
  subst hM
  obtain ⟨U1, U2⟩ := news_upd (f := Obj.putName name (PyData.keyHash M.w.params name) (.str name s.toks) v) (pre := []) F N (by intro p hp; cases hp) h2 (putName_dict ..) rfl
  have D := (N (d, dictOf es n) (.head _)).1
  have D' := (U2 (d, dictOf (putL name (PyData.keyHash M.w.params name) (.str name s.toks) v es) (putN name es n)) (.head _)).1
  refine wpAny_bind (wpAny_pure (wpAny_bind ?_))
  unfold nsSet
  refine wpAny_bind (wpAny_bind (wpAny_askSetting (wpAny_pure (wpAny_bind (wpAny_mkText (wpAny_bind (wpAny_loadPart D ?_)))))))
  dsimp only
  have c : (!es.toArray.any (·.key.isStr name) && es.toArray.any (·.refKey)) = false := by
    rw [← Array.any_toList, ← Array.any_toList]
    unfold getL at hl
    split at hl
    · rename_i en he
      rw [List.any_eq_true.mpr ⟨en, List.mem_of_find?_eq_some he, List.find?_some he⟩]; rfl
    · split at hl
      · cases hl
      · rename_i z; rw [Bool.not_eq_true] at z; rw [z, Bool.and_false]
  rw [aRefKeyMayBeTheName_at, c]
  refine wpAny_updatePart D ?_
  refine wpAny_bind (wpAny_lookBehind D' (by rw [show (dictOf (putL name (PyData.keyHash M.w.params name) (.str name s.toks) v es) (putN name es n)).data = .dict (putL name (PyData.keyHash M.w.params name) (.str name s.toks) v es).toArray (putN name es n) from rfl]; exact pastItsLine_dict (by rw [List.size_toArray, sizeLine_eq]; omega)) ?_)
  exact wpAny_pure (h _ U1 U2)
theorem set_exc1 {name : Str} {v : Value} {cd : ClassData} {E : Value → Shared → Prop} {Q : Unit → Shared → Prop} (F : Fr h₀ L s.heap m) (X₀ : K.In h₀) (N : News h₀ L s.heap ((e, excO t none) :: news)) (hne' : ∀ p ∈ news, p.1 < e)
    (hs : findIn K (.ref 52) "__setattr__" = some (some (.builtin "object.__setattr__"))) (hc : clsIn K 52 = some cd) (hm : cd.mro = [.ref 52, .ref 39, .type "Exception", .type "BaseException", .type "object"]) (hd : cd.hasDict = true)
    (ht : findIn K (.ref 52) name = some none)
    (h : ∀ d h', Fr h₀ L h' m → News h₀ L h' ((d, dictOf [⟨PyData.keyHash w.params name, .str name (s.toks + 1), v⟩] 1) :: (e, excO t (some d)) :: news) → (∀ p ∈ news, p.1 < d) → e < d → Q () { s with heap := h', toks := s.toks + 2 }) :
    wpAny (model PySem.Challenge.rw_rg0148_01.row.prog w) A (setAttr (.ref e) name v) Q E s := by
  have X := X₀.keeps F.keep
  have hne : ∀ p ∈ news, p.1 ≠ e := fun p hp => Nat.ne_of_lt (hne' p hp)
  obtain ⟨hp, g, dr, tk, os⟩ := s
  have I : InstAt hp e (excO t none) 52 none := ⟨(N _ (.head _)).1, rfl, rfl, trivial⟩
  refine set_plain X I hs (osa_exc (s := ⟨hp, g, dr, tk + 1, os⟩) X I hc hm ht fun b => ?_)
  have N1 := N.push F emptyDict
  have F1 := F.push emptyDict
  have lt : ∀ p ∈ (e, excO t none) :: news, p.1 < hp.objs.size := fun p hp => Heap.lt_size (N p hp).1
  obtain ⟨F2, N2⟩ := news_upd (f := fun o => { o with dict := some hp.objs.size }) (pre := [(hp.objs.size, emptyDict)]) F1 N1 (by intro p hp; rw [List.mem_singleton.mp hp]; exact (Nat.ne_of_lt (lt _ (.head _))).symm) hne (o' := excO t (some hp.objs.size)) rfl rfl
  refine wpAny_bind (wpAny_pure (wpAny_bind (wpAny_bind (wpAny_loadPart I.at_ (wpAny_bind (looks_clsIn X hc _ _ _ _ (fun _ _ e => e) ?_))))))
  rw [hd]
  refine wpAny_bind (wpAny_alloc (wpAny_bind (wpAny_update (N1 _ (.tail _ (.head _))).1 ?_)))
  refine wpAny_pure (a := some hp.objs.size) ?_
  refine nsSet_new rfl F2 N2 (fun p hp' => Nat.ne_of_lt ?_) rfl (Nat.le_of_ble_eq_true rfl) fun h' F' N' => ?_
  · rcases List.mem_cons.mp hp' with rfl | hp'
    · exact lt (e, excO t none) (.head _)
    · exact lt _ (.tail _ hp')
  · exact h _ _ F' N' (fun p hp => lt _ (.tail _ hp)) (lt (e, excO t none) (.head _))
theorem set_exc2 {name : Str} {v : Value} {d : Addr} {es es' : List DictEntry} {n n' : Nat} {cd : ClassData} {E : Value → Shared → Prop} {Q : Unit → Shared → Prop} (F : Fr h₀ L s.heap m) (X₀ : K.In h₀) (N : News h₀ L s.heap ((d, dictOf es n) :: (e, excO t (some d)) :: news)) (hne : ∀ p ∈ news, p.1 < d) (hed : e < d)
    (hs : findIn K (.ref 52) "__setattr__" = some (some (.builtin "object.__setattr__"))) (hc : clsIn K 52 = some cd) (hm : cd.mro = [.ref 52, .ref 39, .type "Exception", .type "BaseException", .type "object"]) (hd : cd.hasDict = true)
    (ht : findIn K (.ref 52) name = some none) (hl : (getL name es).isSome = true) (e' : (putL name (PyData.keyHash w.params name) (.str name (s.toks + 1)) v es, putN name es n) = (es', n')) (hz : es'.length ≤ 1000)
    (h : ∀ h', Fr h₀ L h' m → News h₀ L h' ((d, dictOf es' n') :: (e, excO t (some d)) :: news) → Q () { s with heap := h', toks := s.toks + 2 }) :
    wpAny (model PySem.Challenge.rw_rg0148_01.row.prog w) A (setAttr (.ref e) name v) Q E s := by
  have X := X₀.keeps F.keep
  obtain ⟨e1, e2⟩ := Prod.mk.inj e'
  subst e1 e2
  obtain ⟨hp, g, dr, tk, os⟩ := s
  have I : InstAt hp e (excO t (some d)) 52 (some (dictOf es n)) := ⟨(N _ (.tail _ (.head _))).1, rfl, rfl, (N _ (.head _)).1⟩
  refine set_plain X I hs (osa_exc (s := ⟨hp, g, dr, tk + 1, os⟩) X I hc hm ht fun b => ?_)
  refine wpAny_bind (wpAny_pure (wpAny_bind (wpAny_bind (wpAny_loadPart I.at_ (wpAny_bind (looks_clsIn X hc _ _ _ _ (fun _ _ e => e) ?_))))))
  rw [hd]
  refine wpAny_pure (a := some d) ?_
  refine nsSet_new rfl F N (fun p hp' => Nat.ne_of_lt ?_) hl hz fun h' F' N' => h h' F' N'
  rcases List.mem_cons.mp hp' with rfl | hp'
  · exact hed
  · exact hne _ hp'
end
end
section
section
variable {w : World} {A : Around} {E : Value → Shared → Prop} {s : Shared} {L : Addr} {h₀ : Heap} {m : Str → Option Value} {news : Led}
theorem call_err {rest : List Value} {Q : Value → Shared → Prop} (F : Fr h₀ L s.heap m) (X₀ : (wrK w.params).In h₀) (N : News h₀ L s.heap news) (hz : rest.length ≤ 1000)
    (h : ∀ e t h', Fr h₀ L h' m → News h₀ L h' ((e, excO t none) :: (t, ({ cls := .type "tuple", data := .seq rest.toArray } : Obj)) :: news) → (∀ p ∈ (t, ({ cls := .type "tuple", data := .seq rest.toArray } : Obj)) :: news, p.1 < e) →
      codeAny (model PySem.Challenge.rw_rg0148_01.row.prog w) (A.under (.builtin "type.__call__" ⟨.ref 52 :: rest, []⟩)) (.call (.ref 36) ⟨.ref e :: rest, []⟩)
        (InitBack e fun r s' => match r with | .ok (.ret v) => Q v s' | .ok _ => False | .error e => E e s') { s with heap := h' }) :
    wpAny (model PySem.Challenge.rw_rg0148_01.row.prog w) A (call (.ref 52) rest) Q E s := by
  have X := X₀.keeps F.keep
  obtain ⟨hp, g, d, t, os⟩ := s
  have hC : (wrK w.params).lookup 52 = some _ := rfl
  have hI : (wrK w.params).lookup 36 = some _ := rfl
  have N' := (N.push F { cls := .type "tuple", data := .seq rest.toArray }).push (F.push _) (excO hp.objs.size none)
  have F' := (F.push { cls := .type "tuple", data := .seq rest.toArray }).push (excO hp.objs.size none)
  rw [Heap.size_push] at N'
  refine exc_call PySem.F.excBase_Exception rfl rfl rfl (X _ _ hC) (looks_findIn X (r := some (.ref 36)) (by kernel_rfl)) (X _ _ hI) rfl (wpAny_call (codeAny_mono (h _ _ _ F' N' (fun p hq => (List.mem_cons.mp hq).elim (fun q => q ▸ Nat.lt_succ_self _) fun q => Nat.lt_succ_of_lt (Heap.lt_size (N p q).1))) fun r s' z => ?_)) (Nat.le_trans hz (by rw [sizeLine_eq]; omega))
  rcases r with e | (v | _ | _ | _) <;> exact z
def RaiseEnd (w : World) (E : Value → Shared → Prop) (v : Value) (s₁ : Shared) : Prop :=
  ∃ e t d, v = .ref e ∧ (wrK w.params).In s₁.heap ∧ s₁.heap.get? e = some (excO t d) ∧ E (.ref e) s₁
theorem raise_err {env : Env} {ex : Expr} {pos : Pos} {Q : Flow → Shared → Prop} (hh : A.handled = none)
    (h : wpAny (model PySem.Challenge.rw_rg0148_01.row.prog w) A (eval ex env) (RaiseEnd w E) E s) :
    wpAny (model PySem.Challenge.rw_rg0148_01.row.prog w) A (exec (.Raise (some ex) none pos) env) Q E s := by
  rw [arm_exec_Raise]
  simp only [evalOpt, Option.map]
  refine wpAny_bind (wpAny_standAt ?_)
  unfold raiseStmt
  refine wpAny_bind (wpAny_bind (wpAny_mono h (fun v s₁ h₁ => wpAny_bind (wpAny_standAt (wpAny_pure ?_))) fun _ _ x => x))
  obtain ⟨e, t, d, rfl, X, he, hE⟩ := h₁
  have hC : s₁.heap.get? 52 = some (excClassObj _ _ 52 _ _ [.ref 39, .type "Exception", .type "BaseException", .type "object"] _ _ _ _ _ _ _ _ _ _ _ _) := X _ _ rfl
  obtain ⟨hp, g, dr, tk, os⟩ := s₁
  have hcB : ([.ref 52, .ref 39, .type "Exception", .type "BaseException", .type "object"] : List Value).contains (.type "BaseException") = true := rfl
  repeat (first | with_reducible refine wpAny_loadPart_at he ?_ | with_reducible refine wpAny_loadPart_at hC ?_ | (with_reducible refine wpAny_isSubtype_exc hC ?_; rw [hcB]) | wp_step)
  exact wpAny_raiseNew_none hh hE
end
end
section
/-- the error e, its own dict de, its traceback's head marked fl -/
def TracedA (h B : Heap) (e de : Addr) (fl : Value) : Prop :=
  ∃ oe vs T oT ts, h.get? e = some oe ∧ oe.cls = .ref 52 ∧ oe.dict = some de ∧ oe.data = .fields vs ∧ vs[1]? = some (.ref T) ∧ B.get? T = none ∧ T ≠ e ∧ h.get? T = some oT ∧ oT.data = .fields ts ∧ ts[3]? = some fl
abbrev TracedD (h B : Heap) (e de : Addr) : Prop := TracedA h B e de .none
section
variable {M : Model} {A : Around} {E : Value → Shared → Prop} {s : Shared} {B : Heap} {env : Env} {outer : List Env} {L e de : Addr} {oe : Obj} {vs : Array Value}
theorem entry_n {head : Value} {hadNext : Bool} {Q : Unit → Shared → Prop} (hfr : A.frames = some (env :: outer)) (hl : s.heap.FunFrames B (env :: outer)) (hf : env.frame = some L) (he : s.heap.get? e = some oe) (hkb : B.StaysIn s.heap)
    (hen : B.get? e = none) (hc : oe.cls = .ref 52) (hdi : oe.dict = some de) (hd : oe.data = .fields vs) (hsz : 1 < vs.size)
    (h : ∀ h', B.StaysIn h' → h'.FunFrames B (env :: outer) → TracedA h' B e de (rawInt L) → s.heap.UpToSlots h' → Q () { s with heap := h' }) :
    wpAny M A (do let a ← frameOf env; let pl ← entryPlaceOf L hadNext; let b ← EntryCells.newEntry head a .none (rawInt L) .none pl; setField (.ref e) 1 b) Q E s := by
  have noE : e ∉ (env :: outer).filterMap (·.frame) := fun hm => by
    obtain ⟨_, o, ho, hnf⟩ := hl.mem hm
    rw [he] at ho
    cases ho
    exact hnf vs hd
  refine wpAny_bind (wpAny_frameOf_fun hfr hl hf fun h₁ hs₁ => ?_)
  refine wpAny_bind (wpAny_entryPlaceOf fun pl hpl => ?_)
  unfold EntryCells.newEntry newFields
  refine wpAny_bind (wpAny_newObj_type ?_ (hpl.sizeOk5 _ _ _ _ _))
  generalize hto : ({ cls := .type "traceback", dict := none, data := .fields ([head, .ref L, .none, rawInt L, .none] ++ (if pl.isEmpty then List.replicate 6 Value.none else pl)).toArray } : Obj) = to
  have htd : to.data = .fields ([head, .ref L, .none, rawInt L, .none] ++ (if pl.isEmpty then List.replicate 6 Value.none else pl)).toArray := by rw [← hto]
  have htf : to.isFreed = false := by rw [← hto]; rfl
  have e1 : h₁.get? e = some oe := (hs₁.2.1 e noE).trans he
  have b1 : B.StaysIn h₁ := fun b o q => (hs₁.2.1 b fun hm => by rw [(hl.mem hm).1] at q; cases q).trans (hkb b o q)
  have e2 : (h₁.push to).get? e = some oe := Heap.get?_push_of_some _ e1
  have tne : h₁.objs.size ≠ e := Nat.ne_of_gt (Heap.lt_size e1)
  have d3 := Obj.data_mapFields hd (·.setIfInBounds 1 (Value.ref h₁.objs.size))
  have e3 := Heap.get?_update_self (Obj.mapFields (·.setIfInBounds 1 (Value.ref h₁.objs.size))) e2 (Obj.isFreed_of_fields d3)
  have t3 := (Heap.get?_update_other (h₁.push to) (Obj.mapFields (·.setIfInBounds 1 (Value.ref h₁.objs.size))) (Ne.symm tne)).trans (Heap.get?_push_size h₁ htf)
  have kp : ∀ b o, b ≠ e → h₁.get? b = some o → ((h₁.push to).update e (Obj.mapFields (·.setIfInBounds 1 (Value.ref h₁.objs.size)))).get? b = some o := fun b o hb hq => by
    rw [Heap.get?_update_other _ _ (Ne.symm hb)]
    exact Heap.get?_push_of_some _ hq
  have nr : ∀ b o, s.heap.get? b = some o → (∀ vs, o.data ≠ .fields vs) → b ≠ e := fun b o hb hn q => by
    rw [q, he] at hb
    cases hb
    exact hn vs hd
  have up : s.heap.UpToSlots ((h₁.push to).update e (Obj.mapFields (·.setIfInBounds 1 (Value.ref h₁.objs.size)))) := fun b o hb hn => by
    obtain ⟨sl, q⟩ := hs₁.2.2 b o hb
    exact ⟨sl, kp b _ (nr b o hb hn) q⟩
  refine wpAny_setField e2 hd hsz (h _ (fun b o q => kp b o (fun z => by rw [z, hen] at q; cases q) (b1 b o q)) (hl.of_keeps fun b o hb hn => by obtain ⟨sl, q⟩ := up b o hb hn; exact ⟨_, q, rfl⟩) ?_ up)
  refine ⟨_, _, h₁.objs.size, _, _, e3, (Obj.cls_mapFields _ _).trans hc, ?_, d3, by simp [hsz], b1.fresh, tne, t3, htd, ?_⟩
  · rw [← hdi]
    obtain ⟨c, di, dt, sl⟩ := oe
    cases dt <;> rfl
  · rcases hpl with rfl | ⟨_, _, _, _, _, _, _, rfl⟩ <;> simp
theorem flight_d {l : List Env} {fl : Value} {Q : Unit → Shared → Prop} (hkb : B.StaysIn s.heap) (hl : s.heap.FunFrames B l) (ht : TracedA s.heap B e de fl)
    (h : ∀ h', B.StaysIn h' → h'.FunFrames B l → TracedD h' B e de → s.heap.UpToSlots h' → Q () { s with heap := h' }) : wpAny M A (setFlight (.ref e) none) Q E s := by
  obtain ⟨oe, vs, T, oT, ts, he, hc, hdi, hd, h1, hnT, tne, hT, hdT, h3⟩ := ht
  unfold setFlight
  refine wpAny_bind (wpAny_field he hd h1 ?_)
  rw [if_pos (show (Value.ref T != Value.none) = true from by simp)]
  have hsz : 3 < ts.size := (Array.getElem?_eq_some_iff.mp h3).1
  have ot : ∀ b, b ≠ T → (s.heap.update T (Obj.mapFields (·.setIfInBounds 3 ((none : Option Addr).elim Value.none fun f => rawInt f)))).get? b = s.heap.get? b := fun b hb => Heap.get?_update_other _ _ (Ne.symm hb)
  have nr : ∀ b o, s.heap.get? b = some o → (∀ vs, o.data ≠ .fields vs) → b ≠ T := fun b o hb hn q => by
    rw [q, hT] at hb
    cases hb
    exact hn ts hdT
  have d4 := Obj.data_mapFields hdT (·.setIfInBounds 3 ((none : Option Addr).elim Value.none fun f => rawInt f))
  refine wpAny_setField hT hdT hsz (h _ (fun b o q => (ot b fun z => by rw [z, hnT] at q; cases q).trans (hkb b o q)) (hl.of_keeps fun b o hb hn => ⟨o, (ot b (nr b o hb hn)).trans hb, rfl⟩) ?_ fun b o hb hn => ⟨o.slots, (ot b (nr b o hb hn)).trans hb⟩)
  exact ⟨oe, vs, T, _, _, (ot e (Ne.symm tne)).trans he, hc, hdi, hd, h1, hnT, tne, Heap.get?_update_self _ hT (Obj.isFreed_of_fields d4), d4, by simp [hsz]⟩
/-- a frame that a traceback does not know yet notes the error -/
theorem note_more {Q : Unit → Shared → Prop} (hfr : A.frames = some (env :: outer)) (hl : s.heap.FunFrames B (env :: outer)) (hf : env.frame = some L) (ht : TracedD s.heap B e de) (hkb : B.StaysIn s.heap) (hen : B.get? e = none)
    (h : ∀ h', B.StaysIn h' → h'.FunFrames B (env :: outer) → TracedA h' B e de (rawInt L) → s.heap.UpToSlots h' → Q () { s with heap := h' }) : wpAny M A (noteFrame (.ref e) env) Q E s := by
  obtain ⟨oe, vs, T, oT, ts, he, hc, hdi, hd, h1, hnT, tne, hT, hdT, h3⟩ := ht
  unfold noteFrame
  simp only [hf]
  refine wpAny_bind (wpAny_field he hd h1 ?_)
  rw [if_pos (show (Value.ref T != Value.none) = true from by simp)]
  refine wpAny_bind (wpAny_field hT hdT h3 ?_)
  rw [if_neg (show ¬ ((Value.none == rawInt L) = true) from by simp [rawInt])]
  refine wpAny_bind (wpAny_setField hT hdT (Array.getElem?_eq_some_iff.mp h3).1 ?_)
  have ot : ∀ b, b ≠ T → (s.heap.update T (Obj.mapFields (·.setIfInBounds 3 Value.none))).get? b = s.heap.get? b := fun b hb => Heap.get?_update_other _ _ (Ne.symm hb)
  have nr : ∀ b o, s.heap.get? b = some o → (∀ vs, o.data ≠ .fields vs) → b ≠ T := fun b o hb hn q => by
    rw [q, hT] at hb
    cases hb
    exact hn ts hdT
  refine entry_n hfr (hl.of_keeps fun b o hb hn => ⟨o, (ot b (nr b o hb hn)).trans hb, rfl⟩) hf ((ot e (Ne.symm tne)).trans he)
    (fun b o q => (ot b fun z => by rw [z, hnT] at q; cases q).trans (hkb b o q)) hen hc hdi hd (Array.getElem?_eq_some_iff.mp h1).1
    fun h' x1 x2 x3 x4 => h h' x1 x2 x3 fun b o hb hn => x4 b o ((ot b (nr b o hb hn)).trans hb) hn
/-- the first frame that the error leaves -/
theorem leaving_one {Q : Unit → Shared → Prop} (hfr : A.frames = some (env :: outer)) (hl : s.heap.FunFrames B (env :: outer)) (hf : env.frame = some L) (he : s.heap.get? e = some oe) (hkb : B.StaysIn s.heap)
    (hen : B.get? e = none) (hc : oe.cls = .ref 52) (hdi : oe.dict = some de) (hd : oe.data = .fields vs) (h1 : vs[1]? = some .none)
    (h : ∀ h', B.StaysIn h' → h'.FunFrames B (env :: outer) → TracedD h' B e de → s.heap.UpToSlots h' → Q () { s with heap := h' }) : wpAny M A (leaving env (.ref e)) Q E s := by
  unfold leaving noteFrame
  simp only [hf]
  refine wpAny_bind (wpAny_bind (wpAny_field he hd h1 ?_))
  rw [if_neg (by decide)]
  exact entry_n hfr hl hf he hkb hen hc hdi hd (Array.getElem?_eq_some_iff.mp h1).1 fun h₁ y1 y2 y3 y4 => flight_d (s := { s with heap := h₁ }) y1 y2 y3 fun h₂ z1 z2 z3 z4 => h h₂ z1 z2 z3 (y4.trans z4)
/-- a later one -/
theorem leaving_more {Q : Unit → Shared → Prop} (hfr : A.frames = some (env :: outer)) (hl : s.heap.FunFrames B (env :: outer)) (hf : env.frame = some L) (ht : TracedD s.heap B e de) (hkb : B.StaysIn s.heap) (hen : B.get? e = none)
    (h : ∀ h', B.StaysIn h' → h'.FunFrames B (env :: outer) → TracedD h' B e de → s.heap.UpToSlots h' → Q () { s with heap := h' }) : wpAny M A (leaving env (.ref e)) Q E s := by
  unfold leaving
  exact wpAny_bind (note_more hfr hl hf ht hkb hen fun h₁ y1 y2 y3 y4 => flight_d (s := { s with heap := h₁ }) y1 y2 y3 fun h₂ z1 z2 z3 z4 => h h₂ z1 z2 z3 (y4.trans z4))
end
/-- the error in flight: its own dict is de -/
def Fly (B : Heap) (l : List Env) (e de : Addr) (h : Heap) : Prop := B.StaysIn h ∧ B.get? e = none ∧ h.FunFrames B l ∧ TracedD h B e de
def ExcDict (w : World) (D : Obj) (at_ : Int) : Prop := ∃ k0 k1 k2 tk ta td, D = dictOf [ent w "kind" k0 (.str (Str.ofString "too_deep") tk), ent w "at" k1 (.int at_ ta), ent w "detail" k2 (.str (Str.ofString "") td)] 3
def Thrown (w : World) (base : Heap) (l : List Env) (e : Addr) (at_ : Int) (R : Led) (h : Heap) : Prop :=
  ∃ (B : Heap) (de : Addr) (D : Obj), base.StaysIn B ∧ (∀ q ∈ R, B.get? q.1 = some q.2 ∧ base.get? q.1 = none) ∧ B.get? de = some D ∧ base.get? de = none ∧ ExcDict w D at_ ∧ Fly B l e de h
theorem Thrown.sub {w : World} {base : Heap} {l : List Env} {e : Addr} {at_ : Int} {R R1 : Led} {h : Heap} (s : Sub R R1) (x : Thrown w base l e at_ R1 h) : Thrown w base l e at_ R h := by
  obtain ⟨B, de, D, h1, h2, h3⟩ := x
  exact ⟨B, de, D, h1, fun q hq => h2 q (s q hq), h3⟩
section
variable {w : World} {M : Model} {A : Around} {E : Value → Shared → Prop} {s' : Shared} {base g g₂ : Heap} {outer : List Env} {L a e : Addr} {m : Str → Option Value} {name : Str} {scope : Scope} {cd : Value} {Q : Unit → Shared → Prop} {R news : Led} {at_ : Int}
theorem leave_thrown (K : Below A base outer g) (F : Fr g L g₂ m) (x : Thrown w base (envOf name scope L a cd :: outer) e at_ R s'.heap) (hsm : g₂.UpToSlots s'.heap)
    (hQ : ∀ h', Thrown w base outer e at_ R h' → g.UpToSlots h' → Q () { s' with heap := h' }) :
    wpAny M (A.deeper (envOf name scope L a cd)) (leaving (envOf name scope L a cd) (.ref e)) Q E s' := by
  obtain ⟨B, de, D, h1, h2, h3, h4, h5, f1, f2, f3, f4⟩ := x
  refine leaving_more (Around.frames_deeper K.stack) f3 rfl f4 f1 f2 fun h' x1 x2 x3 x4 => hQ h' ⟨B, de, D, h1, h2, h3, h4, h5, x1, f2, x2.2.2, x3⟩ ?_
  exact (Heap.UpToSlots.of_keeps F.keep).trans (hsm.trans x4)
/-- the frame that raised it -/
theorem leave_raised {t d : Addr} {D : Obj} (K : Below A base outer g) (F : Fr g L s'.heap m) (N : News g L s'.heap news) (he : (e, excO t (some d)) ∈ news) (hd : (d, D) ∈ news) (hx : ExcDict w D at_) (hne : d ≠ e) (hR : ∀ q ∈ R, q ∈ news ∧ q.1 ≠ e)
    (hQ : ∀ h', Thrown w base outer e at_ R h' → g.UpToSlots h' → Q () { s' with heap := h' }) (hk : scope.kind = .function := by rfl) :
    wpAny M (A.deeper (envOf name scope L a cd)) (leaving (envOf name scope L a cd) (.ref e)) Q E s' := by
  have K' := K.push (name := name) (a := a) (cd := cd) F hk
  generalize hl : (envOf name scope L a cd :: outer).filterMap (·.frame) = l
  have hin : ∀ env ∈ (envOf name scope L a cd :: outer), ∀ b, env.frame = some b → b ∈ e :: l := fun env h1 b hb => .tail _ (hl ▸ List.mem_filterMap.mpr ⟨env, h1, hb⟩)
  have off : ∀ q ∈ news, q.1 ≠ e → q.1 ∉ e :: l := fun q hq hqe hm => by
    rcases List.mem_cons.mp hm with h1 | h1
    · exact hqe h1
    · rw [← hl] at h1
      obtain ⟨env, h2, hf⟩ := List.mem_filterMap.mp h1
      rcases List.mem_cons.mp h2 with rfl | h2
      · exact (N q hq).2.1 (Option.some.inj hf).symm
      · obtain ⟨o, ho, _⟩ := (K.frames.mem (List.mem_filterMap.mpr ⟨env, h2, hf⟩)).2
        rw [(N q hq).2.2] at ho
        cases ho
  have bE : base.get? e = none := fresh_of_stays K.stays (N _ he).2.2
  have st : base.StaysIn (hideAll s'.heap (e :: l)) := fun b o q => hideAll_get _ (K'.stays b o q) fun hm => by
    rcases List.mem_cons.mp hm with h1 | h1
    · rw [h1, bE] at q; cases q
    · rw [← hl] at h1
      rw [(K'.frames.mem h1).1] at q
      cases q
  refine leaving_one (B := hideAll s'.heap (e :: l)) K'.stack (funFrames_hide K'.frames hin) rfl (N _ he).1 (fun b o q => of_hideAll _ q) (hideAll_none _ (.head _)) rfl rfl rfl rfl fun h' x1 x2 x3 x4 =>
    hQ h' ⟨_, d, D, st, fun q hq => ⟨hideAll_get _ (N q (hR q hq).1).1 (off q (hR q hq).1 (hR q hq).2), fresh_of_stays K.stays (N q (hR q hq).1).2.2⟩, hideAll_get _ (N _ hd).1 (off _ hd hne), fresh_of_stays K.stays (N _ hd).2.2, hx, x1, hideAll_none _ (.head _), x2.2.2, x3⟩ ?_
  exact (Heap.UpToSlots.of_keeps F.keep).trans x4
end
end
section
section
variable {w : World} {A₀ : Around} {E : Value → Shared → Prop} {s' : Shared} {h₀ h : Heap} {outer : List Env} {L a e : Addr} {m : Str → Option Value} {name : Str} {scope : Scope} {cd : Value}
  {n : Str} {b₀ : Stmt} {suite : List Stmt} {pos np : Pos} {others : List ExceptHandler} {Q : Flow → Shared → Prop} {R : Led} {at_ : Int} {p : Program} {loose : List Str} {mg mb : Str → Option Value} {x : Str}
/-- the error is caught by its own class, under a name -/
theorem caught_err (K : Below A₀ h₀ outer h₀) (F : Fr h₀ L h m) (th : Thrown w h₀ (envOf name scope L a cd :: outer) e at_ R s'.heap) (hsm : h.UpToSlots s'.heap) (X : (wrK w.params).In h₀) (T : TopRead p loose mg mb h₀)
    (ex : nsIn (wrK w.params) mainGlobals x = some (some (.ref 52)))
    (k : ∀ h' de oe D tk vs, Fr h₀ L h' (fun y => if y = n then some (.ref e) else m y) → News h₀ L h' ((e, oe) :: (de, D) :: R) → oe.cls = .ref 52 → oe.dict = some de → oe.data = .fields vs → ExcDict w D at_ →
      wpAny (model PySem.Challenge.rw_rg0148_01.row.prog w) ((A₀.deeper (envOf name scope L a cd)).mark (some (.ref e))) (execs (b₀ :: suite) (envOf name scope L a cd))
        (fun f s₄ => wpAny (model PySem.Challenge.rw_rg0148_01.row.prog w) (A₀.deeper (envOf name scope L a cd)) (do bindName (envOf name scope L a cd) n .none; unbindBehindTheSuite (envOf name scope L a cd) n pos) (fun _ s₅ => Q f s₅) E s₄)
        (AsSuiteRaised (model PySem.Challenge.rw_rg0148_01.row.prog w) ((A₀.deeper (envOf name scope L a cd)).mark (some (.ref e))) (envOf name scope L a cd) n pos (notedBy (model PySem.Challenge.rw_rg0148_01.row.prog w) ((A₀.deeper (envOf name scope L a cd)).mark (some (.ref e))) (envOf name scope L a cd) (cameBackBy (model PySem.Challenge.rw_rg0148_01.row.prog w) (A₀.deeper (envOf name scope L a cd)) (envOf name scope L a cd) E)))
        { s' with heap := h', toks := tk })
    (hk : scope.kind = .function := by rfl) (hlo : (envOf name scope L a cd).kindOf n = some .local := by rfl) (hx : (envOf name scope L a cd).kindOf x = some .globalImplicit := by rfl) (hd : (x == ("__debug__" : Str)) = false := by decide) :
    wpAny (model PySem.Challenge.rw_rg0148_01.row.prog w) (A₀.deeper (envOf name scope L a cd)) (noteFrame (.ref e) (envOf name scope L a cd))
      (fun _ s₂ => wpAny (model PySem.Challenge.rw_rg0148_01.row.prog w) (A₀.deeper (envOf name scope L a cd)) (setFlight (.ref e) none) (fun _ s₃ =>
        wpAny (model PySem.Challenge.rw_rg0148_01.row.prog w) (A₀.deeper (envOf name scope L a cd)) (handleBy (.ref e) (envOf name scope L a cd) (.ExceptHandler (some (.Name x np)) (some n) (b₀ :: suite) pos :: others)) Q E s₃) E s₂) E s' := by
  obtain ⟨B, de, D, hB, hR, hde, hdb, hD, f1, f2, f3, f4⟩ := th
  refine note_more (Around.frames_deeper K.stack) f3 rfl f4 f1 f2 fun h₁ y1 y2 y3 y4 => ?_
  refine flight_d (s := { s' with heap := h₁ }) y1 y2 y3 fun h₂ z1 z2 z3 z4 => ?_
  dsimp only at z4 ⊢
  have F₂ := F.of_stays (fun b o q => z1 b o (hB b o q)) ((hsm.trans y4).trans z4)
  have z3' := z3
  obtain ⟨ob, _, _, _, _, hob, hobc, _⟩ := z3
  have hC : h₂.get? 52 = some (excClassObj _ _ 52 _ _ [.ref 39, .type "Exception", .type "BaseException", .type "object"] _ _ _ _ _ _ _ _ _ _ _ _) := F₂.keep _ _ (X _ _ rfl)
  refine wpAny_handleBy_cons (codeAny_handlers_test (name_K (s := { s' with heap := h₂ }) F₂ X T ex ?_ hk hx hd)) (by intro q; cases q)
  refine wpAny_excMatches_sub_self hC hob hobc rfl (codeAny_handlers_suite_as ?_)
  refine flight_d (s := { s' with heap := h₂ }) z1 z2 z3' fun h₃ u1 u2 u3 u4 => ?_
  dsimp only at u4 ⊢
  have F₃ := F.of_stays (fun b o q => u1 b o (hB b o q)) (((hsm.trans y4).trans z4).trans u4)
  obtain ⟨oe, vs, _, _, _, he, hc, hdi, hda, _⟩ := u3
  obtain ⟨_, ⟨L', oL, hf, hn', hoL, hnf⟩, _⟩ := u2
  obtain rfl : L = L' := Option.some.inj hf
  have N₃ : News h₀ L h₃ ((e, oe) :: (de, D) :: R) := fun q hq => by
    rcases List.mem_cons.mp hq with rfl | hq
    · exact ⟨he, (fun z => by dsimp only at z; rw [z, hoL] at he; cases he; exact hnf _ hda), fresh_of_stays hB f2⟩
    have hq' : B.get? q.1 = some q.2 ∧ h₀.get? q.1 = none := by
      rcases List.mem_cons.mp hq with rfl | hq
      · exact ⟨hde, hdb⟩
      · exact hR q hq
    exact ⟨u1 _ _ hq'.1, (fun z => by have z2 := hq'.1; rw [z, hn'] at z2; cases z2), hq'.2⟩
  refine stN F₃ N₃ (fun h₄ F₄ N₄ => ?_) hk hlo
  exact k h₄ de oe D _ vs F₄ N₄ hc hdi hda hD
end
end
section
/-- as Spec, of a call that may be too deep: then the error that tells the place bad -/
def SpecE (w : World) (f : Addr) (args : List Value) (k : Nat) (news : Led) (R : Led) (bad : Option Int) (post : Value → Led → Prop) : Prop :=
  ∀ (p : Program) (loose : List Str) (mean : ExcName → Option Value) (mg mb : Str → Option Value) (dp un : Nat) (gd : Option (List Code)) (cn : Str) (cs : Scope) (a : Addr) (ccd : Value) (cl : List (Str × Addr)) (outer : List Env) (A₀ : Around) (base h₀ : Heap) (L : Addr) (m : Str → Option Value) (s : Shared)
    (Q E : Value → Shared → Prop),
    Below A₀ base outer h₀ → Fr h₀ L s.heap m → (wrK w.params).In h₀ → News h₀ L s.heap news → Top p loose mean mg mb h₀ → cs.kind = .function → dp + k < recursionLimit → un + 8 * k < cLine →
    (∀ r news' h' tk', bad = none → Fr h₀ L h' m → News h₀ L h' news' → post r news' → Q r { s with heap := h', toks := tk' }) →
    (∀ e at_ h' tk' g', bad = some at_ → Fr h₀ L g' m → g'.UpToSlots h' → Thrown w base (envX cn cs L a ccd cl :: outer) e at_ R h' → E (.ref e) { s with heap := h', toks := tk' }) →
    wpAny (model PySem.Challenge.rw_rg0148_01.row.prog w) (ktrTop dp un gd cn cs L a ccd cl outer) (call (.ref f) args) Q E s
theorem SpecE.use {w : World} {f : Addr} {args : List Value} {k : Nat} {news news₀ R : Led} {bad : Option Int} {post : Value → Led → Prop} (C : SpecE w f args k news R bad post)
  {p : Program} {loose : List Str} {mean : ExcName → Option Value} {mg mb : Str → Option Value} {dp un : Nat} {gd : Option (List Code)} {cn : Str} {cs : Scope} {a : Addr} {ccd : Value} {cl : List (Str × Addr)} {outer : List Env} {A₀ : Around} {base h₀ : Heap} {L : Addr} {m : Str → Option Value} {s : Shared}
    {Q E : Value → Shared → Prop}
    (B : Below A₀ base outer h₀) (F : Fr h₀ L s.heap m) (X : (wrK w.params).In h₀) (N : News h₀ L s.heap news₀) (T : Top p loose mean mg mb h₀) (hk : cs.kind = .function) (hs : ∀ q ∈ news, q ∈ news₀) (hd : dp + k < recursionLimit) (hu : un + 8 * k < cLine)
    (ret : ∀ r news' h' tk', bad = none → Fr h₀ L h' m → News h₀ L h' news' → post r news' → Q r { s with heap := h', toks := tk' })
    (err : ∀ e at_ h' tk' g', bad = some at_ → Fr h₀ L g' m → g'.UpToSlots h' → Thrown w base (envX cn cs L a ccd cl :: outer) e at_ R h' → E (.ref e) { s with heap := h', toks := tk' }) :
    wpAny (model PySem.Challenge.rw_rg0148_01.row.prog w) (ktrTop dp un gd cn cs L a ccd cl outer) (call (.ref f) args) Q E s :=
  C _ _ _ _ _ _ _ _ _ _ _ _ _ _ _ _ _ _ _ _ _ _ B F X (fun q hq => N q (hs q hq)) T hk hd hu ret err
theorem SpecE.of {w : World} {f : Addr} {args : List Value} {k : Nat} {news R : Led} {post : Value → Led → Prop} (C : Spec w f args k news post) : SpecE w f args k news R none post := by
  unfold SpecE
  intro p loose mean mg mb dp un gd cn cs a ccd cl outer A₀ base h₀ L m s Q E B F X N T hc hd hu hret _
  exact C p loose mean mg mb dp un gd cn cs a ccd cl outer A₀ base h₀ L m s Q E B F X N T hc hd hu fun r n h' tk F' N' po => hret r n h' tk rfl F' N' po
theorem SpecE.mono {w : World} {f : Addr} {args : List Value} {k k' : Nat} {news R : Led} {bad bad' : Option Int} {post post' : Value → Led → Prop} (C : SpecE w f args k news R bad post) (hk : k ≤ k') (e : bad = bad') (h : ∀ r n, bad = none → post r n → post' r n) : SpecE w f args k' news R bad' post' := by
  subst e
  unfold SpecE at C ⊢
  intro p loose mean mg mb dp un gd cn cs a ccd cl outer A₀ base h₀ L m s Q E B F X N T hc hd hu hret herr
  exact C p loose mean mg mb dp un gd cn cs a ccd cl outer A₀ base h₀ L m s Q E B F X N T hc (Nat.lt_of_le_of_lt (by omega) hd) (Nat.lt_of_le_of_lt (by omega) hu) (fun r n h' tk b F' N' po => hret r n h' tk b F' N' (h r n b po)) herr
local macro_rules | `(tactic| k_mem) => `(tactic| first | assumption | (refine Sub.mem (by assumption) ?_; k_mem))
local macro_rules | `(tactic| k_all) => `(tactic| assumption)
local macro_rules | `(tactic| walk_at "call builtin:len") => `(tactic| (k_here; (with_reducible show wpAny _ _ (call (Value.builtin "len") [Value.ref _]) _ _ _); k_dflt (refine' len_list ?k1 ?k2 ?_; (case k1 => exact News.isList (by k_asm) (by k_mem)); (case k2 => (simp only [List.size_toArray, List.length_cons, List.length_nil]; omega)); k_whole); (try simp only [List.size_toArray, List.length_cons, List.length_nil])))
local macro_rules | `(tactic| walk_at "subscriptTail") => `(tactic| (k_here; (with_reducible show wpAny _ _ (subscriptTail _ _ (Value.ref _) (Value.int _ _)) _ _ _); k_dflt (refine' item_listL ?k1 ?k2 ?k3 ?k4 ?_ ?k6; (case k1 => exact News.isList (by k_asm) (by k_mem)); (case k2 => first | assumption | decide); (case k3 => first | omega | decide); (case k4 => first | assumption | rfl); (case k6 => with_unfolding_all rfl); k_whole)))
local macro_rules | `(tactic| kpc_turns) => `(tactic| (refine' code_def ?k1 ?k2 ?k3 ?k4 ?k5 ?kA ?kF ?kK ?k6 ?k7 ?k8 ?k9 ?kB ?_ ?c2 ?c3 ?c4 ?c5; (case kA => exact rfl); (case kF => exact rfl); (case kK => first | exact rfl | assumption); (case k1 => k_asm); (case k2 => k_asm); (case k3 => k_asm); (case k4 => k_asm); (case k5 => k_asm); (case k6 => k_is); (case k7 => k_is); (case k8 => ktr_room); (case k9 => first | exact BindsTo.of_eq rfl | exact binds_K (by k_in) rfl (by k_is) rfl rfl rfl); (case c5 => decide); (case kB => exact locs rfl); (case c2 => exact rfl); (case c3 => exact rfl); (case c4 => exact rfl); k_whole; intro g' L' h' FG' F' N' B' X' T'; (try dsimp only); (try k_fold)))
local macro_rules | `(tactic| walk_at "call ref") => `(tactic| (k_here; k_dflt ((refine' call_cls ?k1 ?k2 ?k3 ?k4 ?k5 ?k6 ?_; (case k1 => k_asm); (case k2 => k_asm); (case k3 => k_asm); (case k4 => k_is); (case k5 => k_is); (case k6 => k_is); k_whole; intro x' d' h' F' N' l1 l2; (try k_lt l1); (try k_lt2 l2); (try k_sweep); kpc_turns))))
local macro_rules | `(tactic| walk_at "exec Raise some none") => `(tactic| (k_here; (with_reducible show wpAny _ _ (exec (Stmt.Raise (some _) none _) _) _ _ _); k_dflt (refine raise_err ?hh ?_; (case hh => exact rfl); k_whole)))
local macro_rules | `(tactic| walk_at "call ref") => `(tactic| (k_here; (with_reducible show wpAny _ _ (call (Value.ref 52) _) _ _ _); k_dflt ((refine' call_err ?k1 ?k2 ?k3 ?k4 ?_; (case k1 => k_asm); (case k2 => k_asm); (case k3 => k_asm); (case k4 => exact Nat.le_of_ble_eq_true rfl); k_whole; intro x' t' h' F' N' l1; (try k_sweep); kpc_turns))))
local macro_rules | `(tactic| walk_at "setAttr ref") => `(tactic| (k_here; k_dflt (first
  | (refine' set_exc1 ?k1 ?k2 ?k3 ?k4 ?k5 ?k6 ?k7 ?k8 ?k9 ?_; (case k1 => k_asm); (case k2 => k_asm); (case k3 => k_asm); (case k4 => assumption); (case k5 => k_is); (case k6 => k_is); (case k7 => exact rfl); (case k8 => exact rfl); (case k9 => k_is); k_whole; intro d' h' F' N' l1 l2; (try k_sweep))
  | (refine' set_exc2 ?k1 ?k2 ?k3 ?k4 ?k10 ?k5 ?k6 ?k7 ?k8 ?k9 ?k11 ?k12 ?k13 ?_; (case k1 => k_asm); (case k2 => k_asm); (case k3 => k_asm); (case k4 => assumption); (case k10 => assumption); (case k5 => k_is); (case k6 => k_is); (case k7 => exact rfl); (case k8 => exact rfl); (case k9 => k_is); (case k11 => k_get); (case k12 => k_put); (case k13 => exact Nat.le_of_ble_eq_true rfl); k_whole; intro h' F' N'; (try k_sweep)))))
local macro_rules | `(tactic| walk_at "call ref") => `(tactic| (k_here; (with_reducible show wpAny _ _ (call (Value.ref 196) _) _ _ _); refine wpAny_call ?_; k_dflt kpc_turns))
set_option hygiene false in
local macro_rules | `(tactic| tb_start) => `(tactic| (
  unfold SpecE
  k_fill
  intro p loose mean mg mb dp un gd cn cs a ccd cl outer A₀ base h₀ L m s Q E B F X N T hk hd hu hret herr
  refine wpAny_call ?_
  k_dflt kpc_turns
  k_steps))
variable {w : World} {P dP R dR TL AH : Addr} {toks : List Value} {rest : Led} {ks rs : Nat → Tok} {tok : Addr} {at_ : Int} {ta : Tok} {dep : Int} {td : Tok} {wi ne : Bool} {pl : Int} {tp : Tok}
theorem ne_of_below {l : Led} {q : Addr × Obj} {e : Addr} (h : ∀ p ∈ l, p.1 < e) (hq : q ∈ l) : q.1 ≠ e := Nat.ne_of_lt (h q hq)
theorem enter_err (W : Wld P dP R dR TL AH toks rest) (hd : 60 ≤ dep) :
   SpecE w 314 [.ref P] 14 (Ldg w dP dR ks rs R TL AH tok at_ ta dep td wi ne pl tp rest) rest (some at_) (fun _ _ => False) := by
  obtain ⟨hP, hR, ⟨nT, hT⟩, ⟨nA, hA⟩, hne, oP, oR, sz⟩ := W
  tb_start
  rename News _ _ _ _ => NN
  rename Fr _ _ _ _ => FF
  refine ⟨_, _, _, rfl, by k_in, (NN _ (.tail _ (.head _))).1, ?_⟩
  refine leave_raised (R := rest) (at_ := at_) (by assumption) FF NN (.tail _ (.head _)) (.head _) ⟨_, _, _, _, _, _, rfl⟩ (Nat.ne_of_gt (by assumption)) (fun q hq => ⟨.tail _ (.tail _ (.tail _ (.tail _ (.tail _ hq)))), ne_of_below (l := (_ : Addr × Obj) :: (_ : Addr × Obj) :: (_ : Addr × Obj) :: rest) (by assumption) (.tail _ (.tail _ (.tail _ hq)))⟩) (fun h' Th U => ?_)
  dsimp only at Th U ⊢
  refine leave_thrown (by assumption) (by assumption) Th U (fun h'' Th' U' => ?_)
  exact herr _ _ _ _ _ rfl (by assumption) U' Th'
end
section
local macro_rules | `(tactic| walk_at "subscriptTail") => `(tactic| (k_here; (with_reducible show wpAny _ _ (subscriptTail _ _ (Value.ref _) (Value.int _ _)) _ _ _); k_dflt (refine' item_listL ?k1 ?k2 ?k3 ?k4 ?_ ?k6; (case k1 => exact News.isList (by k_asm) (by k_mem)); (case k2 => first | assumption | decide); (case k3 => first | omega | decide); (case k4 => first | assumption | rfl); (case k6 => with_unfolding_all rfl); k_whole)))
local macro_rules | `(tactic| kpc_turns) => `(tactic| (refine' code_def ?k1 ?k2 ?k3 ?k4 ?k5 ?kA ?kF ?kK ?k6 ?k7 ?k8 ?k9 ?kB ?_ ?c2 ?c3 ?c4 ?c5; (case kA => exact rfl); (case kF => exact rfl); (case kK => first | exact rfl | assumption); (case k1 => k_asm); (case k2 => k_asm); (case k3 => k_asm); (case k4 => k_asm); (case k5 => k_asm); (case k6 => k_is); (case k7 => k_is); (case k8 => ktr_room); (case k9 => exact BindsTo.of_eq rfl); (case c5 => decide); (case kB => exact locs rfl); (case c2 => exact rfl); (case c3 => exact rfl); (case c4 => exact rfl); k_whole; intro g' L' h' FG' F' N' B' X' T'; (try dsimp only); (try k_fold)))
section
local macro_rules | `(tactic| walk_at "call ref") => `(tactic| (k_here; k_dflt ((refine' call_cls ?k1 ?k2 ?k3 ?k4 ?k5 ?k6 ?_; (case k1 => k_asm); (case k2 => k_asm); (case k3 => k_asm); (case k4 => k_is); (case k5 => k_is); (case k6 => k_is); k_whole; intro x' d' h' F' N' l1 l2; (try k_lt l1); (try k_lt2 l2); (try k_sweep); kpc_turns))))
section
set_option hygiene false in
local macro_rules | `(tactic| tb_start) => `(tactic| (
  unfold Spec
  k_fill
  intro p loose mean mg mb dp un gd cn cs a ccd cl outer A₀ base h₀ L m s Q E B F X N T hk hd hu hret
  refine wpAny_call ?_
  k_dflt kpc_turns
  k_steps))
local macro_rules | `(tactic| kpf_same2) => `(tactic| (intro r9 n9 h9 tk9 F9 N9 p9; obtain ⟨⟨tr9, hr9⟩, hn9⟩ := p9; subst hr9; subst hn9; (try k_sweep); (try dsimp only); (try k_fold)))
local macro_rules | `(tactic| kle_norm) => `(tactic| (intro r9 n9 h9 tk9 F9 N9 p9; obtain ⟨hr9, td9, hn9⟩ := p9; subst hr9; subst hn9; (try k_sweep); (try dsimp only); (try k_fold)))
local macro_rules | `(tactic| kle_go) => `(tactic| (intro r9 n9 h9 tk9 F9 N9 p9; obtain ⟨hr9, hn9⟩ := p9; subst hr9; subst hn9; (try k_sweep); (try dsimp only); (try k_fold)))
section
local macro_rules | `(tactic| lcg_off) => `(tactic| first | assumption | exact Sub.refl | exact Sub.trans (by lcg_off) Sub.cons | exact Sub.trans (by assumption) (by lcg_off))
local macro_rules | `(tactic| keq_rows) => `(tactic| first | exact fun _ h => h | exact perm1 | exact perm2)
local macro_rules | `(tactic| keq_hits) => `(tactic| first | assumption | exact Tk.sub Sub.cons (by keq_hits) | exact Tk.sub (by assumption) (by keq_hits))
local macro_rules | `(tactic| bits_by_make) => `(tactic| first | assumption | (simp only [hdK, hdV, kindOf]; decide))
local macro_rules | `(tactic| kpt_turns) => `(tactic| first | assumption | exact Wld.cons (by kpt_turns) (by omega) (by omega))
local macro_rules | `(tactic| lcg_src) => `(tactic| first | assumption | exact Strm.sub Sub.cons (by lcg_src) | exact Strm.sub (by assumption) (by lcg_src))
local macro_rules | `(tactic| walk_at "call ref") => `(tactic| (k_here; (with_reducible show wpAny _ _ (call (Value.ref 146) _) _ _ _); k_dflt (first | (refine' Spec.use (is_op_spec (b := true) ?W ?ht ?hb) ?B ?F ?X ?N ?T ?hk0 ?hs ?hd ?hu ?_; (case B => k_asm); (case F => k_asm); (case X => k_asm); (case N => k_asm); (case T => k_asm); (case hk0 => first | exact rfl | assumption); (case hs => keq_rows); (case W => kpt_turns); (case ht => keq_hits); (case hb => bits_by_make); (case hd => ktr_room); (case hu => ktr_units); k_whole; kle_go) | (refine' Spec.use (is_op_spec (b := false) ?W ?ht ?hb) ?B ?F ?X ?N ?T ?hk0 ?hs ?hd ?hu ?_; (case B => k_asm); (case F => k_asm); (case X => k_asm); (case N => k_asm); (case T => k_asm); (case hk0 => first | exact rfl | assumption); (case hs => keq_rows); (case W => kpt_turns); (case ht => keq_hits); (case hb => bits_by_make); (case hd => ktr_room); (case hu => ktr_units); k_whole; kle_go))))
local macro_rules | `(tactic| kpf_step) => `(tactic| (intro r9 n9 h9 tk9 F9 N9 p9; obtain ⟨hr9, p9⟩ := p9; subst hr9; obtain ⟨tok9, ta9, td9, tp9, R9, hn9, hs9, W9, ht9, hst9⟩ := p9; subst hn9; have W9' := W9; obtain ⟨hP9, hR9, ⟨nT9, hT9⟩, ⟨nA9, hA9⟩, hne9, oP9, oR9, sz9⟩ := W9'; have hk9 := ht9; (try simp only [hdK, hdV, hdA, kindOf_a, kq_q, kq_c, kq_r, kq_l] at hk9); obtain ⟨dT9, ts9, tk9, tv9, ta9, m9, m9'⟩ := hk9; (try k_sweep); (try dsimp only); (try k_fold)))
section
variable {w : World} {P dP R dR TL AH : Addr} {toks : List Value} {rest : Led} {ks rs : Nat → Tok} {tok : Addr} {at_ : Int} {ta : Tok} {dep : Int} {td : Tok} {wi ne : Bool} {pl : Int} {tp : Tok} {i : Nat} {v : Str} {l : List Str}
theorem take_s (W : Wld P dP R dR TL AH toks rest) (hs : Strm w toks rest i (v :: l)) :
   Spec w 139 [.ref P] 8 (Ldg w dP dR ks rs R TL AH tok at_ ta dep td wi false (plOf i (v :: l)) tp rest) (fun r news' => r = .ref tok ∧ Ps w P dP R dR TL AH toks ks rs wi (i + 1) l dep news' rest) := by
  refine Spec.mono (take_spec W hs.next hs.tail.ne) (Nat.le_refl _) ?_
  rintro r n ⟨rfl, t2, R1, tp', ta', rfl, h1, h2, h3⟩
  exact ⟨rfl, _, _, _, _, _, rfl, h1, h2, h3, hs.tail.sub h1⟩
local macro_rules | `(tactic| walk_at "call ref") => `(tactic| (k_here; (with_reducible show wpAny _ _ (call (Value.ref 139) _) _ _ _); k_dflt ((refine' Spec.use (take_s ?W ?hst) ?B ?F ?X ?N ?T ?hk0 ?hs ?hd ?hu ?_; (case B => k_asm); (case F => k_asm); (case X => k_asm); (case N => k_asm); (case T => k_asm); (case hk0 => first | exact rfl | assumption); (case hs => keq_rows); (case W => kpt_turns); (case hst => lcg_src); (case hd => ktr_room); (case hu => ktr_units); k_whole; kpf_step))))
theorem accept_yes (W : Wld P dP R dR TL AH toks rest) {k : Str} {a : Int} {text : Str} {tx : Tok} (ht : Tk w rest tok k text a) (hk : k = Str.ofString "op") (hst : Strm w toks rest i (v :: l)) :
   Spec w 160 [.ref P, .str text tx] 10 (Ldg w dP dR ks rs R TL AH tok at_ ta dep td wi false (plOf i (v :: l)) tp rest) (fun r news' => r = .bool true ∧ Ps w P dP R dR TL AH toks ks rs wi (i + 1) l dep news' rest) := by
  have W0 := W
  obtain ⟨hP, hR, ⟨nT, hT⟩, ⟨nA, hA⟩, hne, oP, oR, sz⟩ := W
  have hb : decide (k = Str.ofString "op" ∧ text = text) = true := by simp [hk]
  tb_start
  exact hret _ _ _ _ (by k_asm) (by k_asm) ⟨rfl, _, _, _, _, _, rfl, by assumption, by assumption, by assumption, by assumption⟩
theorem accept_no (W : Wld P dP R dR TL AH toks rest) {k x : Str} {a : Int} {text : Str} {tx : Tok} (ht : Tk w rest tok k x a) (hb : decide (k = Str.ofString "op" ∧ x = text) = false) :
   Spec w 160 [.ref P, .str text tx] 10 (Ldg w dP dR ks rs R TL AH tok at_ ta dep td wi ne pl tp rest) (fun r news' => r = .bool false ∧ news' = (Ldg w dP dR ks rs R TL AH tok at_ ta dep td wi ne pl tp rest)) := by
  have W0 := W
  obtain ⟨hP, hR, ⟨nT, hT⟩, ⟨nA, hA⟩, hne, oP, oR, sz⟩ := W
  tb_start
  exact hret _ _ _ _ (by k_asm) (by k_asm) ⟨rfl, rfl⟩
local macro_rules | `(tactic| lcg_sub) => `(tactic| (refine' Spec.use (accept_yes ?W ?ht ?hk ?hst) ?B ?F ?X ?N ?T ?hk0 ?hs ?hd ?hu ?_; (case B => k_asm); (case F => k_asm); (case X => k_asm); (case N => k_asm); (case T => k_asm); (case hk0 => first | exact rfl | assumption); (case hs => keq_rows); (case W => kpt_turns); (case ht => keq_hits); (case hk => bits_by_make); (case hst => lcg_src); (case hd => ktr_room); (case hu => ktr_units); k_whole; kpf_step))
local macro_rules | `(tactic| kba_ints) => `(tactic| (refine' Spec.use (accept_no ?W ?ht ?hb) ?B ?F ?X ?N ?T ?hk0 ?hs ?hd ?hu ?_; (case B => k_asm); (case F => k_asm); (case X => k_asm); (case N => k_asm); (case T => k_asm); (case hk0 => first | exact rfl | assumption); (case hs => keq_rows); (case W => kpt_turns); (case ht => keq_hits); (case hb => bits_by_make); (case hd => ktr_room); (case hu => ktr_units); k_whole; kle_go))
local macro_rules | `(tactic| walk_at "call ref") => `(tactic| (k_here; (with_reducible show wpAny _ _ (call (Value.ref 160) _) _ _ _); k_dflt (first | lcg_sub | kba_ints)))
theorem expect_op_s (W : Wld P dP R dR TL AH toks rest) {k : Str} {a : Int} {text : Str} {tx : Tok} (ht : Tk w rest tok k text a) (hk : k = Str.ofString "op") (hst : Strm w toks rest i (v :: l)) :
   Spec w 174 [.ref P, .str text tx] 12 (Ldg w dP dR ks rs R TL AH tok at_ ta dep td wi false (plOf i (v :: l)) tp rest) (fun r news' => r = .none ∧ Ps w P dP R dR TL AH toks ks rs wi (i + 1) l dep news' rest) := by
  have W0 := W
  obtain ⟨hP, hR, ⟨nT, hT⟩, ⟨nA, hA⟩, hne, oP, oR, sz⟩ := W
  tb_start
  exact hret _ _ _ _ (by k_asm) (by k_asm) ⟨rfl, _, _, _, _, _, rfl, by assumption, by assumption, by assumption, by assumption⟩
theorem expect_id_s (W : Wld P dP R dR TL AH toks rest) {x : Str} {a : Int} (ht : Tk w rest tok (Str.ofString "id") x a) (hst : Strm w toks rest i (v :: l)) :
   Spec w 188 [.ref P] 10 (Ldg w dP dR ks rs R TL AH tok at_ ta dep td wi false (plOf i (v :: l)) tp rest) (fun r news' => (∃ t, r = .str x t) ∧ Ps w P dP R dR TL AH toks ks rs wi (i + 1) l dep news' rest) := by
  have W0 := W
  obtain ⟨hP, hR, ⟨nT, hT⟩, ⟨nA, hA⟩, hne, oP, oR, sz⟩ := W
  obtain ⟨dT, ts, tkk, tvv, taa, h1, h2⟩ := ht
  tb_start
  exact hret _ _ _ _ (by k_asm) (by k_asm) ⟨⟨_, rfl⟩, _, _, _, _, _, rfl, by assumption, by assumption, by assumption, by assumption⟩
end
section
local macro_rules | `(tactic| walk_at "call ref") => `(tactic| (k_here; (with_reducible show wpAny _ _ (call (Value.ref 139) _) _ _ _); k_dflt ((refine' Spec.use (take_s ?W ?hst) ?B ?F ?X ?N ?T ?hk0 ?hs ?hd ?hu ?_; (case B => k_asm); (case F => k_asm); (case X => k_asm); (case N => k_asm); (case T => k_asm); (case hk0 => first | exact rfl | assumption); (case hs => keq_rows); (case W => kpt_turns); (case hst => lcg_src); (case hd => ktr_room); (case hu => ktr_units); k_whole; kpf_step))))
local macro_rules | `(tactic| walk_at "call ref") => `(tactic| (k_here; (with_reducible show wpAny _ _ (call (Value.ref 160) _) _ _ _); k_dflt (first | (refine' Spec.use (accept_yes ?W ?ht ?hk ?hst) ?B ?F ?X ?N ?T ?hk0 ?hs ?hd ?hu ?_; (case B => k_asm); (case F => k_asm); (case X => k_asm); (case N => k_asm); (case T => k_asm); (case hk0 => first | exact rfl | assumption); (case hs => keq_rows); (case W => kpt_turns); (case ht => keq_hits); (case hk => bits_by_make); (case hst => lcg_src); (case hd => ktr_room); (case hu => ktr_units); k_whole; kpf_step) | (refine' Spec.use (accept_no ?W ?ht ?hb) ?B ?F ?X ?N ?T ?hk0 ?hs ?hd ?hu ?_; (case B => k_asm); (case F => k_asm); (case X => k_asm); (case N => k_asm); (case T => k_asm); (case hk0 => first | exact rfl | assumption); (case hs => keq_rows); (case W => kpt_turns); (case ht => keq_hits); (case hb => bits_by_make); (case hd => ktr_room); (case hu => ktr_units); k_whole; kle_go))))
local macro_rules | `(tactic| walk_at "call ref") => `(tactic| (k_here; (with_reducible show wpAny _ _ (call (Value.ref 174) _) _ _ _); k_dflt ((refine' Spec.use (expect_op_s ?W ?ht ?hk ?hst) ?B ?F ?X ?N ?T ?hk0 ?hs ?hd ?hu ?_; (case B => k_asm); (case F => k_asm); (case X => k_asm); (case N => k_asm); (case T => k_asm); (case hk0 => first | exact rfl | assumption); (case hs => keq_rows); (case W => kpt_turns); (case ht => keq_hits); (case hk => bits_by_make); (case hst => lcg_src); (case hd => ktr_room); (case hu => ktr_units); k_whole; kpf_step))))
local macro_rules | `(tactic| walk_at "call ref") => `(tactic| (k_here; (with_reducible show wpAny _ _ (call (Value.ref 188) _) _ _ _); k_dflt ((refine' Spec.use (expect_id_s ?W ?ht ?hst) ?B ?F ?X ?N ?T ?hk0 ?hs ?hd ?hu ?_; (case B => k_asm); (case F => k_asm); (case X => k_asm); (case N => k_asm); (case T => k_asm); (case hk0 => first | exact rfl | assumption); (case hs => keq_rows); (case W => kpt_turns); (case ht => keq_hits); (case hst => lcg_src); (case hd => ktr_room); (case hu => ktr_units); k_whole; intro r9 n9 h9 tk9 F9 N9 p9; obtain ⟨⟨tx9, hr9⟩, p9⟩ := p9; subst hr9; obtain ⟨tok9, ta9, td9, tp9, R9, hn9, hs9, W9, ht9, hst9⟩ := p9; subst hn9; have W9' := W9; obtain ⟨hP9, hR9, ⟨nT9, hT9⟩, ⟨nA9, hA9⟩, hne9, oP9, oR9, sz9⟩ := W9'; have hk9 := ht9; (try simp only [hdK, hdV, hdA, kindOf_a, kq_q, kq_c, kq_r, kq_l] at hk9); obtain ⟨dT9, ts9, tk9, tv9, ta9, m9, m9'⟩ := hk9; (try k_sweep); (try dsimp only); (try k_fold)))))
local macro_rules | `(tactic| walk_at "call ref") => `(tactic| (k_here; (with_reducible show wpAny _ _ (call (Value.ref 321) _) _ _ _); k_dflt ((refine' Spec.use (leave_spec ?W) ?B ?F ?X ?N ?T ?hk0 ?hs ?hd ?hu ?_; (case B => k_asm); (case F => k_asm); (case X => k_asm); (case N => k_asm); (case T => k_asm); (case hk0 => first | exact rfl | assumption); (case hs => keq_rows); (case W => kpt_turns); (case hd => ktr_room); (case hu => ktr_units); k_whole; kle_norm))))
variable {w : World} {P dP R dR TL AH : Addr} {toks : List Value} {rest : Led} {ks rs : Nat → Tok} {tok : Addr} {at_ : Int} {ta : Tok} {dep : Int} {td : Tok} {wi ne : Bool} {pl : Int} {tp : Tok} {i : Nat} {v : Str} {l : List Str}
abbrev tupOf (vs : List Value) : Obj := { cls := .type "tuple", data := .seq vs.toArray }
theorem path_term_s (W : Wld P dP R dR TL AH toks rest) {a : Int} {t : Tok} {parts t1 : Addr} {n : Nat} {x : Str} {tx : Tok} (h1 : (parts, listOf [Value.ref t1].toArray n) ∈ rest) (h2 : (t1, tupOf [.str x tx, .none]) ∈ rest) :
   Spec w 405 [.ref P, .int a t, .ref parts] 4 (Ldg w dP dR ks rs R TL AH tok at_ ta dep td wi ne pl tp rest) (fun r news' => ∃ y t', r = .ref y ∧ Wld P dP R dR TL AH toks ((y, tupOf [.str (Str.ofString "id") t', .int a t, .str x tx]) :: rest) ∧ news' = Ldg w dP dR ks rs R TL AH tok at_ ta dep td wi ne pl tp ((y, tupOf [.str (Str.ofString "id") t', .int a t, .str x tx]) :: rest)) := by
  have W0 := W
  obtain ⟨hP, hR, ⟨nT, hT⟩, ⟨nA, hA⟩, hne, oP, oR, sz⟩ := W
  tb_start
  rename (@LT.lt Nat _ _ _ ∧ @LT.lt Nat _ _ _ ∧ AllLt _ _) => l1
  exact hret _ _ _ _ (by k_asm) (News.of (h₀ := h₀) (L := L) (a := _ :: _ :: _ :: rest) (by assumption) perm1) ⟨_, _, rfl, W0.cons l1.1 l1.2.1, rfl⟩
theorem prec_s {op : Str} {t : Tok} (h : op = Str.ofString "?" ∨ op = Str.ofString ":" ∨ op = Str.ofString ")") : Spec w 274 [.str op t] 4 (Ldg w dP dR ks rs R TL AH tok at_ ta dep td wi ne pl tp rest) (fun r news' => (∃ t', r = .int 0 t') ∧ news' = (Ldg w dP dR ks rs R TL AH tok at_ ta dep td wi ne pl tp rest)) := by
  rcases h with rfl | rfl | rfl
  all_goals tb_start
  all_goals (rename News _ _ _ _ => NN; exact hret _ _ _ _ (by k_asm) (News.of NN (by intro q hq; repeat (first | exact hq | refine List.Mem.tail _ ?_))) ⟨⟨_, rfl⟩, rfl⟩)
theorem is_unary_s {t : Tok} : Spec w 281 [.str (Str.ofString "(") t] 4 (Ldg w dP dR ks rs R TL AH tok at_ ta dep td wi ne pl tp rest) (fun r news' => r = .bool false ∧ news' = (Ldg w dP dR ks rs R TL AH tok at_ ta dep td wi ne pl tp rest)) := by
  tb_start
  rename News _ _ _ _ => NN
  exact hret _ _ _ _ (by k_asm) (News.of NN (by intro q hq; repeat (first | exact hq | refine List.Mem.tail _ ?_))) ⟨by decide, rfl⟩
local macro_rules | `(tactic| walk_at "call ref") => `(tactic| (k_here; (with_reducible show wpAny _ _ (call (Value.ref 405) _) _ _ _); k_dflt ((refine' Spec.use (path_term_s ?W ?h1 ?h2) ?B ?F ?X ?N ?T ?hk0 ?hs ?hd ?hu ?_; (case B => k_asm); (case F => k_asm); (case X => k_asm); (case N => k_asm); (case T => k_asm); (case hk0 => first | exact rfl | assumption); (case hs => keq_rows); (case W => kpt_turns); (case h1 => k_mem); (case h2 => k_mem); (case hd => ktr_room); (case hu => ktr_units); k_whole; intro r9 n9 h9 tk9 F9 N9 p9; obtain ⟨y9, ty9, hr9, W9, hn9⟩ := p9; subst hr9; subst hn9; (try k_sweep); (try dsimp only); (try k_fold)))))
local macro_rules | `(tactic| walk_at "call ref") => `(tactic| (k_here; (with_reducible show wpAny _ _ (call (Value.ref 274) _) _ _ _); k_dflt ((refine' Spec.use (prec_s ?h) ?B ?F ?X ?N ?T ?hk0 ?hs ?hd ?hu ?_; (case B => k_asm); (case F => k_asm); (case X => k_asm); (case N => k_asm); (case T => k_asm); (case hk0 => first | exact rfl | assumption); (case hs => keq_rows); (case h => first | assumption | decide | (simp only [hdV]; decide)); (case hd => ktr_room); (case hu => ktr_units); k_whole; kpf_same2))))
local macro_rules | `(tactic| walk_at "call ref") => `(tactic| (k_here; (with_reducible show wpAny _ _ (call (Value.ref 281) _) _ _ _); k_dflt ((refine' Spec.use (is_unary_s) ?B ?F ?X ?N ?T ?hk0 ?hs ?hd ?hu ?_; (case B => k_asm); (case F => k_asm); (case X => k_asm); (case N => k_asm); (case T => k_asm); (case hk0 => first | exact rfl | assumption); (case hs => keq_rows); (case hd => ktr_room); (case hu => ktr_units); k_whole; kle_go))))
theorem reference_s (W : Wld P dP R dR TL AH toks rest) {x : Str} {a : Int} (ht : Tk w rest tok (Str.ofString "id") x a) (hst : Strm w toks rest i (v :: l)) (hk : hdV l = Str.ofString "?" ∨ hdV l = Str.ofString ":" ∨ hdV l = Str.ofString ")" ∨ hdV l = Str.ofString "") :
   Spec w 398 [.ref P] 14 (Ldg w dP dR ks rs R TL AH tok at_ ta dep td wi false (plOf i (v :: l)) tp rest) (fun r news' => ∃ y t' t2 t3 R1, r = .ref y ∧ (y, tupOf [.str (Str.ofString "id") t', .int at_ t2, .str x t3]) ∈ R1 ∧ Ps w P dP R dR TL AH toks ks rs wi (i + 1) l dep news' R1 ∧ Sub rest R1) := by
  have W0 := W
  obtain ⟨hP, hR, ⟨nT, hT⟩, ⟨nA, hA⟩, hne, oP, oR, sz⟩ := W
  have q1 : decide (hdK l = Str.ofString "op" ∧ hdV l = Str.ofString ".") = false := decide_eq_false fun h => by rcases hk with h' | h' | h' | h' <;> (rw [h'] at h; exact absurd h.2 (by decide))
  have q2 : decide (hdK l = Str.ofString "op" ∧ hdV l = Str.ofString "[") = false := decide_eq_false fun h => by rcases hk with h' | h' | h' | h' <;> (rw [h'] at h; exact absurd h.2 (by decide))
  tb_start
  rename News _ _ _ _ => NN
  exact hret _ _ _ _ (by k_asm) NN ⟨_, _, _, _, _, rfl, .head _, ⟨_, _, _, _, _, rfl, Sub.refl, by kpt_turns, by keq_hits, by lcg_src⟩, by lcg_off⟩
local macro_rules | `(tactic| walk_at "call ref") => `(tactic| (k_here; (with_reducible show wpAny _ _ (call (Value.ref 398) _) _ _ _); k_dflt ((refine' Spec.use (reference_s ?W ?ht ?hst ?hk) ?B ?F ?X ?N ?T ?hk0 ?hs ?hd ?hu ?_; (case B => k_asm); (case F => k_asm); (case X => k_asm); (case N => k_asm); (case T => k_asm); (case hk0 => first | exact rfl | assumption); (case hs => keq_rows); (case W => kpt_turns); (case ht => keq_hits); (case hst => lcg_src); (case hk => assumption); (case hd => ktr_room); (case hu => ktr_units); k_whole; intro r9 n9 h9 tk9 F9 N9 p9; obtain ⟨y9, ty9, tz9, tw9, R8, hr9, my9, p9, hs8⟩ := p9; subst hr9; obtain ⟨tok9, ta9, td9, tp9, R9, hn9, hs9, W9, ht9, hst9⟩ := p9; subst hn9; have W9' := W9; obtain ⟨hP9, hR9, ⟨nT9, hT9⟩, ⟨nA9, hA9⟩, hne9, oP9, oR9, sz9⟩ := W9'; have hk9 := ht9; (try simp only [hdK, hdV, hdA, kindOf_a, kq_q, kq_c, kq_r, kq_l] at hk9); obtain ⟨dT9, ts9, tk9, tv9, ta9, m9, m9'⟩ := hk9; (try k_sweep); (try dsimp only); (try k_fold)))))
theorem named_s (W : Wld P dP R dR TL AH toks rest) {x : Str} {a : Int} (ht : Tk w rest tok (Str.ofString "id") x a) (hst : Strm w toks rest i (v :: l)) (hk : hdV l = Str.ofString "?" ∨ hdV l = Str.ofString ":" ∨ hdV l = Str.ofString ")" ∨ hdV l = Str.ofString "") :
   Spec w 363 [.ref P] 16 (Ldg w dP dR ks rs R TL AH tok at_ ta dep td wi false (plOf i (v :: l)) tp rest) (fun r news' => ∃ y t' t2 t3 R1, r = .ref y ∧ (y, tupOf [.str (Str.ofString "id") t', .int at_ t2, .str x t3]) ∈ R1 ∧ Ps w P dP R dR TL AH toks ks rs wi (i + 1) l dep news' R1 ∧ Sub rest R1) := by
  have W0 := W
  obtain ⟨hP, hR, ⟨nT, hT⟩, ⟨nA, hA⟩, hne, oP, oR, sz⟩ := W
  have q1 : decide (hdK l = Str.ofString "op" ∧ hdV l = Str.ofString "(") = false := decide_eq_false fun h => by rcases hk with h' | h' | h' | h' <;> (rw [h'] at h; exact absurd h.2 (by decide))
  tb_start
  rename News _ _ _ _ => NN
  exact hret _ _ _ _ (by k_asm) NN ⟨_, _, _, _, _, rfl, by k_mem, ⟨_, _, _, _, _, rfl, by lcg_off, by kpt_turns, by keq_hits, by lcg_src⟩, by lcg_off⟩
end
end
section
def tooDeep (d a : Int) : Option Int := if 60 ≤ d then some a else none
/-- a parse function from the tokens l at i: what it hands back is said by V over the ledger, it goes on at j with l2; or it tells bad -/
def Op (w : World) (P dP R dR TL AH : Addr) (toks : List Value) (ks rs : Nat → Tok) (wi : Bool) (f : Addr) (args : List Value) (k : Nat) (i : Nat) (l : List Str) (dep : Int) (bad : Option Int) (j : Nat) (l2 : List Str) (V : Led → Value → Prop) : Prop :=
  ∀ (rest : Led) (tok : Addr) (ta td tp : Tok), Wld P dP R dR TL AH toks rest → Tk w rest tok (hdK l) (hdV l) (hdA i l) → Strm w toks rest i l →
    SpecE w f args k (Ldg w dP dR ks rs R TL AH tok (hdA i l) ta dep td wi false (plOf i l) tp rest) rest bad (fun r news' => ∃ tok2 ta2 td2 tp2 R1, V R1 r ∧ Sub rest R1 ∧ news' = Ldg w dP dR ks rs R TL AH tok2 (hdA j l2) ta2 dep td2 wi false (plOf j l2) tp2 R1 ∧ Wld P dP R dR TL AH toks R1 ∧ Tk w R1 tok2 (hdK l2) (hdV l2) (hdA j l2) ∧ Strm w toks R1 j l2)
theorem Op.use {w : World} {P dP R dR TL AH : Addr} {toks : List Value} {ks rs : Nat → Tok} {wi : Bool} {f : Addr} {args : List Value} {k : Nat} {i : Nat} {l : List Str} {dep : Int} {bad : Option Int} {j : Nat} {l2 : List Str} {V : Led → Value → Prop}
  {rest news₀ : Led} {tok : Addr} {ta td tp : Tok} (C : Op w P dP R dR TL AH toks ks rs wi f args k i l dep bad j l2 V) (W : Wld P dP R dR TL AH toks rest) (ht : Tk w rest tok (hdK l) (hdV l) (hdA i l)) (hst : Strm w toks rest i l)
  {p : Program} {loose : List Str} {mean : ExcName → Option Value} {mg mb : Str → Option Value} {dp un : Nat} {gd : Option (List Code)} {cn : Str} {cs : Scope} {a : Addr} {ccd : Value} {cl : List (Str × Addr)} {outer : List Env} {A₀ : Around} {base h₀ : Heap} {L : Addr} {m : Str → Option Value} {s : Shared}
    {Q E : Value → Shared → Prop}
    (B : Below A₀ base outer h₀) (F : Fr h₀ L s.heap m) (X : (wrK w.params).In h₀) (N : News h₀ L s.heap news₀) (T : Top p loose mean mg mb h₀) (hk : cs.kind = .function)
    (hs : ∀ q ∈ Ldg w dP dR ks rs R TL AH tok (hdA i l) ta dep td wi false (plOf i l) tp rest, q ∈ news₀) (hd : dp + k < recursionLimit) (hu : un + 8 * k < cLine)
    (ret : ∀ r tok2 ta2 td2 tp2 R1 h' tk', bad = none → V R1 r → Sub rest R1 → Wld P dP R dR TL AH toks R1 → Tk w R1 tok2 (hdK l2) (hdV l2) (hdA j l2) → Strm w toks R1 j l2 → Fr h₀ L h' m →
      News h₀ L h' (Ldg w dP dR ks rs R TL AH tok2 (hdA j l2) ta2 dep td2 wi false (plOf j l2) tp2 R1) → Q r { s with heap := h', toks := tk' })
    (err : ∀ e at_ h' tk' g', bad = some at_ → Fr h₀ L g' m → g'.UpToSlots h' → Thrown w base (envX cn cs L a ccd cl :: outer) e at_ rest h' → E (.ref e) { s with heap := h', toks := tk' }) :
    wpAny (model PySem.Challenge.rw_rg0148_01.row.prog w) (ktrTop dp un gd cn cs L a ccd cl outer) (call (.ref f) args) Q E s := by
  refine SpecE.use (C rest tok ta td tp W ht hst) B F X N T hk hs hd hu ?_ err
  rintro r n h' tk' hb F' N' ⟨tok2, ta2, td2, tp2, R1, hv, s1, rfl, W2, t2, st2⟩
  exact ret r tok2 ta2 td2 tp2 R1 h' tk' hb hv s1 W2 t2 st2 F' N'
/-- binary(1), whatever the 1 is -/
def OpB (w : World) (P dP R dR TL AH : Addr) (toks : List Value) (ks rs : Nat → Tok) (wi : Bool) (k : Nat) (i : Nat) (l : List Str) (dep : Int) (bad : Option Int) (j : Nat) (l2 : List Str) (V : Led → Value → Prop) : Prop :=
  ∀ t : Tok, Op w P dP R dR TL AH toks ks rs wi 342 [.ref P, .int 1 t] k i l dep bad j l2 V
theorem OpB.at {w : World} {P dP R dR TL AH : Addr} {toks : List Value} {ks rs : Nat → Tok} {wi : Bool} {k : Nat} {i : Nat} {l : List Str} {dep : Int} {bad : Option Int} {j : Nat} {l2 : List Str} {V : Led → Value → Prop} {t : Tok}
   (h : OpB w P dP R dR TL AH toks ks rs wi k i l dep bad j l2 V) : Op w P dP R dR TL AH toks ks rs wi 342 [.ref P, .int 1 t] k i l dep bad j l2 V := h t
/-- the tuple ('id', at, 'a') -/
def IdAt (a : Int) (R1 : Led) (r : Value) : Prop := ∃ y t1 t2 t3, r = .ref y ∧ (y, tupOf [.str (Str.ofString "id") t1, .int a t2, .str (Str.ofString "a") t3]) ∈ R1
theorem IdAt.sub {a : Int} {R R1 : Led} {r : Value} (s : Sub R R1) (h : IdAt a R r) : IdAt a R1 r := by
  obtain ⟨y, t1, t2, t3, e, m⟩ := h
  exact ⟨y, t1, t2, t3, e, s _ m⟩
theorem Sub.back {A X B : Led} (b : Sub X B) (a : Sub A X) : Sub A B := a.trans b
theorem ncd : (Value.type "dict") ≠ .type "list" := by intro e; injection e with e; exact absurd e (by decide)
theorem nct : (Value.type "tuple") ≠ .type "list" := by intro e; injection e with e; exact absurd e (by decide)
/-- all but lists -/
def SubN (R R1 : Led) : Prop := ∀ p ∈ R, p.2.cls ≠ .type "list" → p ∈ R1
theorem SubN.of {R R1 : Led} (s : Sub R R1) : SubN R R1 := fun p h _ => s p h
theorem SubN.back {A X B : Led} (b : Sub X B) (a : SubN A X) : SubN A B := fun p h c => b p (a p h c)
theorem SubN.backN {A X B : Led} (b : SubN X B) (a : SubN A X) : SubN A B := fun p h c => b p (a p h c) c
theorem SubN.backc {A X : Led} {y : Addr × Obj} (a : SubN A X) : SubN A (y :: X) := fun p h c => .tail _ (a p h c)
theorem Tk.subN {w : World} {R R1 : Led} {t : Addr} {k v : Str} {a : Int} (s : SubN R R1) (h : Tk w R t k v a) : Tk w R1 t k v a := by
  obtain ⟨dT, ts, tk, tv, ta, h1, h2⟩ := h
  exact ⟨dT, ts, tk, tv, ta, s _ h1 (by first | exact ncd | exact nct | (intro e; cases e)), s _ h2 (by first | exact ncd | exact nct | (intro e; cases e))⟩
theorem Strm.subN {w : World} {toks : List Value} {R R1 : Led} {i : Nat} {l : List Str} (s : SubN R R1) (h : Strm w toks R i l) : Strm w toks R1 i l :=
  ⟨h.len, fun j v e => by obtain ⟨t, a, b⟩ := h.at_ j v e; exact ⟨t, a, b.subN s⟩, h.no⟩
theorem IdAt.subN {a : Int} {R R1 : Led} {r : Value} (s : SubN R R1) (h : IdAt a R r) : IdAt a R1 r := by
  obtain ⟨y, t1, t2, t3, e, m⟩ := h
  exact ⟨y, t1, t2, t3, e, s _ m (by first | exact ncd | exact nct | (intro e; cases e))⟩
def Mon (V : Led → Value → Prop) : Prop := ∀ R R1 r, SubN R R1 → V R r → V R1 r
theorem IdAt.mon {a : Int} : Mon (IdAt a) := fun _ _ _ s h => h.subN s
theorem Wld.out {P dP R dR TL AH : Addr} {toks : List Value} {rest r1 : Led} {l : Addr} (W : Wld P dP R dR TL AH toks rest) (hT : TL ≠ l) (hA : AH ≠ l) (s : SubN rest r1) (s' : Sub r1 rest) (s2 : ∀ p ∈ rest, p.1 ≠ l → p ∈ r1) : Wld P dP R dR TL AH toks r1 := by
  obtain ⟨hP, hR, ⟨nT, h1⟩, ⟨nA, h2⟩, hne, oP, oR, sz⟩ := W
  exact ⟨s _ hP (by first | exact ncd | exact nct | (intro e; cases e)), s _ hR (by first | exact ncd | exact nct | (intro e; cases e)), ⟨nT, s2 _ h1 hT⟩, ⟨nA, s2 _ h2 hA⟩, hne, fun p hp => oP p (s' p hp), fun p hp => oR p (s' p hp), sz⟩
theorem News.neq {h₀ h : Heap} {L : Addr} {R : Led} {x y : Addr × Obj} (N : News h₀ L h R) (hx : x ∈ R) (hy : y ∈ R) (hc : x.2.cls ≠ y.2.cls) : x.1 ≠ y.1 := fun e => by
  have h1 := (N _ hx).1
  have h2 := (N _ hy).1
  rw [e, h2] at h1
  exact hc (congrArg Obj.cls (Option.some.inj h1)).symm
theorem News.out {h₀ h : Heap} {L l : Addr} {x a b : Addr × Obj} {R : Led} {its : Array Value} {n : Nat} (N : News h₀ L h (x :: a :: b :: R)) (hm : (l, listOf its n) ∈ R) (hx : x.2.cls ≠ .type "list") (ha : a.2.cls ≠ .type "list") (hb : b.2.cls ≠ .type "list") :
    ∃ R1, News h₀ L h ((l, listOf its n) :: x :: a :: b :: R1) ∧ SubN R R1 ∧ (∀ p ∈ x :: a :: b :: R1, p.1 ≠ l) ∧ Sub R1 R ∧ (∀ p ∈ R, p.1 ≠ l → p ∈ R1) := by
  have hm' : (l, listOf its n) ∈ x :: a :: b :: R := .tail _ (.tail _ (.tail _ hm))
  have st : ∀ p ∈ R, p.1 ≠ l → p ∈ R.filter (fun p => !(p.1 == l)) := fun p hp hn => List.mem_filter.mpr ⟨hp, by simpa using hn⟩
  refine ⟨R.filter (fun p => !(p.1 == l)), fun q hq => ?_, fun p hp hc => st p hp (News.neq N (.tail _ (.tail _ (.tail _ hp))) hm' hc), fun p hp => ?_, fun p hp => (List.mem_filter.mp hp).1, st⟩
  rcases List.mem_cons.mp hq with rfl | hq
  · exact N _ hm'
  rcases List.mem_cons.mp hq with rfl | hq
  · exact N _ (.head _)
  rcases List.mem_cons.mp hq with rfl | hq
  · exact N _ (.tail _ (.head _))
  rcases List.mem_cons.mp hq with rfl | hq
  · exact N _ (.tail _ (.tail _ (.head _)))
  · exact N _ (.tail _ (.tail _ (.tail _ (List.mem_filter.mp hq).1)))
  · rcases List.mem_cons.mp hp with rfl | hp
    · exact News.neq N (.head _) hm' hx
    rcases List.mem_cons.mp hp with rfl | hp
    · exact News.neq N (.tail _ (.head _)) hm' ha
    rcases List.mem_cons.mp hp with rfl | hp
    · exact News.neq N (.tail _ (.tail _ (.head _))) hm' hb
    · simpa using (List.mem_filter.mp hp).2
/-- what may stand behind an operand -/
def Aft (l : List Str) : Prop := l = [] ∨ (∃ t, l = Str.ofString "?" :: t) ∨ (∃ t, l = Str.ofString ":" :: t) ∨ (∃ t, l = Str.ofString ")" :: t)
theorem Aft.val {l : List Str} (h : Aft l) : hdV l = Str.ofString "?" ∨ hdV l = Str.ofString ":" ∨ hdV l = Str.ofString ")" ∨ hdV l = Str.ofString "" := by
  rcases h with rfl | ⟨t, rfl⟩ | ⟨t, rfl⟩ | ⟨t, rfl⟩ <;> simp [hdV]
theorem kindOf_a : kindOf (Str.ofString "a") = Str.ofString "id" := by simp [kindOf]
theorem kindOf_op {v : Str} (h : v ≠ Str.ofString "a") : kindOf v = Str.ofString "op" := by simp [kindOf, h]
theorem kq_q : kindOf (Str.ofString "?") = Str.ofString "op" := kindOf_op (by decide)
theorem kq_c : kindOf (Str.ofString ":") = Str.ofString "op" := kindOf_op (by decide)
theorem kq_r : kindOf (Str.ofString ")") = Str.ofString "op" := kindOf_op (by decide)
theorem kq_l : kindOf (Str.ofString "(") = Str.ofString "op" := kindOf_op (by decide)
theorem accept_yes' {w : World} {P dP R dR TL AH : Addr} {toks : List Value} {rest : Led} {ks rs : Nat → Tok} {tok : Addr} {at_ : Int} {ta : Tok} {dep : Int} {td : Tok} {wi : Bool} {tp : Tok} {i : Nat} {v : Str} {l : List Str}
   (W : Wld P dP R dR TL AH toks rest) {k x : Str} {a : Int} {text : Str} {tx : Tok} (ht : Tk w rest tok k x a) (hb : decide (k = Str.ofString "op" ∧ x = text) = true) (hst : Strm w toks rest i (v :: l)) :
   Spec w 160 [.ref P, .str text tx] 10 (Ldg w dP dR ks rs R TL AH tok at_ ta dep td wi false (plOf i (v :: l)) tp rest) (fun r news' => r = .bool true ∧ Ps w P dP R dR TL AH toks ks rs wi (i + 1) l dep news' rest) := by
  obtain ⟨h1, h2⟩ := of_decide_eq_true hb
  subst h1
  subst h2
  exact accept_yes W ht rfl hst
end
section
section
variable {prog : Program} {w : World} {A : Around} {E : Value → Shared → Prop} {s : Shared} {env : Env} {h₀ : Heap} {target : Expr} {body : List Stmt} {Q : Flow → Shared → Prop}
theorem letGo_rev {I l : Addr} {i : Int} {v : Value} {Q' : Unit → Shared → Prop} {s' : Shared} (hit : s'.heap.IsRevIter I l i) (h : Q' () s') : wpAny (model prog w) A (letOwnedTupleGo target (.ref I) v) Q' E s' := by
  obtain ⟨o, ho, hc, hd⟩ := hit
  unfold letOwnedTupleGo
  split
  · cases v
    case ref a =>
      refine wpAny_bind (wpAny_load ho ?_)
      rw [hc, hd]
      exact wpAny_pure h
    all_goals exact wpAny_pure h
  · cases v
    case ref a =>
      refine wpAny_bind (wpAny_load ho ?_)
      rw [hc, hd]
      exact wpAny_pure h
    all_goals exact wpAny_pure h
  · exact wpAny_pure h
/-- how a turn of the loop over one item ends -/
def TurnEnd1 (h₀ : Heap) (L I l : Addr) (it lo : Obj) (s : Shared) (Q : Flow → Shared → Prop) (f : Flow) (s₂ : Shared) : Prop :=
  f = .next ∧ ∃ h' tk m' news', s₂ = { s with heap := h', toks := tk } ∧ Fr h₀ L h' m' ∧ News h₀ L h' ((I, it) :: (l, lo) :: news') ∧ (∀ p ∈ news', p.1 ≠ I) ∧
    ∀ h'' tk', Fr h₀ L h'' m' → News h₀ L h'' news' → Q .next { s with heap := h'', toks := tk' }
theorem rev_turns0 {I l : Addr} {n : Nat} {m₀ : Str → Option Value} {news : Led}
    (hh : A.handled = none) (F : Fr h₀ env.locals s.heap m₀) (N : News h₀ env.locals s.heap ((I, revObj l ((([] : List Value).length : Int) - 1)) :: news)) (hm : (l, listOf ([] : List Value).toArray n) ∈ news) (hI : ∀ p ∈ news, p.1 < I)
    (k : ∀ h tk, Fr h₀ env.locals h m₀ → News h₀ env.locals h news → Q .next { s with heap := h, toks := tk }) :
    wpAny (model prog w) A (pyIter (.ref I)) (fun it s₂ => TurnsAt prog w A h₀ env target body Q E it s₂) E s := by
  have hIx := N _ (List.mem_cons_self ..)
  have hl := N _ (List.mem_cons_of_mem _ hm)
  have hil : s.heap.IsList l ([] : List Value).toArray := ⟨_, hl.1, rfl, n, rfl⟩
  have hit : s.heap.IsRevIter I l ((([] : List Value).length : Int) - 1) := ⟨_, hIx.1, rfl, rfl⟩
  have hne : l ≠ I := fun e => absurd (hI _ hm) (by rw [← e]; exact Nat.lt_irrefl _)
  refine wpAny_pyIter_revIter hit ⟨I, _, _, 0, _, _, _, m₀, news, fun _ m₁ n₁ => m₁ = m₀ ∧ n₁ = news, rfl, KTurns.ofWalks (Walks.listRev (prog := prog) (w := w) hh I l hne ([] : List Value).toArray) fun i v s Q E st q => letGo_rev st.2.1 q, ?_, ?_, ?_, ?_, F, fun p hp => N p (List.mem_cons_of_mem _ hp), ⟨rfl, rfl⟩, ?_, ?_⟩
  · intro hmm
    rcases List.mem_cons.mp hmm with e | hmm
    · exact hIx.2.1 e.symm
    · exact hl.2.1 (List.mem_singleton.mp hmm).symm
  · intro b hb
    rw [List.mem_singleton.mp hb]
    exact hIx.2.2
  · intro p hp hb
    exact absurd (hI p hp) (by rw [List.mem_singleton.mp hb]; exact Nat.lt_irrefl _)
  · exact ⟨Nat.zero_le _, hit, hil⟩
  · intro i v m₁ news₁ h₁ tk₁ own hi
    exact absurd hi (Nat.not_lt_zero _)
  · rintro h' tk m' news' F' N' _ ⟨rfl, rfl⟩
    exact k h' tk F' N'
theorem rev_turns1 {I l : Addr} {n : Nat} {v : Value} {m₀ : Str → Option Value} {news : Led}
    (hh : A.handled = none) (F : Fr h₀ env.locals s.heap m₀) (N : News h₀ env.locals s.heap ((I, revObj l ((([v] : List Value).length : Int) - 1)) :: news)) (hm : (l, listOf ([v] : List Value).toArray n) ∈ news) (hI : ∀ p ∈ news, p.1 < I)
    (turn : ∀ it h tk, it.cls = .type "list_reverseiterator" → Fr h₀ env.locals h m₀ → News h₀ env.locals h ((I, it) :: news) →
      wpAny (model prog w) A (assign target env v) (fun _ s₃ => wpAny (model prog w) A (execs body env) (TurnEnd1 h₀ env.locals I l it (listOf ([v] : List Value).toArray n) s Q) E s₃) E { s with heap := h, toks := tk }) :
    wpAny (model prog w) A (pyIter (.ref I)) (fun it s₂ => TurnsAt prog w A h₀ env target body Q E it s₂) E s := by
  have hIx := N _ (List.mem_cons_self ..)
  have hl := N _ (List.mem_cons_of_mem _ hm)
  have hil : s.heap.IsList l ([v] : List Value).toArray := ⟨_, hl.1, rfl, n, rfl⟩
  have hit : s.heap.IsRevIter I l ((([v] : List Value).length : Int) - 1) := ⟨_, hIx.1, rfl, rfl⟩
  have hne : l ≠ I := fun e => absurd (hI _ hm) (by rw [← e]; exact Nat.lt_irrefl _)
  refine wpAny_pyIter_revIter hit ⟨I, _, _, 1, _, _, _, m₀, news, fun i m₁ n₁ => match i with | 0 => m₁ = m₀ ∧ n₁ = news | _ => ∀ h tk, Fr h₀ env.locals h m₁ → News h₀ env.locals h n₁ → Q .next { s with heap := h, toks := tk }, rfl, KTurns.ofWalks (Walks.listRev (prog := prog) (w := w) hh I l hne ([v] : List Value).toArray) fun i v s Q E st q => letGo_rev st.2.1 q, ?_, ?_, ?_, ?_, F, fun p hp => N p (List.mem_cons_of_mem _ hp), ⟨rfl, rfl⟩, ?_, ?_⟩
  · intro hmm
    rcases List.mem_cons.mp hmm with e | hmm
    · exact hIx.2.1 e.symm
    · exact hl.2.1 (List.mem_singleton.mp hmm).symm
  · intro b hb
    rw [List.mem_singleton.mp hb]
    exact hIx.2.2
  · intro p hp hb
    exact absurd (hI p hp) (by rw [List.mem_singleton.mp hb]; exact Nat.lt_irrefl _)
  · exact ⟨Nat.zero_le _, hit, hil⟩
  · intro i v' m₁ news₁ h₁ tk₁ own hi hP hJ hwr hown hget hall hst F₁ N₁
    obtain rfl : i = 0 := by omega
    obtain ⟨rfl, rfl⟩ := hJ
    obtain rfl : v = v' := by simpa using hP
    obtain ⟨it, hit', hic, hid⟩ := hst.2.1
    have hmemI := hall I (List.mem_cons_self ..) hIx.2.2 _ hit'
    have NI : News h₀ env.locals h₁ ((I, it) :: news₁) := fun p hp => by
      rcases List.mem_cons.mp hp with rfl | hp
      · exact N₁ _ (List.mem_append_left _ hmemI)
      · exact N₁ _ (List.mem_append_right _ hp)
    refine wpAny_mono (turn it h₁ tk₁ hic F₁ NI) (fun _ s₃ h₃ => wpAny_mono h₃ (fun f s₄ h₄ => ?_) fun _ _ e => e) fun _ _ e => e
    obtain ⟨rfl, h', tk, m', news', rfl, F', N', hoff, hk⟩ := h₄
    refine ⟨rfl, h', tk, m', news', rfl, F', fun p hp => ?_, fun p hp hb => hoff p hp (List.mem_singleton.mp hb), hk⟩
    rcases List.mem_append.mp hp with hp | hp
    · have h2 : h₁.get? p.1 = some p.2 := hget p hp
      rcases List.mem_cons.mp (hown p hp) with h1 | h1
      · have h3 : p = (I, it) := by
          rw [h1, hit'] at h2
          exact Prod.ext h1 (Option.some.inj h2).symm
        rw [h3]; exact N' _ (List.mem_cons_self ..)
      · have h1' : p.1 = l := List.mem_singleton.mp h1
        have h3 : p = (l, listOf ([v] : List Value).toArray n) := by
          rw [h1', (N₁ _ (List.mem_append_right _ hm)).1] at h2
          exact Prod.ext h1' (Option.some.inj h2).symm
        rw [h3]; exact N' _ (List.mem_cons_of_mem _ (List.mem_cons_self ..))
    · exact N' _ (List.mem_cons_of_mem _ (List.mem_cons_of_mem _ hp))
  · rintro h' tk m' news' F' N' _ hJ
    exact hJ h' tk F' N'
end
end
section
local macro_rules | `(tactic| lcg_off) => `(tactic| first | assumption | exact Sub.refl | exact Sub.trans Sub.cons (by assumption) | exact Sub.trans (by lcg_off) Sub.cons | exact Sub.trans (by assumption) (by lcg_off))
local macro_rules | `(tactic| keq_rows) => `(tactic| first | exact fun _ h => h | exact perm1 | exact perm2)
local macro_rules | `(tactic| keq_hits) => `(tactic| first | assumption | exact Tk.sub Sub.cons (by keq_hits) | exact Tk.sub (by assumption) (by keq_hits))
local macro_rules | `(tactic| kle_both) => `(tactic| (intro r9 n9 h9 tk9 F9 N9 p9; obtain ⟨⟨tx9, hr9⟩, p9⟩ := p9; subst hr9; obtain ⟨tok9, ta9, td9, tp9, R9, hn9, hs9, W9, ht9, hst9⟩ := p9; subst hn9; have W9' := W9; obtain ⟨hP9, hR9, ⟨nT9, hT9⟩, ⟨nA9, hA9⟩, hne9, oP9, oR9, sz9⟩ := W9'; have hk9 := ht9; (try simp only [hdK, hdV, hdA, kindOf_a, kq_q, kq_c, kq_r, kq_l] at hk9); obtain ⟨dT9, ts9, tk9, tv9, ta9, m9, m9'⟩ := hk9; (try k_sweep); (try dsimp only); (try k_fold)))
local macro_rules | `(tactic| kse_step) => `(tactic| (intro r9 n9 h9 tk9 F9 N9 p9; obtain ⟨hr9, p9⟩ := p9; subst hr9; obtain ⟨tok9, ta9, td9, tp9, R9, hn9, hs9, W9, ht9, hst9⟩ := p9; subst hn9; have W9' := W9; obtain ⟨hP9, hR9, ⟨nT9, hT9⟩, ⟨nA9, hA9⟩, hne9, oP9, oR9, sz9⟩ := W9'; have hk9 := ht9; (try simp only [hdK, hdV, hdA, kindOf_a, kq_q, kq_c, kq_r, kq_l] at hk9); obtain ⟨dT9, ts9, tk9, tv9, ta9, m9, m9'⟩ := hk9; (try k_sweep); (try dsimp only); (try k_fold)))
section
local macro_rules | `(tactic| bits_by_make) => `(tactic| first | assumption | (simp only [hdK, hdV, kindOf]; decide))
local macro_rules | `(tactic| kpt_turns) => `(tactic| first | assumption | exact Wld.cons (by kpt_turns) (by omega) (by omega))
local macro_rules | `(tactic| lcg_src) => `(tactic| first | assumption | exact Strm.sub Sub.cons (by lcg_src) | exact Strm.sub (by assumption) (by lcg_src))
local macro_rules | `(tactic| walk_at "call ref") => `(tactic| (k_here; (with_reducible show wpAny _ _ (call (Value.ref 146) _) _ _ _); k_dflt (first | (refine' Spec.use (is_op_spec (b := true) ?W ?ht ?hb) ?B ?F ?X ?N ?T ?hk0 ?hs ?hd ?hu ?_; (case B => k_asm); (case F => k_asm); (case X => k_asm); (case N => k_asm); (case T => k_asm); (case hk0 => first | exact rfl | assumption); (case hs => keq_rows); (case W => kpt_turns); (case ht => keq_hits); (case hb => bits_by_make); (case hd => ktr_room); (case hu => ktr_units); k_whole; kle_go) | (refine' Spec.use (is_op_spec (b := false) ?W ?ht ?hb) ?B ?F ?X ?N ?T ?hk0 ?hs ?hd ?hu ?_; (case B => k_asm); (case F => k_asm); (case X => k_asm); (case N => k_asm); (case T => k_asm); (case hk0 => first | exact rfl | assumption); (case hs => keq_rows); (case W => kpt_turns); (case ht => keq_hits); (case hb => bits_by_make); (case hd => ktr_room); (case hu => ktr_units); k_whole; kle_go))))
local macro_rules | `(tactic| walk_at "call ref") => `(tactic| (k_here; (with_reducible show wpAny _ _ (call (Value.ref 139) _) _ _ _); k_dflt ((refine' Spec.use (take_s ?W ?hst) ?B ?F ?X ?N ?T ?hk0 ?hs ?hd ?hu ?_; (case B => k_asm); (case F => k_asm); (case X => k_asm); (case N => k_asm); (case T => k_asm); (case hk0 => first | exact rfl | assumption); (case hs => keq_rows); (case W => kpt_turns); (case hst => lcg_src); (case hd => ktr_room); (case hu => ktr_units); k_whole; kse_step))))
local macro_rules | `(tactic| walk_at "call ref") => `(tactic| (k_here; (with_reducible show wpAny _ _ (call (Value.ref 160) _) _ _ _); k_dflt (first | (refine' Spec.use (accept_yes ?W ?ht ?hk ?hst) ?B ?F ?X ?N ?T ?hk0 ?hs ?hd ?hu ?_; (case B => k_asm); (case F => k_asm); (case X => k_asm); (case N => k_asm); (case T => k_asm); (case hk0 => first | exact rfl | assumption); (case hs => keq_rows); (case W => kpt_turns); (case ht => keq_hits); (case hk => bits_by_make); (case hst => lcg_src); (case hd => ktr_room); (case hu => ktr_units); k_whole; kse_step) | (refine' Spec.use (accept_no ?W ?ht ?hb) ?B ?F ?X ?N ?T ?hk0 ?hs ?hd ?hu ?_; (case B => k_asm); (case F => k_asm); (case X => k_asm); (case N => k_asm); (case T => k_asm); (case hk0 => first | exact rfl | assumption); (case hs => keq_rows); (case W => kpt_turns); (case ht => keq_hits); (case hb => bits_by_make); (case hd => ktr_room); (case hu => ktr_units); k_whole; kle_go))))
local macro_rules | `(tactic| walk_at "call ref") => `(tactic| (k_here; (with_reducible show wpAny _ _ (call (Value.ref 174) _) _ _ _); k_dflt ((refine' Spec.use (expect_op_s ?W ?ht ?hk ?hst) ?B ?F ?X ?N ?T ?hk0 ?hs ?hd ?hu ?_; (case B => k_asm); (case F => k_asm); (case X => k_asm); (case N => k_asm); (case T => k_asm); (case hk0 => first | exact rfl | assumption); (case hs => keq_rows); (case W => kpt_turns); (case ht => keq_hits); (case hk => bits_by_make); (case hst => lcg_src); (case hd => ktr_room); (case hu => ktr_units); k_whole; kse_step))))
local macro_rules | `(tactic| walk_at "call ref") => `(tactic| (k_here; (with_reducible show wpAny _ _ (call (Value.ref 188) _) _ _ _); k_dflt ((refine' Spec.use (expect_id_s ?W ?ht ?hst) ?B ?F ?X ?N ?T ?hk0 ?hs ?hd ?hu ?_; (case B => k_asm); (case F => k_asm); (case X => k_asm); (case N => k_asm); (case T => k_asm); (case hk0 => first | exact rfl | assumption); (case hs => keq_rows); (case W => kpt_turns); (case ht => keq_hits); (case hst => lcg_src); (case hd => ktr_room); (case hu => ktr_units); k_whole; kle_both))))
local macro_rules | `(tactic| walk_at "call ref") => `(tactic| (k_here; (with_reducible show wpAny _ _ (call (Value.ref 321) _) _ _ _); k_dflt ((refine' Spec.use (leave_spec ?W) ?B ?F ?X ?N ?T ?hk0 ?hs ?hd ?hu ?_; (case B => k_asm); (case F => k_asm); (case X => k_asm); (case N => k_asm); (case T => k_asm); (case hk0 => first | exact rfl | assumption); (case hs => keq_rows); (case W => kpt_turns); (case hd => ktr_room); (case hu => ktr_units); k_whole; kle_norm))))
local macro_rules | `(tactic| walk_at "call ref") => `(tactic| (k_here; (with_reducible show wpAny _ _ (call (Value.ref 274) _) _ _ _); k_dflt ((refine' Spec.use (prec_s ?h) ?B ?F ?X ?N ?T ?hk0 ?hs ?hd ?hu ?_; (case B => k_asm); (case F => k_asm); (case X => k_asm); (case N => k_asm); (case T => k_asm); (case hk0 => first | exact rfl | assumption); (case hs => keq_rows); (case h => first | assumption | decide | (simp only [hdV]; decide)); (case hd => ktr_room); (case hu => ktr_units); k_whole; kpf_same2))))
local macro_rules | `(tactic| walk_at "call ref") => `(tactic| (k_here; (with_reducible show wpAny _ _ (call (Value.ref 281) _) _ _ _); k_dflt ((refine' Spec.use (is_unary_s) ?B ?F ?X ?N ?T ?hk0 ?hs ?hd ?hu ?_; (case B => k_asm); (case F => k_asm); (case X => k_asm); (case N => k_asm); (case T => k_asm); (case hk0 => first | exact rfl | assumption); (case hs => keq_rows); (case hd => ktr_room); (case hu => ktr_units); k_whole; kle_go))))
section
local macro_rules | `(tactic| walk_at "call ref") => `(tactic| (k_here; (with_reducible show wpAny _ _ (call (Value.ref 363) _) _ _ _); k_dflt ((refine' Spec.use (named_s ?W ?ht ?hst ?hk) ?B ?F ?X ?N ?T ?hk0 ?hs ?hd ?hu ?_; (case B => k_asm); (case F => k_asm); (case X => k_asm); (case N => k_asm); (case T => k_asm); (case hk0 => first | exact rfl | assumption); (case hs => keq_rows); (case W => kpt_turns); (case ht => keq_hits); (case hst => lcg_src); (case hk => assumption); (case hd => ktr_room); (case hu => ktr_units); k_whole; intro r9 n9 h9 tk9 F9 N9 p9; obtain ⟨y9, ty9, tz9, tw9, R8, hr9, my9, p9, hs8⟩ := p9; subst hr9; obtain ⟨tok9, ta9, td9, tp9, R9, hn9, hs9, W9, ht9, hst9⟩ := p9; subst hn9; have W9' := W9; obtain ⟨hP9, hR9, ⟨nT9, hT9⟩, ⟨nA9, hA9⟩, hne9, oP9, oR9, sz9⟩ := W9'; have hk9 := ht9; (try simp only [hdK, hdV, hdA, kindOf_a, kq_q, kq_c, kq_r, kq_l] at hk9); obtain ⟨dT9, ts9, tk9, tv9, ta9, m9, m9'⟩ := hk9; (try k_sweep); (try dsimp only); (try k_fold)))))
local macro_rules | `(tactic| walk_at "exec For Tuple Call cons nil") => `(tactic| (k_here; (with_reducible show wpAny _ _ (exec (Stmt.For (Expr.Tuple _ _ _) (Expr.Call (Expr.Name (PySem.Str.ofString "reversed") _) _ _ _) _ _ _) _) _ _ _); (rename Fr _ _ _ _ => lF'); (with_unfolding_all refine' For_turns lF' ?_; k_whole)))
local macro_rules | `(tactic| walk_at "pyIter ref") => `(tactic| (k_here; (with_reducible show wpAny _ _ (pyIter (Value.ref _)) (fun it s₂ => TurnsAt _ _ _ _ _ _ _ _ _ it s₂) _ _); k_dflt (first
  | (refine' rev_turns0 ?hh ?F ?N ?hm ?hI ?_; (case hh => exact rfl); (case F => k_asm); (case N => k_asm); (case hm => k_mem); (case hI => exact ktn_ltOf (by ktn_lt)); k_whole; intro h' tk' F' N'; (try k_sweep); (try dsimp only))
  | (refine' rev_turns1 ?hh ?F ?N ?hm ?hI ?_; (case hh => exact rfl); (case F => k_asm); (case N => k_asm); (case hm => k_mem); (case hI => exact ktn_ltOf (by ktn_lt)); k_whole; intro it' h' tk' hc' F' N'; (try k_sweep); (try dsimp only)))))
local macro_rules | `(tactic| walk_at "exec While BoolOp cons nil") => `(tactic| (k_here; k_dflt (refine whl_start 100 ?_)))
local macro_rules | `(tactic| walk_at "exec While BoolOp") => `(tactic| (k_here; k_dflt (refine whl_start 100 ?_)))
local macro_rules | `(tactic| walk_at "exec While Call cons nil") => `(tactic| (k_here; k_dflt (refine whl_start 100 ?_)))
local macro_rules | `(tactic| walk_at "exec While Call") => `(tactic| (k_here; k_dflt (refine whl_start 100 ?_)))
local macro_rules | `(tactic| walk_at "exec While") => `(tactic| (k_here; k_dflt (refine whl_start 100 ?_)))
set_option hygiene false in
local macro_rules | `(tactic| tb_start) => `(tactic| (
  unfold SpecE
  k_fill
  intro p loose mean mg mb dp un gd cn cs a ccd cl outer A₀ base h₀ L m s Q E B F X N T hk hd hu hret herr
  refine wpAny_call ?_
  k_dflt kpc_turns
  k_steps))
variable {w : World} {P dP R dR TL AH : Addr} {toks : List Value} {ks rs : Nat → Tok} {wi : Bool} {i j k : Nat} {l l2 : List Str} {dep : Int} {bad : Option Int} {V : Led → Value → Prop}
theorem prim_a (ha : Aft l) : Op w P dP R dR TL AH toks ks rs wi 356 [.ref P] 20 i (Str.ofString "a" :: l) dep none (i + 1) l (IdAt i) := by
  intro rest tok ta td tp W ht hst
  have W0 := W
  have hk := ha.val
  obtain ⟨hP, hR, ⟨nT, hT⟩, ⟨nA, hA⟩, hne, oP, oR, sz⟩ := W
  have ht0 : Tk w rest tok (Str.ofString "id") (Str.ofString "a") i := by simpa only [hdK, hdV, hdA, kindOf_a] using ht
  have ht1 := ht0
  obtain ⟨dT, ts, tkk, tvv, taa, h1, h2⟩ := ht1
  tb_start
  rename News _ _ _ _ => NN
  exact hret _ _ _ _ rfl (by k_asm) NN ⟨_, _, _, _, _, ⟨_, _, _, _, rfl, by k_mem⟩, by lcg_off, rfl, by kpt_turns, by keq_hits, by lcg_src⟩
local macro_rules | `(tactic| walk_at "call ref") => `(tactic| (k_here; (with_reducible show wpAny _ _ (call (Value.ref 356) _) _ _ _); k_dflt (refine' Op.use ?op ?W ?ht ?hst ?B ?F ?X ?N ?T ?hk0 ?hs ?hd ?hu (fun r9 tok9 ta9 td9 tp9 R9 h9 tk9 hb9 hv9 hs9 W9 ht9 hst9 F9 N9 => ?_) (fun e9 a9 h9 tk9 g9 hb9 Fg9 U9 Th9 => ?_); (case N => k_asm); (case hs => keq_rows); (case op => assumption); (case B => k_asm); (case F => k_asm); (case X => k_asm); (case T => k_asm); (case hk0 => first | exact rfl | assumption); (case W => kpt_turns); (case ht => keq_hits); (case hst => lcg_src); (case hd => ktr_room); (case hu => ktr_units); (all_goals (try (have W9' := W9; obtain ⟨hP9, hR9, ⟨nT9, hT9⟩, ⟨nA9, hA9⟩, hne9, oP9, oR9, sz9⟩ := W9'; have hk9 := ht9; (try simp only [hdK, hdV, hdA, kindOf_a, kq_q, kq_c, kq_r, kq_l] at hk9); obtain ⟨dT9, ts9, tk9, tv9, ta9, m9, m9'⟩ := hk9))); (all_goals (try k_sweep)); (all_goals (try dsimp only)); (all_goals (try k_fold)))))
local macro_rules | `(tactic| walk_at "leaving ref") => `(tactic| (k_here; (refine' leave_thrown ?k1 ?k2 ?k3 ?k4 ?_; (case k3 => assumption); (case k1 => assumption); (case k4 => assumption); (case k2 => assumption); k_whole; intro h' R' U'; (try dsimp only at R' U' ⊢))))
theorem unary_a (hp : Op w P dP R dR TL AH toks ks rs wi 356 [.ref P] k i (Str.ofString "a" :: l) dep bad j l2 V) : Op w P dP R dR TL AH toks ks rs wi 349 [.ref P] (k + 2) i (Str.ofString "a" :: l) dep bad j l2 V := by
  intro rest tok ta td tp W ht hst
  have W0 := W
  obtain ⟨hP, hR, ⟨nT, hT⟩, ⟨nA, hA⟩, hne, oP, oR, sz⟩ := W
  have ht0 : Tk w rest tok (Str.ofString "id") (Str.ofString "a") i := by simpa only [hdK, hdV, hdA, kindOf_a] using ht
  obtain ⟨dT, ts, tkk, tvv, taa, h1, h2⟩ := ht0
  tb_start
  · rename Fr _ _ _ _ => FF
    rename News _ _ _ _ => NN
    have NN2 := News.dup (x := (_, listOf ([] : List Value).toArray 0)) NN (by k_mem)
    clear NN
    k_steps
    rename News _ _ _ _ => NN
    exact hret _ _ _ _ (by assumption) (by k_asm) (News.of NN (fun q hq => .tail _ hq)) ⟨_, _, _, _, _, by assumption, by lcg_off, rfl, by assumption, by assumption, by assumption⟩
  · exact herr _ _ _ _ _ (by assumption) (by assumption) (by assumption) (by first | assumption | exact Thrown.sub Sub.cons (by assumption))
theorem unary_p (hp : Op w P dP R dR TL AH toks ks rs wi 356 [.ref P] k i (Str.ofString "(" :: l) dep bad j l2 V) : Op w P dP R dR TL AH toks ks rs wi 349 [.ref P] (k + 5) i (Str.ofString "(" :: l) dep bad j l2 V := by
  intro rest tok ta td tp W ht hst
  have W0 := W
  obtain ⟨hP, hR, ⟨nT, hT⟩, ⟨nA, hA⟩, hne, oP, oR, sz⟩ := W
  have ht0 : Tk w rest tok (Str.ofString "op") (Str.ofString "(") i := by simpa only [hdK, hdV, hdA, kq_l] using ht
  obtain ⟨dT, ts, tkk, tvv, taa, h1, h2⟩ := ht0
  tb_start
  · rename Fr _ _ _ _ => FF
    rename News _ _ _ _ => NN
    have NN2 := News.dup (x := (_, listOf ([] : List Value).toArray 0)) NN (by k_mem)
    clear NN
    k_steps
    rename News _ _ _ _ => NN
    exact hret _ _ _ _ (by assumption) (by k_asm) (News.of NN (fun q hq => .tail _ hq)) ⟨_, _, _, _, _, by assumption, by lcg_off, rfl, by assumption, by assumption, by assumption⟩
  · exact herr _ _ _ _ _ (by assumption) (by assumption) (by assumption) (by first | assumption | exact Thrown.sub Sub.cons (by assumption))
end
section
local macro_rules | `(tactic| walk_at "exec For Tuple Call cons nil") => `(tactic| (k_here; (with_reducible show wpAny _ _ (exec (Stmt.For (Expr.Tuple _ _ _) (Expr.Call (Expr.Name (PySem.Str.ofString "reversed") _) _ _ _) _ _ _) _) _ _ _); (rename Fr _ _ _ _ => lF'); (with_unfolding_all refine' For_turns lF' ?_; k_whole)))
local macro_rules | `(tactic| walk_at "pyIter ref") => `(tactic| (k_here; (with_reducible show wpAny _ _ (pyIter (Value.ref _)) (fun it s₂ => TurnsAt _ _ _ _ _ _ _ _ _ it s₂) _ _); k_dflt (first
  | (refine' rev_turns0 ?hh ?F ?N ?hm ?hI ?_; (case hh => exact rfl); (case F => k_asm); (case N => k_asm); (case hm => k_mem); (case hI => exact ktn_ltOf (by ktn_lt)); k_whole; intro h' tk' F' N'; (try k_sweep); (try dsimp only))
  | (refine' rev_turns1 ?hh ?F ?N ?hm ?hI ?_; (case hh => exact rfl); (case F => k_asm); (case N => k_asm); (case hm => k_mem); (case hI => exact ktn_ltOf (by ktn_lt)); k_whole; intro it' h' tk' hc' F' N'; (try k_sweep); (try dsimp only)))))
local macro_rules | `(tactic| walk_at "exec While BoolOp cons nil") => `(tactic| (k_here; k_dflt (refine whl_start 100 ?_)))
local macro_rules | `(tactic| walk_at "exec While BoolOp") => `(tactic| (k_here; k_dflt (refine whl_start 100 ?_)))
local macro_rules | `(tactic| walk_at "exec While Call cons nil") => `(tactic| (k_here; k_dflt (refine whl_start 100 ?_)))
local macro_rules | `(tactic| walk_at "exec While Call") => `(tactic| (k_here; k_dflt (refine whl_start 100 ?_)))
local macro_rules | `(tactic| walk_at "exec While") => `(tactic| (k_here; k_dflt (refine whl_start 100 ?_)))
local macro_rules | `(tactic| walk_at "leaving ref") => `(tactic| (k_here; (refine' leave_thrown ?k1 ?k2 ?k3 ?k4 ?_; (case k3 => assumption); (case k1 => assumption); (case k4 => assumption); (case k2 => assumption); k_whole; intro h' R' U'; (try dsimp only at R' U' ⊢))))
section
local macro_rules | `(tactic| walk_at "no such key 0") => `(tactic| fail "none")
local macro_rules | `(tactic| walk_at "no such key 1") => `(tactic| fail "none")
local macro_rules | `(tactic| walk_at "call ref") => `(tactic| (k_here; (with_reducible show wpAny _ _ (call (Value.ref 349) _) _ _ _); k_dflt (refine' Op.use ?op ?W ?ht ?hst ?B ?F ?X ?N ?T ?hk0 ?hs ?hd ?hu (fun r9 tok9 ta9 td9 tp9 R9 h9 tk9 hb9 hv9 hs9 W9 ht9 hst9 F9 N9 => ?_) (fun e9 a9 h9 tk9 g9 hb9 Fg9 U9 Th9 => ?_); (case N => k_asm); (case hs => keq_rows); (case op => assumption); (case B => k_asm); (case F => k_asm); (case X => k_asm); (case T => k_asm); (case hk0 => first | exact rfl | assumption); (case W => kpt_turns); (case ht => keq_hits); (case hst => lcg_src); (case hd => ktr_room); (case hu => ktr_units); (all_goals (try (have W9' := W9; obtain ⟨hP9, hR9, ⟨nT9, hT9⟩, ⟨nA9, hA9⟩, hne9, oP9, oR9, sz9⟩ := W9'; have hk9 := ht9; (try simp only [hdK, hdV, hdA, kindOf_a, kq_q, kq_c, kq_r, kq_l] at hk9); obtain ⟨dT9, ts9, tk9, tv9, ta9, m9, m9'⟩ := hk9))); (all_goals (try k_sweep)); (all_goals (try dsimp only)); (all_goals (try k_fold)))))
set_option hygiene false in
local macro_rules | `(tactic| tb_start) => `(tactic| (
  unfold SpecE
  k_fill
  intro p loose mean mg mb dp un gd cn cs a ccd cl outer A₀ base h₀ L m s Q E B F X N T hk hd hu hret herr
  refine wpAny_call ?_
  k_dflt kpc_turns
  k_steps))
variable {w : World} {P dP R dR TL AH : Addr} {toks : List Value} {rest : Led} {ks rs : Nat → Tok} {tok : Addr} {at_ : Int} {ta td tp : Tok} {wi ne : Bool} {pl : Int} {i j k : Nat} {l l2 : List Str} {dep : Int} {bad : Option Int} {V : Led → Value → Prop}
theorem enter_s (W : Wld P dP R dR TL AH toks rest) :
   SpecE w 314 [.ref P] 14 (Ldg w dP dR ks rs R TL AH tok at_ ta dep td wi ne pl tp rest) rest (tooDeep dep at_) (fun r news' => r = .none ∧ ∃ td', news' = Ldg w dP dR ks rs R TL AH tok at_ ta (dep + 1) td' wi ne pl tp rest) := by
  unfold tooDeep
  split
  · exact SpecE.mono (enter_err W ‹_›) (Nat.le_refl _) rfl fun _ _ h => by cases h
  · exact SpecE.mono (SpecE.of (enter_ok W (by omega))) (by omega) rfl fun _ _ _ h => h
theorem or_some {a b : Option Int} {x : Int} (h : a = some x) : a.or b = some x := by rw [h]; rfl
theorem or_none {a b : Option Int} (h : a = none) : a.or b = b := by rw [h]; rfl
local macro_rules | `(tactic| walk_at "call ref") => `(tactic| (k_here; (with_reducible show wpAny _ _ (call (Value.ref 314) _) _ _ _); k_dflt (refine' SpecE.use (enter_s ?W) ?B ?F ?X ?N ?T ?hk0 ?hs ?hd ?hu (fun r9 n9 h9 tk9 hb9 F9 N9 p9 => ?_) (fun e9 a9 h9 tk9 g9 hb9 Fg9 U9 Th9 => ?_); (case B => k_asm); (case F => k_asm); (case X => k_asm); (case N => k_asm); (case T => k_asm); (case hk0 => first | exact rfl | assumption); (case hs => keq_rows); (case W => kpt_turns); (case hd => ktr_room); (case hu => ktr_units); (all_goals (try (obtain ⟨hr9, td9, hn9⟩ := p9; subst hr9; subst hn9))); (all_goals (try k_sweep)); (all_goals (try dsimp only)); (all_goals (try k_fold)))))
theorem binary_s (hp : Op w P dP R dR TL AH toks ks rs wi 349 [.ref P] k i l (dep + 1) bad j l2 V) (ha : Aft l2) (hk14 : 12 ≤ k) (t0 : Tok) : Op w P dP R dR TL AH toks ks rs wi 342 [.ref P, .int 1 t0] (k + 4) i l dep ((tooDeep dep (hdA i l)).or bad) j l2 V := by
  intro rest tok ta td tp W ht hst
  have W0 := W
  obtain ⟨hP, hR, ⟨nT, hT⟩, ⟨nA, hA⟩, hne, oP, oR, sz⟩ := W
  rcases ha with rfl | ⟨tl, rfl⟩ | ⟨tl, rfl⟩ | ⟨tl, rfl⟩
  all_goals
    tb_start
    · rename News _ _ _ _ => NN
      rw [show dep + 1 - 1 = dep by omega] at NN
      first
      | exact hret _ _ _ _ (by rw [or_none (by assumption)]; assumption) (by k_asm) NN ⟨_, _, _, _, _, by assumption, by lcg_off, rfl, by assumption, by assumption, by assumption⟩
      | exact hret _ _ _ _ (by rw [or_none (by assumption)]; assumption) (by k_asm) (News.of NN (by intro q hq; repeat (first | exact hq | refine List.Mem.tail _ ?_))) ⟨_, _, _, _, _, by assumption, by lcg_off, rfl, by assumption, by assumption, by assumption⟩
    · exact herr _ _ _ _ _ (by rw [or_none (by assumption)]; assumption) (by assumption) (by assumption) (by assumption)
    · exact herr _ _ _ _ _ (or_some (by assumption)) (by assumption) (by assumption) (by assumption)
end
section
local macro_rules | `(tactic| walk_at "call ref") => `(tactic| (k_here; (with_reducible show wpAny _ _ (call (Value.ref 342) _) _ _ _); k_dflt (refine' Op.use (OpB.at ?op) ?W ?ht ?hst ?B ?F ?X ?N ?T ?hk0 ?hs ?hd ?hu (fun r9 tok9 ta9 td9 tp9 R9 h9 tk9 hb9 hv9 hs9 W9 ht9 hst9 F9 N9 => ?_) (fun e9 a9 h9 tk9 g9 hb9 Fg9 U9 Th9 => ?_); (case N => k_asm); (case hs => keq_rows); (case op => assumption); (case B => k_asm); (case F => k_asm); (case X => k_asm); (case T => k_asm); (case hk0 => first | exact rfl | assumption); (case W => kpt_turns); (case ht => keq_hits); (case hst => lcg_src); (case hd => ktr_room); (case hu => ktr_units); (all_goals (try (have W9' := W9; obtain ⟨hP9, hR9, ⟨nT9, hT9⟩, ⟨nA9, hA9⟩, hne9, oP9, oR9, sz9⟩ := W9'; have hk9 := ht9; (try simp only [hdK, hdV, hdA, kindOf_a, kq_q, kq_c, kq_r, kq_l] at hk9); obtain ⟨dT9, ts9, tk9, tv9, ta9, m9, m9'⟩ := hk9))); (all_goals (try k_sweep)); (all_goals (try dsimp only)); (all_goals (try k_fold)))))
local macro_rules | `(tactic| walk_at "call ref") => `(tactic| (k_here; (with_reducible show wpAny _ _ (call (Value.ref 328) _) _ _ _); k_dflt (refine' Op.use ?op ?W ?ht ?hst ?B ?F ?X ?N ?T ?hk0 ?hs ?hd ?hu (fun r9 tok9 ta9 td9 tp9 R9 h9 tk9 hb9 hv9 hs9 W9 ht9 hst9 F9 N9 => ?_) (fun e9 a9 h9 tk9 g9 hb9 Fg9 U9 Th9 => ?_); (case N => k_asm); (case hs => keq_rows); (case op => assumption); (case B => k_asm); (case F => k_asm); (case X => k_asm); (case T => k_asm); (case hk0 => first | exact rfl | assumption); (case W => kpt_turns); (case ht => keq_hits); (case hst => lcg_src); (case hd => ktr_room); (case hu => ktr_units); (all_goals (try (have W9' := W9; obtain ⟨hP9, hR9, ⟨nT9, hT9⟩, ⟨nA9, hA9⟩, hne9, oP9, oR9, sz9⟩ := W9'; have hk9 := ht9; (try simp only [hdK, hdV, hdA, kindOf_a, kq_q, kq_c, kq_r, kq_l] at hk9); obtain ⟨dT9, ts9, tk9, tv9, ta9, m9, m9'⟩ := hk9))); (all_goals (try k_sweep)); (all_goals (try dsimp only)); (all_goals (try k_fold)))))
local macro_rules | `(tactic| walk_at "call ref") => `(tactic| (k_here; (with_reducible show wpAny _ _ (call (Value.ref 314) _) _ _ _); k_dflt (refine' SpecE.use (enter_s ?W) ?B ?F ?X ?N ?T ?hk0 ?hs ?hd ?hu (fun r9 n9 h9 tk9 hb9 F9 N9 p9 => ?_) (fun e9 a9 h9 tk9 g9 hb9 Fg9 U9 Th9 => ?_); (case B => k_asm); (case F => k_asm); (case X => k_asm); (case N => k_asm); (case T => k_asm); (case hk0 => first | exact rfl | assumption); (case hs => keq_rows); (case W => kpt_turns); (case hd => ktr_room); (case hu => ktr_units); (all_goals (try (obtain ⟨hr9, td9, hn9⟩ := p9; subst hr9; subst hn9))); (all_goals (try k_sweep)); (all_goals (try dsimp only)); (all_goals (try k_fold)))))
set_option hygiene false in
local macro_rules | `(tactic| tb_start) => `(tactic| (
  unfold SpecE
  k_fill
  intro p loose mean mg mb dp un gd cn cs a ccd cl outer A₀ base h₀ L m s Q E B F X N T hk hd hu hret herr
  refine wpAny_call ?_
  k_dflt kpc_turns
  k_steps))
section
variable {w : World} {P dP R dR TL AH : Addr} {toks : List Value} {rest : Led} {ks rs : Nat → Tok} {tok : Addr} {at_ : Int} {ta td tp : Tok} {wi ne : Bool} {pl : Int} {i j j3 k k1 k2 k3 : Nat} {l l1 l2 l3 l4 : List Str} {dep : Int} {bad bad1 bad2 bad3 : Option Int} {V : Led → Value → Prop}
theorem inner_plain (hp : OpB w P dP R dR TL AH toks ks rs wi k i l dep bad j l2 V) (hq : decide (hdK l2 = Str.ofString "op" ∧ hdV l2 = Str.ofString "?") = false) (hk14 : 12 ≤ k) : Op w P dP R dR TL AH toks ks rs wi 335 [.ref P] (k + 4) i l dep bad j l2 V := by
  intro rest tok ta td tp W ht hst
  have W0 := W
  obtain ⟨hP, hR, ⟨nT, hT⟩, ⟨nA, hA⟩, hne, oP, oR, sz⟩ := W
  tb_start
  · rename Fr _ _ _ _ => FF
    rename News _ _ _ _ => NN
    have NN2 := News.dup (x := (_, listOf ([] : List Value).toArray 0)) NN (by k_mem)
    clear NN
    k_steps
    rename News _ _ _ _ => NN
    exact hret _ _ _ _ (by assumption) (by k_asm) (News.of NN (fun q hq => .tail _ hq)) ⟨_, _, _, _, _, by assumption, by lcg_off, rfl, by assumption, by assumption, by assumption⟩
  · exact herr _ _ _ _ _ (by assumption) (by assumption) (by assumption) (by first | assumption | exact Thrown.sub Sub.cons (by assumption))
end
section
variable {w : World} {P dP R dR TL AH : Addr} {toks : List Value} {rest : Led} {ks rs : Nat → Tok} {tok : Addr} {at_ : Int} {ta td tp : Tok} {wi ne : Bool} {pl : Int} {i j j3 k k1 k2 k3 : Nat} {l l1 l2 l3 l4 : List Str} {dep : Int} {bad bad1 bad2 bad3 : Option Int} {V : Led → Value → Prop}
theorem turn_perm {c i l t a b : Addr × Obj} {r : Led} : ∀ q ∈ i :: l :: c :: a :: b :: r, q ∈ c :: i :: l :: t :: a :: b :: r := by
  intro q h
  simp only [List.mem_cons] at h ⊢
  rcases h with h | h | h | h | h | h <;> simp [h]
theorem ne4 {c a b : Addr × Obj} {I : Addr} {r : Led} (h1 : @LT.lt Nat _ I c.1) (h2 : @LT.lt Nat _ a.1 I) (h3 : @LT.lt Nat _ b.1 I) (h4 : AllLt I r) : ∀ p ∈ c :: a :: b :: r, p.1 ≠ I := by
  intro p hp e
  rcases List.mem_cons.mp hp with rfl | hp
  · exact absurd h1 (by rw [e]; exact Nat.lt_irrefl _)
  rcases List.mem_cons.mp hp with rfl | hp
  · exact absurd h2 (by rw [e]; exact Nat.lt_irrefl _)
  rcases List.mem_cons.mp hp with rfl | hp
  · exact absurd h3 (by rw [e]; exact Nat.lt_irrefl _)
  · exact absurd (ktn_ltOf h4 p hp) (by rw [e]; exact Nat.lt_irrefl _)
theorem inner_cond (mV : Mon V) (h1 : OpB w P dP R dR TL AH toks ks rs wi k1 i (Str.ofString "a" :: Str.ofString "?" :: l1) dep bad1 (i + 1) (Str.ofString "?" :: l1) (IdAt ((i : Nat) : Int)))
   (h2 : Op w P dP R dR TL AH toks ks rs wi 328 [.ref P] k2 (i + 1 + 1) l1 (dep + 1) bad2 j (Str.ofString ":" :: l3) V) (h3 : OpB w P dP R dR TL AH toks ks rs wi k3 (j + 1) l3 dep bad3 j3 l4 (IdAt ((j + 1 : Nat) : Int)))
   (hq : decide (hdK l4 = Str.ofString "op" ∧ hdV l4 = Str.ofString "?") = false) (e1 : 14 ≤ k) (e2 : k1 ≤ k) (e3 : k2 ≤ k) (e4 : k3 ≤ k) :
   Op w P dP R dR TL AH toks ks rs wi 335 [.ref P] (k + 4) i (Str.ofString "a" :: Str.ofString "?" :: l1) dep (bad1.or ((tooDeep dep (hdA (i + 1 + 1) l1)).or (bad2.or bad3))) j3 l4
    (fun R1 r => ∃ y t1 t2 v1 v2 v3, r = .ref y ∧ (y, tupOf [.str (Str.ofString "cond") t1, .int ((i + 1 : Nat) : Int) t2, v1, v2, v3]) ∈ R1 ∧ IdAt ((i : Nat) : Int) R1 v1 ∧ V R1 v2 ∧ IdAt ((j + 1 : Nat) : Int) R1 v3) := by
  intro rest tok ta td tp W ht hst
  have W0 := W
  obtain ⟨hP, hR, ⟨nT, hT⟩, ⟨nA, hA⟩, hne, oP, oR, sz⟩ := W
  tb_start
  · rename Fr _ _ _ _ => FF
    rename News _ _ _ _ => NN
    obtain ⟨lP, lR, lA⟩ := ‹dP < _ ∧ dR < _ ∧ AllLt _ rest›
    have hv1 := ‹IdAt _ _ _›
    have hv2 := ‹V _ _›
    have W4 := ‹Wld P dP R dR TL AH toks _›
    have t4 := ‹Tk w _ _ (hdK l3) (hdV l3) (hdA (j + 1) l3)›
    have st4 := ‹Strm w toks _ (j + 1) l3›
    have bb : bad1.or ((tooDeep dep (hdA (i + 1 + 1) l1)).or (bad2.or bad3)) = bad3 := by simp only [*, Option.none_or]
    have s1 := ‹Sub (_ :: rest) _›
    have c1 : IdAt _ _ _ := hv1.sub (R1 := _) (Sub.trans ‹Sub _ _› (Sub.trans ‹Sub _ _› ‹Sub _ _›))
    have s4 := Sub.trans s1 (Sub.trans ‹Sub _ _› (Sub.trans ‹Sub _ _› ‹Sub _ _›))
    have c2 := mV _ _ _ (SubN.of ‹Sub _ _›) hv2
    have ed : dep + 1 - 1 = dep := by omega
    rw [ed] at NN
    obtain ⟨R5, N5, n5, o5, b5, d5⟩ := News.out NN (s4 _ (.head _)) nct ncd ncd
    have W5 := W4.out (Nat.ne_of_lt (ktn_ltOf lA _ hT)) (Nat.ne_of_lt (ktn_ltOf lA _ hA)) n5 b5 d5
    have t5 := t4.subN n5
    have st5 := st4.subN n5
    have a1 := c1.subN n5
    have a2 := mV _ _ _ n5 c2
    have sR : Sub rest R5 := fun p hp => d5 p (s4 _ (.tail _ hp)) (Nat.ne_of_lt (ktn_ltOf lA p hp))
    clear NN
    k_steps
    · rename Fr _ _ _ _ => FF
      rename News _ _ _ _ => NN
      unfold Ldg at NN
      have hs6 := ‹Sub (_ :: _ :: R5) _›
      have N6 := News.dup NN (.tail _ (.tail _ (hs6 _ (.tail _ (.head _)))))
      have N7 : News _ _ _ ((_, listOf [Value.ref _].toArray 1) :: _) := News.dup N6 (.tail _ (.tail _ (.tail _ (hs6 _ (.head _)))))
      clear NN N6
      k_steps
      rename News _ _ _ _ => NN
      rename Fr _ _ _ _ => FF
      obtain ⟨q1, q2, q3, q4, q5, q6⟩ := ‹_ < _ ∧ _ < _ ∧ _ < _ ∧ _ < _ ∧ _ < _ ∧ AllLt _ _›
      obtain ⟨u1, u2, u3, u4, u5⟩ := ‹_ < _ ∧ _ < _ ∧ _ < _ ∧ _ < _ ∧ AllLt _ _›
      refine' ⟨rfl, _, _, _, _, rfl, FF, News.of NN turn_perm, ne4 q1 u3 u4 u5, ?_⟩
      clear NN FF
      intro h'' tk' FF NN
      try dsimp only
      k_steps
      rename News h₀ _ _ _ => NZ
      have r1 : Sub R5 _ := fun p hp => hs6 p (.tail _ (.tail _ hp))
      exact hret _ _ _ _ (bb.trans (by assumption)) (by k_asm) (News.of NZ perm1) ⟨_, _, _, _, _, ⟨_, _, _, _, _, _, rfl, .head _, (a1.sub r1).sub Sub.cons, mV _ _ _ (SubN.of (r1.trans Sub.cons)) a2, IdAt.sub Sub.cons (by assumption)⟩, (sR.trans r1).trans Sub.cons, rfl, Wld.cons (by assumption) q4 q5, Tk.sub Sub.cons (by assumption), Strm.sub Sub.cons (by assumption)⟩
    · exact herr _ _ _ _ _ (bb.trans (by assumption)) (by assumption) (by assumption) (by first | assumption | exact Thrown.sub (fun p hp => .tail _ (.tail _ (sR p hp))) (by assumption))
  all_goals exact herr _ _ _ _ _ (by simp only [*, Option.none_or, Option.some_or] <;> rfl) (by assumption) (by assumption) (by first | assumption | (refine' Thrown.sub ?_ (by assumption); first | exact Sub.cons | exact Sub.trans Sub.cons (Sub.trans (by assumption) (by lcg_off)) | lcg_off))
end
end
end
end
section
local macro_rules | `(tactic| bits_by_make) => `(tactic| first | assumption | (refine decide_eq_false ?_; simp only [hdK, hdV, kindOf]; decide) | (refine decide_eq_true ?_; simp only [hdK, hdV, kindOf]; decide) | (simp only [hdK, hdV, kindOf]; decide))
local macro_rules | `(tactic| kpt_turns) => `(tactic| first | assumption | exact Wld.cons (by kpt_turns) (by omega) (by omega))
local macro_rules | `(tactic| lcg_src) => `(tactic| first | assumption | exact Strm.sub Sub.cons (by lcg_src) | exact Strm.sub (by assumption) (by lcg_src))
section
local macro_rules | `(tactic| walk_at "no such key 2") => `(tactic| fail "none")
local macro_rules | `(tactic| walk_at "no such key 3") => `(tactic| fail "none")
local macro_rules | `(tactic| walk_at "no such key 4") => `(tactic| fail "none")
local macro_rules | `(tactic| walk_at "no such key 5") => `(tactic| fail "none")
local macro_rules | `(tactic| walk_at "call ref") => `(tactic| (k_here; (with_reducible show wpAny _ _ (call (Value.ref 146) _) _ _ _); k_dflt (first | (refine' Spec.use (is_op_spec (b := true) ?W ?ht ?hb) ?B ?F ?X ?N ?T ?hk0 ?hs ?hd ?hu ?_; (case B => k_asm); (case F => k_asm); (case X => k_asm); (case N => k_asm); (case T => k_asm); (case hk0 => first | exact rfl | assumption); (case hs => keq_rows); (case W => kpt_turns); (case ht => keq_hits); (case hb => bits_by_make); (case hd => ktr_room); (case hu => ktr_units); k_whole; kle_go) | (refine' Spec.use (is_op_spec (b := false) ?W ?ht ?hb) ?B ?F ?X ?N ?T ?hk0 ?hs ?hd ?hu ?_; (case B => k_asm); (case F => k_asm); (case X => k_asm); (case N => k_asm); (case T => k_asm); (case hk0 => first | exact rfl | assumption); (case hs => keq_rows); (case W => kpt_turns); (case ht => keq_hits); (case hb => bits_by_make); (case hd => ktr_room); (case hu => ktr_units); k_whole; kle_go))))
local macro_rules | `(tactic| walk_at "call ref") => `(tactic| (k_here; (with_reducible show wpAny _ _ (call (Value.ref 139) _) _ _ _); k_dflt ((refine' Spec.use (take_s ?W ?hst) ?B ?F ?X ?N ?T ?hk0 ?hs ?hd ?hu ?_; (case B => k_asm); (case F => k_asm); (case X => k_asm); (case N => k_asm); (case T => k_asm); (case hk0 => first | exact rfl | assumption); (case hs => keq_rows); (case W => kpt_turns); (case hst => lcg_src); (case hd => ktr_room); (case hu => ktr_units); k_whole; kse_step))))
local macro_rules | `(tactic| walk_at "call ref") => `(tactic| (k_here; (with_reducible show wpAny _ _ (call (Value.ref 160) _) _ _ _); k_dflt (first | (refine' Spec.use (accept_yes' ?W ?ht ?hk ?hst) ?B ?F ?X ?N ?T ?hk0 ?hs ?hd ?hu ?_; (case B => k_asm); (case F => k_asm); (case X => k_asm); (case N => k_asm); (case T => k_asm); (case hk0 => first | exact rfl | assumption); (case hs => keq_rows); (case W => kpt_turns); (case ht => keq_hits); (case hk => bits_by_make); (case hst => lcg_src); (case hd => ktr_room); (case hu => ktr_units); k_whole; kse_step) | (refine' Spec.use (accept_no ?W ?ht ?hb) ?B ?F ?X ?N ?T ?hk0 ?hs ?hd ?hu ?_; (case B => k_asm); (case F => k_asm); (case X => k_asm); (case N => k_asm); (case T => k_asm); (case hk0 => first | exact rfl | assumption); (case hs => keq_rows); (case W => kpt_turns); (case ht => keq_hits); (case hb => bits_by_make); (case hd => ktr_room); (case hu => ktr_units); k_whole; kle_go))))
local macro_rules | `(tactic| walk_at "call ref") => `(tactic| (k_here; (with_reducible show wpAny _ _ (call (Value.ref 174) _) _ _ _); k_dflt ((refine' Spec.use (expect_op_s ?W ?ht ?hk ?hst) ?B ?F ?X ?N ?T ?hk0 ?hs ?hd ?hu ?_; (case B => k_asm); (case F => k_asm); (case X => k_asm); (case N => k_asm); (case T => k_asm); (case hk0 => first | exact rfl | assumption); (case hs => keq_rows); (case W => kpt_turns); (case ht => keq_hits); (case hk => bits_by_make); (case hst => lcg_src); (case hd => ktr_room); (case hu => ktr_units); k_whole; kse_step))))
local macro_rules | `(tactic| walk_at "call ref") => `(tactic| (k_here; (with_reducible show wpAny _ _ (call (Value.ref 188) _) _ _ _); k_dflt ((refine' Spec.use (expect_id_s ?W ?ht ?hst) ?B ?F ?X ?N ?T ?hk0 ?hs ?hd ?hu ?_; (case B => k_asm); (case F => k_asm); (case X => k_asm); (case N => k_asm); (case T => k_asm); (case hk0 => first | exact rfl | assumption); (case hs => keq_rows); (case W => kpt_turns); (case ht => keq_hits); (case hst => lcg_src); (case hd => ktr_room); (case hu => ktr_units); k_whole; kle_both))))
local macro_rules | `(tactic| walk_at "call ref") => `(tactic| (k_here; (with_reducible show wpAny _ _ (call (Value.ref 321) _) _ _ _); k_dflt ((refine' Spec.use (leave_spec ?W) ?B ?F ?X ?N ?T ?hk0 ?hs ?hd ?hu ?_; (case B => k_asm); (case F => k_asm); (case X => k_asm); (case N => k_asm); (case T => k_asm); (case hk0 => first | exact rfl | assumption); (case hs => keq_rows); (case W => kpt_turns); (case hd => ktr_room); (case hu => ktr_units); k_whole; kle_norm))))
local macro_rules | `(tactic| walk_at "call ref") => `(tactic| (k_here; (with_reducible show wpAny _ _ (call (Value.ref 274) _) _ _ _); k_dflt ((refine' Spec.use (prec_s ?h) ?B ?F ?X ?N ?T ?hk0 ?hs ?hd ?hu ?_; (case B => k_asm); (case F => k_asm); (case X => k_asm); (case N => k_asm); (case T => k_asm); (case hk0 => first | exact rfl | assumption); (case hs => keq_rows); (case h => first | assumption | decide | (simp only [hdV]; decide)); (case hd => ktr_room); (case hu => ktr_units); k_whole; kpf_same2))))
local macro_rules | `(tactic| walk_at "call ref") => `(tactic| (k_here; (with_reducible show wpAny _ _ (call (Value.ref 281) _) _ _ _); k_dflt ((refine' Spec.use (is_unary_s) ?B ?F ?X ?N ?T ?hk0 ?hs ?hd ?hu ?_; (case B => k_asm); (case F => k_asm); (case X => k_asm); (case N => k_asm); (case T => k_asm); (case hk0 => first | exact rfl | assumption); (case hs => keq_rows); (case hd => ktr_room); (case hu => ktr_units); k_whole; kle_go))))
local macro_rules | `(tactic| walk_at "exec For Tuple Call cons nil") => `(tactic| (k_here; (with_reducible show wpAny _ _ (exec (Stmt.For (Expr.Tuple _ _ _) (Expr.Call (Expr.Name (PySem.Str.ofString "reversed") _) _ _ _) _ _ _) _) _ _ _); (rename Fr _ _ _ _ => lF'); (with_unfolding_all refine' For_turns lF' ?_; k_whole)))
local macro_rules | `(tactic| walk_at "pyIter ref") => `(tactic| (k_here; (with_reducible show wpAny _ _ (pyIter (Value.ref _)) (fun it s₂ => TurnsAt _ _ _ _ _ _ _ _ _ it s₂) _ _); k_dflt (first
  | (refine' rev_turns0 ?hh ?F ?N ?hm ?hI ?_; (case hh => exact rfl); (case F => k_asm); (case N => k_asm); (case hm => k_mem); (case hI => exact ktn_ltOf (by ktn_lt)); k_whole; intro h' tk' F' N'; (try k_sweep); (try dsimp only))
  | (refine' rev_turns1 ?hh ?F ?N ?hm ?hI ?_; (case hh => exact rfl); (case F => k_asm); (case N => k_asm); (case hm => k_mem); (case hI => exact ktn_ltOf (by ktn_lt)); k_whole; intro it' h' tk' hc' F' N'; (try k_sweep); (try dsimp only)))))
local macro_rules | `(tactic| walk_at "exec While BoolOp cons nil") => `(tactic| (k_here; k_dflt (refine whl_start 100 ?_)))
local macro_rules | `(tactic| walk_at "exec While BoolOp") => `(tactic| (k_here; k_dflt (refine whl_start 100 ?_)))
local macro_rules | `(tactic| walk_at "exec While Call cons nil") => `(tactic| (k_here; k_dflt (refine whl_start 100 ?_)))
local macro_rules | `(tactic| walk_at "exec While Call") => `(tactic| (k_here; k_dflt (refine whl_start 100 ?_)))
local macro_rules | `(tactic| walk_at "exec While") => `(tactic| (k_here; k_dflt (refine whl_start 100 ?_)))
set_option hygiene false in
local macro_rules | `(tactic| tb_start) => `(tactic| (
  unfold SpecE
  k_fill
  intro p loose mean mg mb dp un gd cn cs a ccd cl outer A₀ base h₀ L m s Q E B F X N T hk hd hu hret herr
  refine wpAny_call ?_
  k_dflt kpc_turns
  k_steps))
local macro_rules | `(tactic| walk_at "leaving ref") => `(tactic| (k_here; (refine' leave_thrown ?k1 ?k2 ?k3 ?k4 ?_; (case k3 => assumption); (case k1 => assumption); (case k4 => assumption); (case k2 => assumption); k_whole; intro h' R' U'; (try dsimp only at R' U' ⊢))))
variable {w : World} {P dP R dR TL AH : Addr} {toks : List Value} {ks rs : Nat → Tok} {wi : Bool} {i j k : Nat} {l l2 : List Str} {dep : Int} {bad : Option Int} {V : Led → Value → Prop}
local macro_rules | `(tactic| walk_at "call ref") => `(tactic| (k_here; (with_reducible show wpAny _ _ (call (Value.ref 335) _) _ _ _); k_dflt (refine' Op.use ?op ?W ?ht ?hst ?B ?F ?X ?N ?T ?hk0 ?hs ?hd ?hu (fun r9 tok9 ta9 td9 tp9 R9 h9 tk9 hb9 hv9 hs9 W9 ht9 hst9 F9 N9 => ?_) (fun e9 a9 h9 tk9 g9 hb9 Fg9 U9 Th9 => ?_); (case N => k_asm); (case hs => keq_rows); (case op => assumption); (case B => k_asm); (case F => k_asm); (case X => k_asm); (case T => k_asm); (case hk0 => first | exact rfl | assumption); (case W => kpt_turns); (case ht => keq_hits); (case hst => lcg_src); (case hd => ktr_room); (case hu => ktr_units); (all_goals (try (have W9' := W9; obtain ⟨hP9, hR9, ⟨nT9, hT9⟩, ⟨nA9, hA9⟩, hne9, oP9, oR9, sz9⟩ := W9'; have hk9 := ht9; (try simp only [hdK, hdV, hdA, kindOf_a, kq_q, kq_c, kq_r, kq_l] at hk9); obtain ⟨dT9, ts9, tk9, tv9, ta9, m9, m9'⟩ := hk9))); (all_goals (try k_sweep)); (all_goals (try dsimp only)); (all_goals (try k_fold)))))
theorem expr_in (hp : Op w P dP R dR TL AH toks ks rs true 335 [.ref P] k i l dep bad j l2 V) : Op w P dP R dR TL AH toks ks rs true 328 [.ref P] (k + 2) i l dep bad j l2 V := by
  intro rest tok ta td tp W ht hst
  have W0 := W
  obtain ⟨hP, hR, ⟨nT, hT⟩, ⟨nA, hA⟩, hne, oP, oR, sz⟩ := W
  tb_start
  · rename News _ _ _ _ => NN
    exact hret _ _ _ _ (by assumption) (by k_asm) NN ⟨_, _, _, _, _, by assumption, by lcg_off, rfl, by assumption, by assumption, by assumption⟩
  · exact herr _ _ _ _ _ (by assumption) (by assumption) (by assumption) (by first | assumption | exact Thrown.sub Sub.cons (by assumption))
local macro_rules | `(tactic| walk_at "call ref") => `(tactic| (k_here; (with_reducible show wpAny _ _ (call (Value.ref 328) _) _ _ _); k_dflt (refine' Op.use ?op ?W ?ht ?hst ?B ?F ?X ?N ?T ?hk0 ?hs ?hd ?hu (fun r9 tok9 ta9 td9 tp9 R9 h9 tk9 hb9 hv9 hs9 W9 ht9 hst9 F9 N9 => ?_) (fun e9 a9 h9 tk9 g9 hb9 Fg9 U9 Th9 => ?_); (case N => k_asm); (case hs => keq_rows); (case op => assumption); (case B => k_asm); (case F => k_asm); (case X => k_asm); (case T => k_asm); (case hk0 => first | exact rfl | assumption); (case W => kpt_turns); (case ht => keq_hits); (case hst => lcg_src); (case hd => ktr_room); (case hu => ktr_units); (all_goals (try (have W9' := W9; obtain ⟨hP9, hR9, ⟨nT9, hT9⟩, ⟨nA9, hA9⟩, hne9, oP9, oR9, sz9⟩ := W9'; have hk9 := ht9; (try simp only [hdK, hdV, hdA, kindOf_a, kq_q, kq_c, kq_r, kq_l] at hk9); obtain ⟨dT9, ts9, tk9, tv9, ta9, m9, m9'⟩ := hk9))); (all_goals (try k_sweep)); (all_goals (try dsimp only)); (all_goals (try k_fold)))))
theorem mtm_s (hp : Op w P dP R dR TL AH toks ks rs wi 328 [.ref P] k i l dep bad j (Str.ofString ")" :: l2) V) (hk14 : 12 ≤ k) : Op w P dP R dR TL AH toks ks rs wi 391 [.ref P] (k + 4) i l dep bad j (Str.ofString ")" :: l2) V := by
  intro rest tok ta td tp W ht hst
  have W0 := W
  obtain ⟨hP, hR, ⟨nT, hT⟩, ⟨nA, hA⟩, hne, oP, oR, sz⟩ := W
  tb_start
  · rename News _ _ _ _ => NN
    exact hret _ _ _ _ (by assumption) (by k_asm) NN ⟨_, _, _, _, _, by assumption, by lcg_off, rfl, by assumption, by assumption, by assumption⟩
  · exact herr _ _ _ _ _ (by assumption) (by assumption) (by assumption) (by first | assumption | exact Thrown.sub Sub.cons (by assumption))
local macro_rules | `(tactic| walk_at "call ref") => `(tactic| (k_here; (with_reducible show wpAny _ _ (call (Value.ref 391) _) _ _ _); k_dflt (refine' Op.use ?op ?W ?ht ?hst ?B ?F ?X ?N ?T ?hk0 ?hs ?hd ?hu (fun r9 tok9 ta9 td9 tp9 R9 h9 tk9 hb9 hv9 hs9 W9 ht9 hst9 F9 N9 => ?_) (fun e9 a9 h9 tk9 g9 hb9 Fg9 U9 Th9 => ?_); (case N => k_asm); (case hs => keq_rows); (case op => assumption); (case B => k_asm); (case F => k_asm); (case X => k_asm); (case T => k_asm); (case hk0 => first | exact rfl | assumption); (case W => kpt_turns); (case ht => keq_hits); (case hst => lcg_src); (case hd => ktr_room); (case hu => ktr_units); (all_goals (try (have W9' := W9; obtain ⟨hP9, hR9, ⟨nT9, hT9⟩, ⟨nA9, hA9⟩, hne9, oP9, oR9, sz9⟩ := W9'; have hk9 := ht9; (try simp only [hdK, hdV, hdA, kindOf_a, kq_q, kq_c, kq_r, kq_l] at hk9); obtain ⟨dT9, ts9, tk9, tv9, ta9, m9, m9'⟩ := hk9))); (all_goals (try k_sweep)); (all_goals (try dsimp only)); (all_goals (try k_fold)))))
theorem prim_p (mV : Mon V) (hp : Op w P dP R dR TL AH toks ks rs wi 391 [.ref P] k (i + 1) l dep bad j (Str.ofString ")" :: l2) V) (hk14 : 12 ≤ k) : Op w P dP R dR TL AH toks ks rs wi 356 [.ref P] (k + 4) i (Str.ofString "(" :: l) dep bad (j + 1) l2 V := by
  intro rest tok ta td tp W ht hst
  have W0 := W
  obtain ⟨hP, hR, ⟨nT, hT⟩, ⟨nA, hA⟩, hne, oP, oR, sz⟩ := W
  have ht0 : Tk w rest tok (Str.ofString "op") (Str.ofString "(") i := by simpa only [hdK, hdV, hdA, kq_l] using ht
  obtain ⟨dT, ts, tkk, tvv, taa, h1, h2⟩ := ht0
  tb_start
  · rename News h₀ _ _ _ => NN
    have s1 := ‹Sub rest _›
    have hv := ‹V _ _›
    exact hret _ _ _ _ (by assumption) (by k_asm) NN ⟨_, _, _, _, _, mV _ _ _ (SubN.of ‹Sub _ _›) hv, Sub.trans s1 (Sub.trans ‹Sub _ _› ‹Sub _ _›), rfl, by assumption, by assumption, by assumption⟩
  · exact herr _ _ _ _ _ (by assumption) (by assumption) (by assumption) (by first | assumption | (refine' Thrown.sub ?_ (by assumption); first | exact Sub.cons | exact Sub.trans Sub.cons (Sub.trans (by assumption) (by lcg_off)) | lcg_off))
end
section
/-- the words of r choices within one another, ahead of t -/
noncomputable def Ew (b : Bool) : Nat → List Str → List Str
  | 0, t => Str.ofString "a" :: t
  | r + 1, t => match b with
    | true => Str.ofString "a" :: Str.ofString "?" :: Str.ofString "(" :: Ew true r (Str.ofString ")" :: Str.ofString ":" :: Str.ofString "a" :: t)
    | false => Str.ofString "a" :: Str.ofString "?" :: Ew false r (Str.ofString ":" :: Str.ofString "a" :: t)
/-- how many they are -/
noncomputable def En (b : Bool) : Nat → Nat
  | 0 => 1
  | r + 1 => match b with
    | true => En true r + 6
    | false => En false r + 4
/-- where it is too deep, begun at i -/
noncomputable def Err (b : Bool) : Nat → Nat → Int → Option Int
  | 0, i, d => tooDeep d (i : Int)
  | r + 1, i, d => match b with
    | true => (tooDeep d (i : Int)).or ((tooDeep (d + 1) ((i + 2 : Nat) : Int)).or (Err true r (i + 3) (d + 2)))
    | false => (tooDeep d (i : Int)).or (Err false r (i + 2) (d + 1))
/-- the term -/
noncomputable def Tree (b : Bool) : Nat → Nat → Led → Value → Prop
  | 0, i => IdAt (i : Int)
  | r + 1, i => fun R1 v => ∃ y t1 t2 v1 v2 v3, v = .ref y ∧ (y, tupOf [.str (Str.ofString "cond") t1, .int ((i + 1 : Nat) : Int) t2, v1, v2, v3]) ∈ R1 ∧ IdAt (i : Int) R1 v1 ∧
      Tree b r (match b with | true => i + 3 | false => i + 2) R1 v2 ∧ IdAt ((i + En b (r + 1) - 1 : Nat) : Int) R1 v3
theorem Tree.mon (b : Bool) : ∀ r i, Mon (Tree b r i)
  | 0, i => IdAt.mon
  | r + 1, i => by
    rintro R R1 v s ⟨y, t1, t2, v1, v2, v3, e, m, a1, a2, a3⟩
    exact ⟨y, t1, t2, v1, v2, v3, e, s _ m nct, a1.subN s, Tree.mon b r _ R R1 v2 s a2, a3.subN s⟩
theorem Op.lift {w : World} {P dP R dR TL AH : Addr} {toks : List Value} {ks rs : Nat → Tok} {wi : Bool} {f : Addr} {args : List Value} {k k' : Nat} {i : Nat} {l : List Str} {dep : Int} {bad bad' : Option Int} {j j' : Nat} {l2 : List Str} {V V' : Led → Value → Prop}
  (h : Op w P dP R dR TL AH toks ks rs wi f args k i l dep bad j l2 V) (hk : k ≤ k') (hb : bad = bad') (hj : j = j') (hv : bad = none → ∀ R1 r, V R1 r → V' R1 r) : Op w P dP R dR TL AH toks ks rs wi f args k' i l dep bad' j' l2 V' := by
  subst hj
  intro rest tok ta td tp W ht hst
  refine SpecE.mono (h rest tok ta td tp W ht hst) hk hb ?_
  rintro r n b ⟨tok2, ta2, td2, tp2, R1, v, q⟩
  exact ⟨tok2, ta2, td2, tp2, R1, hv b _ _ v, q⟩
variable {w : World} {P dP R dR TL AH : Addr} {toks : List Value} {ks rs : Nat → Tok}
theorem td_or (d a : Int) (x : Option Int) : (tooDeep d a).or ((tooDeep d a).or x) = (tooDeep d a).or x := by
  unfold tooDeep; split <;> rfl
theorem bin_a (wi : Bool) (i : Nat) (l : List Str) (dep : Int) (ha : Aft l) : OpB w P dP R dR TL AH toks ks rs wi 26 i (Str.ofString "a" :: l) dep (tooDeep dep (i : Int)) (i + 1) l (IdAt (i : Int)) := fun t =>
  (binary_s (unary_a (prim_a ha)) ha (by omega) t).lift (by omega) (by cases h : tooDeep dep (hdA i (Str.ofString "a" :: l)) <;> (rw [show hdA i (Str.ofString "a" :: l) = (i : Int) from rfl] at h; rw [h]; rfl)) rfl fun _ _ _ h => h
/-- all the nesting there is -/
theorem inner_all (b : Bool) : ∀ (r i : Nat) (t : List Str) (dep : Int), Aft t → decide (hdK t = Str.ofString "op" ∧ hdV t = Str.ofString "?") = false →
    Op w P dP R dR TL AH toks ks rs true 335 [.ref P] (30 + 29 * r) i (Ew b r t) dep (Err b r i dep) (i + En b r) t (Tree b r i)
  | 0, i, t, dep, ha, hq => (inner_plain (bin_a true i t dep ha) hq (by omega)).lift (by omega) rfl rfl fun _ _ _ h => h
  | r + 1, i, t, dep, ha, hq => by
    have aq : ∀ x, Aft (Str.ofString "?" :: x) := fun x => .inr (.inl ⟨x, rfl⟩)
    have ac : ∀ x, Aft (Str.ofString ":" :: x) := fun x => .inr (.inr (.inl ⟨x, rfl⟩))
    have ar : ∀ x, Aft (Str.ofString ")" :: x) := fun x => .inr (.inr (.inr ⟨x, rfl⟩))
    have qc : ∀ x, decide (hdK (Str.ofString ":" :: x) = Str.ofString "op" ∧ hdV (Str.ofString ":" :: x) = Str.ofString "?") = false := fun x => by
      refine decide_eq_false ?_; simp only [hdK, hdV, kindOf]; decide
    have qr : ∀ x, decide (hdK (Str.ofString ")" :: x) = Str.ofString "op" ∧ hdV (Str.ofString ")" :: x) = Str.ofString "?") = false := fun x => by
      refine decide_eq_false ?_; simp only [hdK, hdV, kindOf]; decide
    cases b with
    | false =>
      have h2 := expr_in (inner_all false r (i + 1 + 1) (Str.ofString ":" :: Str.ofString "a" :: t) (dep + 1) (ac _) (qc _))
      have h := inner_cond (k := 26 + 29 * (r + 1)) (Tree.mon false r (i + 1 + 1)) (bin_a true i _ dep (aq _)) h2 (bin_a true _ t dep ha) hq (by omega) (by omega) (by omega) (by omega)
      refine h.lift (by omega) ?_ ?_ ?_
      · simp only [Err]
        unfold tooDeep
        by_cases hx : 60 ≤ dep
        · simp [hx]
        · simp [hx]
      · simp only [En]; omega
      · rintro _ R1 v ⟨y, t1, t2, v1, v2, v3, e, m, a1, a2, a3⟩
        exact ⟨y, t1, t2, v1, v2, v3, e, m, a1, a2, by rw [show i + En false (r + 1) - 1 = (i + 1 + 1 + En false r) + 1 by simp only [En]; omega]; exact a3⟩
    | true =>
      have h3 := mtm_s (expr_in (inner_all true r (i + 1 + 1 + 1) (Str.ofString ")" :: Str.ofString ":" :: Str.ofString "a" :: t) (dep + 1 + 1) (ar _) (qr _))) (by omega)
      have h4 := unary_p (prim_p (Tree.mon true r _) h3 (by omega))
      have h5 : OpB w P dP R dR TL AH toks ks rs true _ (i + 1 + 1) _ (dep + 1) _ _ _ _ := fun tt => binary_s h4 (ac _) (by omega) tt
      have h2 := expr_in (inner_plain h5 (qc _) (by omega))
      have h := inner_cond (k := 26 + 29 * (r + 1)) (Tree.mon true r (i + 1 + 1 + 1)) (bin_a true i _ dep (aq _)) h2 (bin_a true _ t dep ha) hq (by omega) (by omega) (by omega) (by omega)
      refine h.lift (by omega) ?_ ?_ ?_
      · simp only [Err]
        unfold tooDeep
        by_cases hx : 60 ≤ dep
        · simp [hx]
        · rw [show dep + 1 + 1 = dep + 2 by omega]
          simp [hx, hdA]
      · simp only [En]; omega
      · rintro _ R1 v ⟨y, t1, t2, v1, v2, v3, e, m, a1, a2, a3⟩
        exact ⟨y, t1, t2, v1, v2, v3, e, m, a1, a2, by rw [show i + En true (r + 1) - 1 = (i + 1 + 1 + 1 + En true r + 1) + 1 by simp only [En]; omega]; exact a3⟩
end
section
abbrev E2 (elt : Expr) (t0 : Expr) (i0 : Expr) (t1 : Expr) (i1 : Expr) (c : Expr) (scope : Scope) (pos : Pos) : Expr := .ListComp elt [⟨t0, i0, [], 0⟩, ⟨t1, i1, [c], 0⟩] scope pos
theorem turn_in (elt t0 i0 t1 i1 c : Expr) (scope : Scope) (pos : Pos) (it acc : Value) (env : Env) :
    compTurn (E2 elt t0 i0 t1 i1 c scope pos) 1 it acc env = (do
      standAt i1.pos
      match ← pyNext it with
      | none => pure (.done .next)
      | some v =>
        letOwnedTupleGo t1 it v
        assign t1 env v
        let mut ok := true
        for c in [c] do
          if ok then ok ← isTrue c env (eval c env)
        if ok then
          (do let _ ← call (.builtin "list.append") [acc, ← eval elt env])
        again (.compLoop (E2 elt t0 i0 t1 i1 c scope pos) 1 it acc env)) := by rfl
theorem turn_out (elt t0 i0 t1 i1 c : Expr) (scope : Scope) (pos : Pos) (it acc : Value) (env : Env) :
    compTurn (E2 elt t0 i0 t1 i1 c scope pos) 0 it acc env = (do
      standAt i0.pos
      match ← pyNext it with
      | none => pure (.done .next)
      | some v =>
        letOwnedTupleGo t0 it v
        assign t0 env v
        let ok ← forIn ([] : List Expr) true fun c r => if r = true then do let ok ← isTrue c env (eval c env); pure (ForInStep.yield ok) else pure (ForInStep.yield r)
        let nx : Sem Fin := again (.compLoop (E2 elt t0 i0 t1 i1 c scope pos) 0 it acc env)
        if ok then
          (do
            let x ← eval i1 env
            standAt i1.pos
            let x ← foldedSetIterable i1 env x
            let q ← holding [x] (pyIter x)
            let _ ← runOwn (.compStart (E2 elt t0 i0 t1 i1 c scope pos) 1 q acc env) env
            nx)
        else nx) := by
  unfold compTurn
  rfl
section
variable {prog : Program} {w : World} {A : Around} {E : Value → Shared → Prop} {R : Result → Shared → Prop} {s : Shared}
theorem start_in {elt t0 i0 t1 i1 c : Expr} {scope : Scope} {pos : Pos} {it acc : Value} {env : Env}
    (h0 : codeAny (model prog w) A (.compLoop (E2 elt t0 i0 t1 i1 c scope pos) 1 it acc env) R s)
    (h : wpAny (model prog w) A (pyIter it) (fun it' s' => codeAny (model prog w) A (.compLoop (E2 elt t0 i0 t1 i1 c scope pos) 1 it' acc env) R s')
      (notedBy (model prog w) A env fun x s' => R (.error x) s') s) :
    codeAny (model prog w) A (.compStart (E2 elt t0 i0 t1 i1 c scope pos) 1 it acc env) R s := by
  refine codeAny_of_tree ?_
  show wpAny _ _ ((compStart (E2 elt t0 i0 t1 i1 c scope pos) 1 it acc env).onRaise (fun x => do noteFrame x env; standAt theWindowsPlace)) _ _ s
  refine wpAny_notedAt ?_
  unfold compStart
  show wpAny _ _ (ask >>= _) _ _ s
  refine wpAny_bind (wpAny_askSetting (wpAny_ite ?_))
  split
  · first
      | exact wpAny_bind (wpAny_pure (wpAny_pure (And.intro rfl h0)))
      | exact wpAny_pure (And.intro rfl h0)
  · first
      | exact wpAny_bind (wpAny_rule (wpAny_bind (wpAny_standAt (wpAny_bind (wpAny_mono h (fun it' s' h' => wpAny_pure (And.intro rfl h')) fun _ _ x => x)))))
      | (refine wpAny_bind (wpAny_rule ?_); show wpAny _ _ (standAt i1.pos >>= _) _ _ s; exact wpAny_bind (wpAny_standAt (wpAny_bind (wpAny_mono h (fun it' s' h' => wpAny_pure (And.intro rfl h')) fun _ _ x => x))))
/-- the inner clause over a tuple -/
theorem loop_in {elt t0 i0 i1 c : Expr} {y : Str} {py : Pos} {scope : Scope} {pos : Pos} {J ax D : Addr} {cenv : Env} {items : Array Value} {ys : List Value} {m : Str → Option Value} (p : Value → Bool)
    (hh : A.handled = none) (hy : cenv.kindOf y = some .local)
    (hp : (cenv.scope.kind == .class || (cenv.scope.kind == .module && cenv.locals != cenv.globals)) = false)
    (hDJ : D ≠ J) (hDC : D ≠ cenv.locals) (hJC : J ≠ cenv.locals) (haJ : ax ≠ J) (haC : ax ≠ cenv.locals) (haD : ax ≠ D)
    (hit : s.heap.IsTupleIter J ax 0) (hl : s.heap.IsTuple ax items) (hacc : s.heap.get? D = some (LCg.lst ys)) (hn : s.heap.Ns cenv.locals m)
    (htest : ∀ v s₂ m₂ E', v ∈ items → s₂.heap.Ns cenv.locals m₂ → m₂ y = some v → (∀ b o, b ≠ cenv.locals → b ≠ J → b ≠ D → s.heap.get? b = some o → s₂.heap.get? b = some o) →
      wpAny (model prog w) A (isTrue c cenv (eval c cenv)) (fun ok s₃ => ok = p v ∧ Keeps s₂ s₃) E' s₂)
    (helt : ∀ v s₂ m₂ E', s₂.heap.Ns cenv.locals m₂ → m₂ y = some v → (∀ b o, b ≠ cenv.locals → b ≠ J → b ≠ D → s.heap.get? b = some o → s₂.heap.get? b = some o) → wpAny (model prog w) A (eval elt cenv) (fun r s₃ => r = v ∧ Keeps s₂ s₃) E' s₂)
    (hR : ∀ h' tk m', h'.Ns cenv.locals m' → (∀ z, z ≠ y → m' z = m z) → h'.get? D = some (LCg.lst (ys ++ items.toList.filter p)) →
      (∀ b o, b ≠ cenv.locals → b ≠ J → b ≠ D → s.heap.get? b = some o → h'.get? b = some o) → R (.ok .next) { s with heap := h', toks := tk })
    (hsz : ys.length + items.size ≤ sizeLine) :
    codeAny (model prog w) A (.compLoop (E2 elt t0 i0 (.Name y py) i1 c scope pos) 1 (.ref J) (.ref D) cenv) R s := by
  refine codeAny_loop rfl
    (fun k s' => ∃ h' tk m' i, s' = { s with heap := h', toks := tk } ∧ h'.IsTupleIter J ax i ∧ h'.IsTuple ax items ∧ h'.get? D = some (LCg.lst (ys ++ (items.toList.take i).filter p)) ∧ h'.Ns cenv.locals m' ∧ (∀ z, z ≠ y → m' z = m z) ∧
      i ≤ items.size ∧ k = items.size + 1 - i ∧ ∀ b o, b ≠ cenv.locals → b ≠ J → b ≠ D → s.heap.get? b = some o → h'.get? b = some o) ?_ (items.size + 1)
    ⟨s.heap, s.toks, m, 0, rfl, hit, hl, by simpa using hacc, hn, fun _ _ => rfl, Nat.zero_le _, rfl, fun _ _ _ _ _ e => e⟩
  rintro k s' ⟨H, tk, m', i, rfl, hit', hl', hacc', hn', hm', hi, rfl, hk⟩
  show wpAny _ A ((compTurn (E2 elt t0 i0 (.Name y py) i1 c scope pos) 1 (.ref J) (.ref D) cenv).onRaise (fun x => do noteFrame x cenv; theTreesLotGoes x)) _ _ _
  refine wpAny_noted ?_
  rw [turn_in]
  refine wpAny_bind (wpAny_standAt (wpAny_bind ?_))
  cases hv : items[i]? with
  | none =>
    have hsz : items.toList.length ≤ i := by simpa using hv
    refine wpAny_pyNext_tuple_end hh hit' hl' hv fun h₁ he₁ => ?_
    refine wpAny_pure ?_
    rw [List.take_of_length_le hsz] at hacc'
    exact hR h₁ tk m' (hn'.extBut he₁ (Ne.symm hJC)) hm' (he₁ D _ hDJ hacc') fun b o hbC hbI hbD e => he₁ b o hbI (hk b o hbC hbI hbD e)
  | some v =>
    have hlt : i < items.size := (Array.getElem?_eq_some_iff.mp hv).1
    have hmem : v ∈ items := by obtain ⟨h1, rfl⟩ := Array.getElem?_eq_some_iff.mp hv; exact Array.getElem_mem h1
    have hvl : items.toList[i]? = some v := by simpa using hv
    refine wpAny_pyNext_tuple_item hit' hl' hv fun h₁ hit₁ hs₁ => ?_
    refine wpAny_bind (wpAny_of_eq (show letOwnedTupleGo (.Name y py) (.ref J) v = pure () from rfl) ?_)
    refine wpAny_bind (wpAny_assign_Name (wpAny_storeName_local hy (hn'.sameBut hs₁ (Ne.symm hJC)) (fun h₂ hn₂ hs₂ => ?_) hp))
    refine wpAny_bind (wpAny_tests_one ?_)
    refine wpAny_mono (htest v _ _ _ hmem hn₂ (by simp) fun b o hbC hbI hbD e => hs₂.extBut b o hbC (hs₁.extBut b o hbI (hk b o hbC hbI hbD e))) (fun ok s₃ h₃ => ?_) fun _ _ e => e
    obtain ⟨rfl, h₃, tk₃, rfl, hk₃⟩ := h₃
    have up₃ : ∀ b o, b ≠ cenv.locals → b ≠ J → H.get? b = some o → h₃.get? b = some o := fun b o hbC hbI e => hk₃ b o (hs₂.extBut b o hbC (hs₁.extBut b o hbI e))
    have hit₃ : h₃.IsTupleIter J ax (i + 1) := (hit₁.at fun o e => hs₂.extBut J o hJC e).at fun o e => hk₃ _ o e
    have hl₃ : h₃.IsTuple ax items := hl'.at fun o e => up₃ ax o haC haJ e
    have hacc₃ := up₃ D _ hDC hDJ hacc'
    have hn₃ := hn₂.keeps hk₃
    have hm₃ : ∀ z, z ≠ y → (fun z => if z = y then some v else m' z) z = m z := fun z hz => by simp [hz, hm' z hz]
    cases hpv : p v with
    | false =>
      refine wpAny_pure ⟨rfl, items.size + 1 - (i + 1), by omega, h₃, tk₃, _, i + 1, rfl, hit₃, hl₃, ?_, hn₃, hm₃, hlt, rfl, fun b o hbC hbI hbD e => up₃ b o hbC hbI (hk b o hbC hbI hbD e)⟩
      rw [take_succ_filter p _ i v hvl, hpv]; simpa using hacc₃
    | true =>
      refine wpAny_bind (wpAny_bind (wpAny_mono (helt v _ _ _ hn₃ (by simp) fun b o hbC hbI hbD e => up₃ b o hbC hbI (hk b o hbC hbI hbD e)) (fun r s₄ h₄ => ?_) fun _ _ e => e))
      obtain ⟨rfl, h₄, tk₄, rfl, hk₄⟩ := h₄
      have hys : (ys ++ (items.toList.take i).filter p).toArray.size ≤ sizeLine := by
        have e2 : ((items.toList.take i).filter p).length ≤ (items.toList.take i).length := List.length_filter_le _ _
        have e3 : (items.toList.take i).length ≤ items.size := by rw [List.length_take]; simp; omega
        simp only [List.size_toArray, List.length_append]
        omega
      refine wpAny_bind (append_at (hsz := hys) (hk₄ _ _ hacc₃) fun h₅ hs₅ hl₅ => ?_)
      refine wpAny_pure (wpAny_pure ⟨rfl, items.size + 1 - (i + 1), by omega, h₅, tk₄, _, i + 1, rfl, (hit₃.at fun o e => hk₄ _ o e).at fun o e => hs₅.extBut _ o (Ne.symm hDJ) e, (hl₃.at fun o e => hk₄ _ o e).at fun o e => hs₅.extBut _ o haD e, ?_, (hn₃.keeps hk₄).at' fun o e => hs₅.extBut _ o (Ne.symm hDC) e, hm₃, hlt, rfl,
        fun b o hbC hbI hbD e => hs₅.extBut b o hbD (hk₄ b o (up₃ b o hbC hbI (hk b o hbC hbI hbD e)))⟩)
      rw [take_succ_filter p _ i r hvl, hpv]
      rw [hl₅, LCg.lst_snoc]; simp
theorem flat_len (p : Value → Bool) : ∀ (l : List (Addr × List Value)), (∀ q ∈ l, q.2.length ≤ 5) → (l.flatMap fun q => q.2.filter p).length ≤ 5 * l.length
  | [], _ => Nat.le_refl _
  | q :: l, h => by
    rw [List.flatMap_cons, List.length_append, List.length_cons]
    have e1 := flat_len p l fun q hq => h q (.tail _ hq)
    have e2 : (q.2.filter p).length ≤ q.2.length := List.length_filter_le _ _
    have e3 := h q (.head _)
    omega
/-- both clauses: a list of tuples -/
theorem loop_out {elt i0 i1 c : Expr} {x y : Str} {px py : Pos} {scope : Scope} {pos : Pos} {I ax D : Addr} {cenv : Env} {items : List (Addr × List Value)} {m : Str → Option Value} (p : Value → Bool)
    (hh : A.handled = none) (hh' : (A.mark none).handled = none) (hx : cenv.kindOf x = some .local) (hy : cenv.kindOf y = some .local) (hxy : x ≠ y)
    (hp : (cenv.scope.kind == .class || (cenv.scope.kind == .module && cenv.locals != cenv.globals)) = false)
    (hDI : D ≠ I) (hDC : D ≠ cenv.locals) (hIC : I ≠ cenv.locals) (haI : ax ≠ I) (haC : ax ≠ cenv.locals) (haD : ax ≠ D)
    (hit : s.heap.IsListIter I ax 0) (hl : s.heap.IsList ax (items.map fun q => Value.ref q.1).toArray) (hacc : s.heap.get? D = some (LCg.lst [])) (hn : s.heap.Ns cenv.locals m)
    (hitems : ∀ q ∈ items, s.heap.IsTuple q.1 q.2.toArray ∧ q.1 ≠ I ∧ q.1 ≠ cenv.locals ∧ q.1 ≠ D)
    (hs1 : ∀ v, foldedSetIterable i1 cenv v = pure v)
    (htest : ∀ q ∈ items, ∀ v ∈ q.2, ∀ s₂ m₂ E', s₂.heap.Ns cenv.locals m₂ → m₂ y = some v → (∀ b o, b ≠ cenv.locals → b ≠ I → b ≠ D → s.heap.get? b = some o → s₂.heap.get? b = some o) →
      wpAny (model prog w) (A.mark none) (isTrue c cenv (eval c cenv)) (fun ok s₃ => ok = p v ∧ Keeps s₂ s₃) E' s₂)
    (helt : ∀ v s₂ m₂ E', s₂.heap.Ns cenv.locals m₂ → m₂ y = some v → (∀ b o, b ≠ cenv.locals → b ≠ I → b ≠ D → s.heap.get? b = some o → s₂.heap.get? b = some o) → wpAny (model prog w) (A.mark none) (eval elt cenv) (fun r s₃ => r = v ∧ Keeps s₂ s₃) E' s₂)
    (hi1 : ∀ v s₂ m₂ E', s₂.heap.Ns cenv.locals m₂ → m₂ x = some v → (∀ b o, b ≠ cenv.locals → b ≠ I → b ≠ D → s.heap.get? b = some o → s₂.heap.get? b = some o) → wpAny (model prog w) A (eval i1 cenv) (fun r s₃ => r = v ∧ Keeps s₂ s₃) E' s₂)
    (hR : ∀ h' tk m', h'.Ns cenv.locals m' → h'.get? D = some (LCg.lst (items.flatMap fun q => q.2.filter p)) →
      (∀ b o, b ≠ cenv.locals → b ≠ I → b ≠ D → s.heap.get? b = some o → h'.get? b = some o) → R (.ok .next) { s with heap := h', toks := tk })
    (hsz : items.length ≤ 3) (hsz2 : ∀ q ∈ items, q.2.length ≤ 5) :
    codeAny (model prog w) A (.compLoop (E2 elt (.Name x px) i0 (.Name y py) i1 c scope pos) 0 (.ref I) (.ref D) cenv) R s := by
  refine codeAny_loop rfl
    (fun k s' => ∃ h' tk m' i, s' = { s with heap := h', toks := tk } ∧ h'.IsListIter I ax i ∧ h'.IsList ax (items.map fun q => Value.ref q.1).toArray ∧ h'.get? D = some (LCg.lst ((items.take i).flatMap fun q => q.2.filter p)) ∧ h'.Ns cenv.locals m' ∧
      i ≤ items.length ∧ k = items.length + 1 - i ∧ ∀ b o, b ≠ cenv.locals → b ≠ I → b ≠ D → s.heap.get? b = some o → h'.get? b = some o) ?_ (items.length + 1)
    ⟨s.heap, s.toks, m, 0, rfl, hit, hl, by simpa using hacc, hn, Nat.zero_le _, rfl, fun _ _ _ _ _ e => e⟩
  rintro k s' ⟨H, tk, m', i, rfl, hit', hl', hacc', hn', hi, rfl, hk⟩
  show wpAny _ A ((compTurn (E2 elt (.Name x px) i0 (.Name y py) i1 c scope pos) 0 (.ref I) (.ref D) cenv).onRaise (fun x => do noteFrame x cenv; theTreesLotGoes x)) _ _ _
  refine wpAny_noted ?_
  rw [turn_out]
  refine wpAny_bind (wpAny_standAt (wpAny_bind ?_))
  cases hq : items[i]? with
  | none =>
    have hsz : items.length ≤ i := by simpa using hq
    refine wpAny_pyNext_list_end hh hit' hl' (by simp [hq]) fun h₁ he₁ => ?_
    refine wpAny_pure ?_
    rw [List.take_of_length_le hsz] at hacc'
    exact hR h₁ tk m' (hn'.extBut he₁ (Ne.symm hIC)) (he₁ D _ hDI hacc') fun b o hbC hbI hbD e => he₁ b o hbI (hk b o hbC hbI hbD e)
  | some q =>
    have hlt : i < items.length := (List.getElem?_eq_some_iff.mp hq).1
    have hmem : q ∈ items := List.mem_of_getElem? hq
    obtain ⟨qT, qI, qC, qD⟩ := hitems q hmem
    refine wpAny_pyNext_list_item hit' hl' (x := .ref q.1) (by simp [hq]) fun h₁ hit₁ hs₁ => ?_
    refine wpAny_bind (wpAny_of_eq (show letOwnedTupleGo (.Name x px) (.ref I) (.ref q.1) = pure () from rfl) ?_)
    refine wpAny_bind (wpAny_assign_Name (wpAny_storeName_local hx (hn'.sameBut hs₁ (Ne.symm hIC)) (fun h₂ hn₂ hs₂ => ?_) hp))
    refine wpAny_bind (wpAny_tests_nil ?_)
    dsimp only
    simp only [if_true]
    refine wpAny_bind (wpAny_mono (hi1 (.ref q.1) _ _ _ hn₂ (by simp) fun b o hbC hbI hbD e => hs₂.extBut b o hbC (hs₁.extBut b o hbI (hk b o hbC hbI hbD e))) (fun r s₃ h₃ => ?_) fun _ _ e => e)
    obtain ⟨rfl, h₃, tk₃, rfl, hk₃⟩ := h₃
    have up₃ : ∀ b o, b ≠ cenv.locals → b ≠ I → H.get? b = some o → h₃.get? b = some o := fun b o hbC hbI e => hk₃ b o (hs₂.extBut b o hbC (hs₁.extBut b o hbI e))
    have hit₃ : h₃.IsListIter I ax (i + 1) := (hit₁.at fun o e => hs₂.extBut I o hIC e).at fun o e => hk₃ _ o e
    have hl₃ := hl'.at fun o e => up₃ ax o haC haI e
    have hacc₃ := up₃ D _ hDC hDI hacc'
    have hn₃ := hn₂.keeps hk₃
    have qT₃ : h₃.IsTuple q.1 q.2.toArray := qT.at fun o e => up₃ _ o qC qI (hk _ o qC qI qD e)
    refine wpAny_bind (wpAny_standAt (wpAny_bind (wpAny_of_eq (hs1 _) (wpAny_bind (wpAny_holding (wpAny_pyIter_tuple qT₃ ?_))))))
    have ex4 : ∀ b o, h₃.get? b = some o → (h₃.push { cls := .type "tuple_iterator", data := .fields #[.ref q.1, .int 0 0] }).get? b = some o := fun b o e => Heap.get?_push_of_some _ e
    have fresh : ∀ b o, h₃.get? b = some o → b ≠ h₃.objs.size := fun b o e => Nat.ne_of_lt (Heap.lt_size e)
    have itN : (h₃.push { cls := .type "tuple_iterator", data := .fields #[.ref q.1, .int 0 0] }).IsTupleIter h₃.objs.size q.1 0 := ⟨_, Heap.get?_push_size _ rfl, rfl, rfl⟩
    have eD := hacc₃
    obtain ⟨oT, eT, _⟩ := id qT₃
    obtain ⟨oI, eI, _⟩ := id hit₃
    obtain ⟨oA, eA, _⟩ := id hl₃
    obtain ⟨oC, _, _, eC, _⟩ := id hn₃
    generalize hJ : h₃.objs.size = J at *
    generalize hH : h₃.push { cls := .type "tuple_iterator", data := .fields #[.ref q.1, .int 0 0] } = H4 at *
    refine wpAny_bind (wpAny_runOwn ((fun lp => start_in lp (wpAny_pyIter_tupleiter itN lp)) (?_ : codeAny (model prog w) (A.mark none) (.compLoop (E2 elt (.Name x px) i0 (.Name y py) i1 c scope pos) 1 (.ref J) (.ref D) cenv) _ _)))
    refine loop_in p hh' hy hp (fresh _ _ eD) hDC (Ne.symm (fresh _ _ eC)) (fresh _ _ eT) qC qD itN (qT₃.at fun o e => ex4 _ o e) (ex4 _ _ hacc₃) (hn₃.at' fun o e => ex4 _ o e) ?_ ?_ ?_ ?_
    · intro v s₂ m₂ E' hv hn hm hks
      exact htest q hmem v (by simpa using hv) s₂ m₂ E' hn hm fun b o hbC hbI hbD e => by
        have e3 := up₃ b o hbC hbI (hk b o hbC hbI hbD e)
        exact hks b o hbC (fresh _ _ e3) hbD (ex4 _ _ e3)
    · intro v s₂ m₂ E' hn hm hks
      exact helt v s₂ m₂ E' hn hm fun b o hbC hbI hbD e => by
        have e3 := up₃ b o hbC hbI (hk b o hbC hbI hbD e)
        exact hks b o hbC (fresh _ _ e3) hbD (ex4 _ _ e3)
    · intro h' tk' m₅ hn₅ hm₅ hD₅ hk₅
      refine (wpAny_pure ⟨rfl, items.length + 1 - (i + 1), by omega, h', tk', m₅, i + 1, rfl, ?_, ?_, ?_, hn₅, hlt, rfl, ?_⟩)
      · exact hit₃.at fun o e => hk₅ _ o hIC (fresh _ _ e) (Ne.symm hDI) (ex4 _ _ e)
      · exact hl₃.at fun o e => hk₅ _ o haC (fresh _ _ e) haD (ex4 _ _ e)
      · rw [List.take_add_one, hq]
        simpa using hD₅
      · intro b o hbC hbI hbD e
        have e3 := up₃ b o hbC hbI (hk b o hbC hbI hbD e)
        exact hk₅ b o hbC (fresh _ _ e3) hbD (ex4 _ _ e3)
    · have e1 := flat_len p (items.take i) fun q hq => hsz2 q (List.mem_of_mem_take hq)
      have e2 : (items.take i).length ≤ items.length := by rw [List.length_take]; omega
      have e3 := hsz2 q hmem
      have e4 : q.2.toArray.size = q.2.length := List.size_toArray ..
      have e5 : 20 ≤ sizeLine := by size_fits
      omega
end
end
section
section
variable {prog : Program} {w : World} {A : Around} {E : Value → Shared → Prop} {s : Shared} {env : Env} {h₀ : Heap} {target : Expr} {body : List Stmt} {Q : Flow → Shared → Prop}
theorem letGo_range {I : Addr} {i left c : Int} {v : Value} {Q' : Unit → Shared → Prop} {s' : Shared} (hit : IsRangeIter s'.heap I i left c) (h : Q' () s') : wpAny (model prog w) A (letOwnedTupleGo target (.ref I) v) Q' E s' := by
  unfold letOwnedTupleGo
  split
  · cases v
    case ref a =>
      refine wpAny_bind (wpAny_load hit ?_)
      exact wpAny_pure h
    all_goals exact wpAny_pure h
  · cases v
    case ref a =>
      refine wpAny_bind (wpAny_load hit ?_)
      exact wpAny_pure h
    all_goals exact wpAny_pure h
  · exact wpAny_pure h
/-- how a turn ends -/
def TurnR (h₀ : Heap) (L I : Addr) (it : Obj) (J : (Str → Option Value) → Led → Prop) (s : Shared) (Q : Flow → Shared → Prop) (f : Flow) (s₂ : Shared) : Prop :=
  match f with
  | .ret v => Q (.ret v) s₂
  | .brk => Q .next s₂
  | .next => ∃ h' tk m' news', s₂ = { s with heap := h', toks := tk } ∧ Fr h₀ L h' m' ∧ News h₀ L h' ((I, it) :: news') ∧ (∀ p ∈ news', p.1 ≠ I) ∧ J m' news'
  | .cont => ∃ h' tk m' news', s₂ = { s with heap := h', toks := tk } ∧ Fr h₀ L h' m' ∧ News h₀ L h' ((I, it) :: news') ∧ (∀ p ∈ news', p.1 ≠ I) ∧ J m' news'
theorem rng_turns {r : Addr} {n : Nat} {t u v : Tok} {m₀ : Str → Option Value} {news : Led} (J : Nat → (Str → Option Value) → Led → Prop)
    (hh : A.handled = none) (F : Fr h₀ env.locals s.heap m₀) (N : News h₀ env.locals s.heap news) (hr : IsRange s.heap r 0 (n : Int) 1 t u v) (hsmall : Builtin.Range.small 0 (n : Int) 1 = true) (h0 : J 0 m₀ news)
    (turn : ∀ i t I it h tk m₁ news₁, i < n → J i m₁ news₁ → Fr h₀ env.locals h m₁ → News h₀ env.locals h ((I, it) :: news₁) → (∀ p ∈ news₁, p.1 ≠ I) → it.cls = .type "range_iterator" →
      wpAny (model prog w) A (assign target env (.int (i : Int) t)) (fun _ s₃ => wpAny (model prog w) A (execs body env) (TurnR h₀ env.locals I it (J (i + 1)) s Q) E s₃) E { s with heap := h, toks := tk })
    (done : ∀ h tk m₁ news₁, J n m₁ news₁ → Fr h₀ env.locals h m₁ → News h₀ env.locals h news₁ → Q .next { s with heap := h, toks := tk }) :
    wpAny (model prog w) A (pyIter (.ref r)) (fun it s₂ => TurnsAt prog w A h₀ env target body Q E it s₂) E s := by
  refine wpAny_pyIter_range hr hsmall ?_
  have hn : Builtin.Range.rangeSize 0 (n : Int) 1 = (n : Int) := by rw [rangeSize_nat]; simp
  refine ⟨s.heap.objs.size, _, _, n, _, _, _, m₀, news, J, rfl, KTurns.ofWalks (Walks.range (prog := prog) (w := w) hh s.heap.objs.size 0 1 n) fun i v s Q E st q => letGo_range st q, ?_, ?_, ?_, ?_, F.push _, fun p hp => ⟨Heap.get?_push_of_some _ (N p hp).1, (N p hp).2⟩, h0, ?_, ?_⟩
  · intro hm
    exact absurd F.ns.lt ((List.mem_singleton.mp hm) ▸ Nat.lt_irrefl _)
  · intro b hb
    rw [List.mem_singleton.mp hb]
    exact next_is_new F
  · intro p hp hI
    exact absurd (Heap.lt_size (N p hp).1) ((List.mem_singleton.mp hI) ▸ Nat.lt_irrefl _)
  · show IsRangeIter _ _ _ _ _
    rw [hn]; simpa using Heap.get?_push_size _ rfl
  · intro i v' m₁ news₁ h₁ tk₁ own hi hP hJ hwr hown hget hall hst F₁ N₁
    obtain ⟨t', rfl⟩ := hP
    have hI0 : h₀.get? s.heap.objs.size = none := next_is_new F
    obtain ⟨it, hit, hic⟩ : ∃ it, h₁.get? s.heap.objs.size = some it ∧ it.cls = .type "range_iterator" := ⟨_, hst, rfl⟩
    have hmemI := hall _ (List.mem_singleton.mpr rfl) hI0 _ hit
    have hoff : ∀ p ∈ news₁, p.1 ≠ s.heap.objs.size := fun p hp e => hwr p hp (List.mem_singleton.mpr e)
    have NI : News h₀ env.locals h₁ ((s.heap.objs.size, it) :: news₁) := fun p hp => by
      rcases List.mem_cons.mp hp with rfl | hp
      · exact N₁ _ (List.mem_append_left _ hmemI)
      · exact N₁ _ (List.mem_append_right _ hp)
    have e0 : (0 : Int) + (i : Int) * 1 = (i : Int) := by omega
    rw [e0]
    refine wpAny_mono (turn i t' _ _ h₁ tk₁ m₁ news₁ hi hJ F₁ NI hoff hic) (fun _ s₃ h₃ => wpAny_mono h₃ (fun f s₄ h₄ => ?_) fun _ _ e => e) fun _ _ e => e
    have key : (∃ h' tk m' news', s₄ = { s with heap := h', toks := tk } ∧ Fr h₀ env.locals h' m' ∧ News h₀ env.locals h' ((s.heap.objs.size, it) :: news') ∧ (∀ p ∈ news', p.1 ≠ s.heap.objs.size) ∧ J (i + 1) m' news') →
        LoopStepU h₀ env.locals [s.heap.objs.size] own (J (i + 1)) { s with heap := h₁, toks := tk₁ } .next s₄ := by
      rintro ⟨h', tk, m', news', rfl, F', N', ho, hJ'⟩
      refine ⟨rfl, h', tk, m', news', rfl, F', fun p hp => ?_, fun p hp hb => ho p hp (List.mem_singleton.mp hb), hJ'⟩
      rcases List.mem_append.mp hp with hp | hp
      · have h2 : h₁.get? p.1 = some p.2 := hget p hp
        have h1 : p.1 = s.heap.objs.size := List.mem_singleton.mp (hown p hp)
        rw [h1] at h2
        have h3 : p = (s.heap.objs.size, it) := Prod.ext h1 (Option.some.inj (h2.symm.trans hit))
        rw [h3]
        exact N' _ (.head _)
      · exact N' _ (.tail _ hp)
    cases f with
    | ret v => exact h₄
    | brk => exact h₄
    | next => exact key h₄
    | cont => exact key h₄
  · rintro h' tk m' news' F' N' _ hJ
    exact done h' tk m' news' hJ F' N'
end
end
section
def cEnv (scope : Scope) (C : Addr) (env : Env) : Env := { scope := scope, locals := C, globals := env.globals, cells := [], qual := env.qual, func := none, code := env.code, frame := env.frame, builtins := env.builtins }
section
variable {prog : Program} {w : World} {A : Around} {E : Value → Shared → Prop} {s : Shared} {env : Env} {h₀ : Heap} {m : Str → Option Value} {news : Led}
theorem comp2_B {elt i0 i1 c : Expr} {x y : Str} {px py : Pos} {scope : Scope} {pos : Pos} {ax : Addr} {n : Nat} {items : List (Addr × List Value)} {RR : Value → Env → Result → Shared → Prop} (p : Value → Bool)
    (hh : A.handled = none) (hh' : (A.mark none).handled = none) (F : Fr h₀ env.locals s.heap m) (N : News h₀ env.locals s.heap news)
    (hl : (ax, listOf (items.map fun q => Value.ref q.1).toArray n) ∈ news) (ht : ∀ q ∈ items, (q.1, tupOf q.2) ∈ news)
    (hcell : ∀ x ∈ scope.names, x.2 ≠ .cell) (hkind : scope.kind = .function)
    (hx : scope.names.lookup x = some .local) (hy : scope.names.lookup y = some .local) (hxy : x ≠ y)
    (hs1 : ∀ C v, foldedSetIterable i1 (cEnv scope C env) v = pure v)
    (htest : ∀ C, h₀.get? C = none → C ≠ env.locals → ∀ q ∈ items, ∀ v ∈ q.2, ∀ s₂ m₂ E', s₂.heap.Ns C m₂ → m₂ y = some v → (∀ b o, s.heap.get? b = some o → s₂.heap.get? b = some o) →
      wpAny (model prog w) (A.mark none) (isTrue c (cEnv scope C env) (eval c (cEnv scope C env))) (fun ok s₃ => ok = p v ∧ Keeps s₂ s₃) E' s₂)
    (helt : ∀ C, h₀.get? C = none → C ≠ env.locals → ∀ v s₂ m₂ E', s₂.heap.Ns C m₂ → m₂ y = some v → (∀ b o, s.heap.get? b = some o → s₂.heap.get? b = some o) → wpAny (model prog w) (A.mark none) (eval elt (cEnv scope C env)) (fun r s₃ => r = v ∧ Keeps s₂ s₃) E' s₂)
    (hi1 : ∀ C, h₀.get? C = none → C ≠ env.locals → ∀ v s₂ m₂ E', s₂.heap.Ns C m₂ → m₂ x = some v → (∀ b o, s.heap.get? b = some o → s₂.heap.get? b = some o) → wpAny (model prog w) A (eval i1 (cEnv scope C env)) (fun r s₃ => r = v ∧ Keeps s₂ s₃) E' s₂)
    (hsz : items.length ≤ 3) (hsz2 : ∀ q ∈ items, q.2.length ≤ 5)
    (hRR : ∀ D C h tk m', h.Ns C m' → Fr h₀ env.locals h m → News h₀ env.locals h ((D, LCg.lst (items.flatMap fun q => q.2.filter p)) :: news) → (∀ q ∈ news, q.1 < D) → (∀ b o, s.heap.get? b = some o → b ≠ C) → D ≠ C → h₀.get? C = none → RR (.ref D) (cEnv scope C env) (.ok .next) { s with heap := h, toks := tk }) :
    wpAny (model prog w) A (pyIter (.ref ax)) (fun it s₂ => wpAny (model prog w) A (newList []) (fun acc s₃ =>
      wpAny (model prog w) A (newFunctionEnv scope env.globals [] [] env.qual none .none (some env)) (fun cenv s₄ =>
        codeAny (model prog w) A (.compStart (E2 elt (.Name x px) i0 (.Name y py) i1 c scope pos) 0 it acc { cenv with scope := scope }) (RR acc { cenv with scope := scope }) s₄) E s₃) E s₂) E s := by
  have zl := N _ hl
  refine wpAny_pyIter_list (items := (items.map fun q => Value.ref q.1).toArray) ⟨_, zl.1, rfl, n, rfl⟩ ?_
  generalize hH1 : s.heap.push _ = H1
  have hI : H1.IsListIter s.heap.objs.size ax 0 := by rw [← hH1]; exact ⟨_, Heap.get?_push_size _ rfl, rfl, rfl⟩
  have ex1 : ∀ b o, s.heap.get? b = some o → H1.get? b = some o := fun b o e => by rw [← hH1]; exact Heap.get?_push_of_some _ e
  have sz1 : H1.objs.size = s.heap.objs.size + 1 := by rw [← hH1, Heap.size_push]
  refine wpAny_newObj_type (wpAny_newFunctionEnv hcell (by intro y hy; simp at hy) (fun h₁ hns₁ hsb₁ => ?_) hkind)
  dsimp only at hns₁ hsb₁ ⊢
  generalize hH2 : H1.push { cls := .type "list", dict := none, data := .seq ([] : List Value).toArray } = H2 at hns₁ hsb₁ ⊢
  have sz2 : H2.objs.size = s.heap.objs.size + 2 := by rw [← hH2, Heap.size_push, sz1]
  have ex2 : ∀ b o, H1.get? b = some o → H2.get? b = some o := fun b o e => by rw [← hH2]; exact Heap.get?_push_of_some _ e
  have gD : H2.get? (s.heap.objs.size + 1) = some (LCg.lst []) := by rw [← hH2, ← sz1]; exact Heap.get?_push_size _ rfl
  have old : ∀ b o, b < s.heap.objs.size + 2 → H2.get? b = some o → h₁.get? b = some o := fun b o hb e => hsb₁.extBut b o (by rw [sz2]; exact Nat.ne_of_lt hb) (Heap.get?_push_of_some _ e)
  have lt : ∀ b o, s.heap.get? b = some o → b < s.heap.objs.size := fun b o e => Heap.lt_size e
  have up : ∀ b o, s.heap.get? b = some o → h₁.get? b = some o := fun b o e => old b o (Nat.lt_of_lt_of_le (lt b o e) (by omega)) (ex2 _ _ (ex1 _ _ e))
  have fresh₀ : ∀ a, s.heap.objs.size ≤ a → h₀.get? a = none := fun a ha => by
    cases e : h₀.get? a with
    | none => rfl
    | some o' => exact absurd (lt _ _ (F.keep a o' e)) (Nat.not_lt.mpr ha)
  have hLlt : env.locals < s.heap.objs.size := F.ns.lt
  have dif : ∀ b o, s.heap.get? b = some o → b ≠ H2.objs.size ∧ b ≠ s.heap.objs.size ∧ b ≠ s.heap.objs.size + 1 := fun b o e => by
    have := lt b o e
    rw [sz2]
    exact ⟨Nat.ne_of_lt (Nat.lt_of_lt_of_le this (Nat.le_add_right _ 2)), Nat.ne_of_lt this, Nat.ne_of_lt (Nat.lt_succ_of_lt this)⟩
  have hCf : h₀.get? H2.objs.size = none := fresh₀ _ (by rw [sz2]; exact Nat.le_add_right _ 2)
  have hCl : H2.objs.size ≠ env.locals := by rw [sz2]; exact Nat.ne_of_gt (Nat.lt_of_lt_of_le hLlt (Nat.le_add_right _ 2))
  have lp : ∀ s₃ : Shared, (∃ tk, s₃ = { s with heap := h₁, toks := tk }) → codeAny (model prog w) A (.compLoop (E2 elt (.Name x px) i0 (.Name y py) i1 c scope pos) 0 (.ref s.heap.objs.size) (.ref H1.objs.size) (cEnv scope H2.objs.size env))
      (RR (.ref H1.objs.size) (cEnv scope H2.objs.size env)) s₃ := by
    rintro s₃ ⟨tk, rfl⟩
    rw [sz1]
    refine loop_out p hh hh' (x := x) (y := y) hx hy hxy (by simp [cEnv, hkind]) (Nat.ne_of_gt (Nat.lt_succ_self _)) ?_ ?_ (dif _ _ zl.1).2.1 (dif _ _ zl.1).1 (dif _ _ zl.1).2.2 ?_ ⟨_, up _ _ zl.1, rfl, n, rfl⟩ ?_ hns₁ ?_ (hs1 _) ?_ ?_ ?_ ?_ hsz hsz2
    · show s.heap.objs.size + 1 ≠ H2.objs.size
      rw [sz2]; exact Nat.ne_of_lt (Nat.lt_succ_self _)
    · show s.heap.objs.size ≠ H2.objs.size
      rw [sz2]; exact Nat.ne_of_lt (by omega)
    · obtain ⟨o, e, r⟩ := hI
      exact ⟨o, old _ _ (by omega) (ex2 _ _ e), r⟩
    · exact old _ _ (by omega) gD
    · intro q hq
      have z := N _ (ht q hq)
      exact ⟨⟨_, up _ _ z.1, rfl, _, rfl⟩, (dif _ _ z.1).2.1, (dif _ _ z.1).1, (dif _ _ z.1).2.2⟩
    · intro q hq v hv s₂ m₂ E' hn hm hk
      exact htest _ hCf hCl q hq v hv s₂ m₂ E' hn hm fun b o e => hk b o (dif _ _ e).1 (dif _ _ e).2.1 (dif _ _ e).2.2 (up _ _ e)
    · intro v s₂ m₂ E' hn hm hk
      exact helt _ hCf hCl v s₂ m₂ E' hn hm fun b o e => hk b o (dif _ _ e).1 (dif _ _ e).2.1 (dif _ _ e).2.2 (up _ _ e)
    · intro v s₂ m₂ E' hn hm hk
      exact hi1 _ hCf hCl v s₂ m₂ E' hn hm fun b o e => hk b o (dif _ _ e).1 (dif _ _ e).2.1 (dif _ _ e).2.2 (up _ _ e)
    · intro h' tk' m' hn' hD' hk'
      have up2 : ∀ b o, s.heap.get? b = some o → h'.get? b = some o := fun b o e => hk' b o (dif _ _ e).1 (dif _ _ e).2.1 (dif _ _ e).2.2 (up _ _ e)
      have nDC : s.heap.objs.size + 1 ≠ H2.objs.size := by rw [sz2]; exact Nat.ne_of_lt (Nat.lt_succ_self _)
      have r := hRR (s.heap.objs.size + 1) H2.objs.size h' tk' m' hn' ⟨F.ns.at' fun o e => up2 _ _ e, fun b o e => up2 b o (F.keep b o e), F.above⟩ (fun q hq => ?_) (fun q hq => Nat.lt_succ_of_lt (lt _ _ (N q hq).1)) (fun b o e => (dif _ _ e).1) nDC (fresh₀ _ (by rw [sz2]; exact Nat.le_add_right _ 2))
      · exact r
      rcases List.mem_cons.mp hq with rfl | hq
      · exact ⟨hD', Nat.ne_of_gt (Nat.lt_succ_of_lt hLlt), fresh₀ _ (Nat.le_succ _)⟩
      · exact ⟨up2 _ _ (N q hq).1, (N q hq).2⟩
  have I1 : h₁.IsListIter s.heap.objs.size ax 0 := by
    obtain ⟨o, e, r⟩ := hI
    exact ⟨o, old _ _ (by omega) (ex2 _ _ e), r⟩
  exact codeAny_compStart_list (lp _ ⟨_, rfl⟩) (wpAny_pyIter_listiter I1 (lp _ ⟨_, rfl⟩))
theorem comp2_A {elt i0 i1 c : Expr} {x y lv : Str} {px py pl : Pos} {scope : Scope} {pos spos : Pos} {ax : Addr} {n : Nat} {items : List (Addr × List Value)} {Q : Flow → Shared → Prop} (p : Value → Bool)
    (hsw : swapsWith (E2 elt (.Name x px) i0 (.Name y py) i1 c scope pos) (some (.Name lv pl)) spos.line env = pure true)
    (hlv : env.kindOf lv = some .local) (hp : (env.scope.kind == .class || (env.scope.kind == .module && env.locals != env.globals)) = false)
    (hh : A.handled = none) (hh' : (A.mark none).handled = none) (F : Fr h₀ env.locals s.heap m) (N : News h₀ env.locals s.heap news)
    (hl : (ax, listOf (items.map fun q => Value.ref q.1).toArray n) ∈ news) (ht : ∀ q ∈ items, (q.1, tupOf q.2) ∈ news)
    (hfree : ∀ x ∈ scope.names, x.2 ≠ .free) (hcell : ∀ x ∈ scope.names, x.2 ≠ .cell) (hkind : scope.kind = .function) (hnames : ∀ x ∈ scope.names, x.2 = .local → scope.names.lookup x.1 = some .local)
    (hx : scope.names.lookup x = some .local) (hy : scope.names.lookup y = some .local) (hxy : x ≠ y)
    (hi0 : ∀ (Q' : Value → Shared → Prop), Q' (.ref ax) s → wpAny (model prog w) A (eval i0 env) Q' E s)
    (hs0 : ∀ v, foldedSetIterable i0 env v = pure v) (hs1 : ∀ C v, foldedSetIterable i1 (cEnv scope C env) v = pure v)
    (htest : ∀ C, h₀.get? C = none → C ≠ env.locals → ∀ q ∈ items, ∀ v ∈ q.2, ∀ s₂ m₂ E', s₂.heap.Ns C m₂ → m₂ y = some v → (∀ b o, s.heap.get? b = some o → s₂.heap.get? b = some o) →
      wpAny (model prog w) (A.mark none) (isTrue c (cEnv scope C env) (eval c (cEnv scope C env))) (fun ok s₃ => ok = p v ∧ Keeps s₂ s₃) E' s₂)
    (helt : ∀ C, h₀.get? C = none → C ≠ env.locals → ∀ v s₂ m₂ E', s₂.heap.Ns C m₂ → m₂ y = some v → (∀ b o, s.heap.get? b = some o → s₂.heap.get? b = some o) → wpAny (model prog w) (A.mark none) (eval elt (cEnv scope C env)) (fun r s₃ => r = v ∧ Keeps s₂ s₃) E' s₂)
    (hi1 : ∀ C, h₀.get? C = none → C ≠ env.locals → ∀ v s₂ m₂ E', s₂.heap.Ns C m₂ → m₂ x = some v → (∀ b o, s.heap.get? b = some o → s₂.heap.get? b = some o) → wpAny (model prog w) A (eval i1 (cEnv scope C env)) (fun r s₃ => r = v ∧ Keeps s₂ s₃) E' s₂)
    (hsz : items.length ≤ 3) (hsz2 : ∀ q ∈ items, q.2.length ≤ 5)
    (hQ : ∀ D h tk, Fr h₀ env.locals h (fun z => if z = lv then some (.ref D) else m z) → News h₀ env.locals h ((D, LCg.lst (items.flatMap fun q => q.2.filter p)) :: news) → (∀ q ∈ news, q.1 < D) → Q .next { s with heap := h, toks := tk }) :
    wpAny (model prog w) A (exec (.Assign [.Name lv pl] (E2 elt (.Name x px) i0 (.Name y py) i1 c scope pos) spos) env) Q E s := by
  rw [exec_Assign_Name_used _ _ _ _ hsw]
  refine wpAny_bind (wpAny_standAt (wpAny_bind ?_))
  show wpAny _ A (do let _ ← comprehension (E2 elt (.Name x px) i0 (.Name y py) i1 c scope pos) scope env _ (newList []) false (eval i0 env) (some (assign (.Name lv pl) env))) _ _ s
  refine wpAny_bind (wpAny_mono (wpAny_comprehension_use (Q := fun _ s' => Q .next s') rfl hs0 hfree hkind hnames (hi0 _ ?_))
    (fun _ s' hq => wpAny_pure (wpAny_pure hq)) fun _ _ e => e)
  refine comp2_B (RR := fun acc cenv r s' => match r with
      | .ok _ => wpAny (model prog w) A (assign (.Name lv pl) env acc) (fun _ s'' => ∃ m, s''.heap.Ns cenv.locals m ∧ ∀ h', Heap.SameBut cenv.locals s''.heap h' → Q .next { s'' with heap := h' }) E s'
      | .error x => ∃ m, s'.heap.Ns cenv.locals m ∧ ∀ h', Heap.SameBut cenv.locals s'.heap h' → wpAny (model prog w) A (passOn "comprehension.variables-let-go" x cenv) (fun _ s' => Q .next s') E { s' with heap := h' }) p hh hh' F N hl ht hcell hkind hx hy hxy hs1 htest helt hi1 hsz hsz2 ?_
  intro D C h tk m' hnC F' N' hlt hoC hDC hC0
  have hLC : env.locals ≠ C := by obtain ⟨o, _, _, ho, _⟩ := F.ns; exact hoC _ _ ho
  show wpAny _ _ (assign (.Name lv pl) env (.ref D)) _ _ _
  refine wpAny_assign_Name (wpAny_storeName_local hlv F'.ns (fun h₂ hn₂ hs₂ => ?_) hp)
  refine ⟨m', hnC.sameBut hs₂ (Ne.symm hLC), fun h₃ hs₃ => ?_⟩
  refine hQ D h₃ (tk + 1) ⟨hn₂.sameBut hs₃ hLC, fun b o e => ?_, F'.above⟩ (fun q hq => ?_) hlt
  · refine hs₃.extBut b o (fun q => by rw [show b = C from q, hC0] at e; cases e) (hs₂.extBut b o (Nat.ne_of_lt (Nat.lt_of_lt_of_le (Heap.lt_size e) F'.above)) (F'.keep b o e))
  · have z := N' q hq
    refine ⟨hs₃.extBut _ _ ?_ (hs₂.extBut _ _ z.2.1 z.1), z.2⟩
    rcases List.mem_cons.mp hq with rfl | hq
    · exact hDC
    · exact hoC _ _ (N q hq).1
end
end
section
def isT : Value → Bool
  | .ref _ => true
  | _ => false
def VOk (R : Led) (v : Value) : Prop := (∃ s t, v = .str s t) ∨ (∃ n t, v = .int n t) ∨ ∃ z l, v = .ref z ∧ (z, tupOf l) ∈ R
def IdP (R : Led) (q : Addr × List Value) : Prop := (q.1, tupOf q.2) ∈ R ∧ q.2.length ≤ 5 ∧ (∀ v ∈ q.2, VOk R v) ∧ q.2.filter isT = []
noncomputable def TrP (R : Led) : Nat → (Addr × List Value) → Prop
  | 0, q => IdP R q
  | k + 1, q => (q.1, tupOf q.2) ∈ R ∧ q.2.length ≤ 5 ∧ (∀ v ∈ q.2, VOk R v) ∧ ∃ x a z, q.2.filter isT = [.ref x.1, .ref a.1, .ref z.1] ∧ IdP R x ∧ TrP R k a ∧ IdP R z
def LvI (R : Led) (k : Nat) (items : List (Addr × List Value)) : Prop := ∃ a, TrP R k a ∧ (items = [a] ∨ ∃ x z, items = [x, a, z] ∧ IdP R x ∧ IdP R z)
theorem IdAt.p {a : Int} {R : Led} {v : Value} (h : IdAt a R v) : ∃ q, v = .ref q.1 ∧ IdP R q := by
  obtain ⟨y, t1, t2, t3, rfl, m⟩ := h
  refine ⟨(y, [.str (Str.ofString "id") t1, .int a t2, .str (Str.ofString "a") t3]), rfl, m, by simp, fun v hv => ?_, rfl⟩
  simp only [List.mem_cons, List.not_mem_nil, or_false] at hv
  rcases hv with rfl | rfl | rfl
  · exact .inl ⟨_, _, rfl⟩
  · exact .inr (.inl ⟨_, _, rfl⟩)
  · exact .inl ⟨_, _, rfl⟩
theorem TrP.mem {R : Led} {k : Nat} {q : Addr × List Value} (h : TrP R k q) : (q.1, tupOf q.2) ∈ R ∧ q.2.length ≤ 5 ∧ ∀ v ∈ q.2, VOk R v := by
  cases k with
  | zero => exact ⟨h.1, h.2.1, h.2.2.1⟩
  | succ k => exact ⟨h.1, h.2.1, h.2.2.1⟩
theorem Tree.p {b : Bool} {R : Led} : ∀ {k i : Nat} {v : Value}, Tree b k i R v → ∃ q, v = .ref q.1 ∧ TrP R k q
  | 0, i, v, h => IdAt.p h
  | k + 1, i, v, h => by
    obtain ⟨y, t1, t2, v1, v2, v3, rfl, m, a1, a2, a3⟩ := h
    obtain ⟨x, rfl, hx⟩ := a1.p
    obtain ⟨a, rfl, ha⟩ := Tree.p a2
    obtain ⟨z, rfl, hz⟩ := a3.p
    refine ⟨(y, [.str (Str.ofString "cond") t1, .int ((i + 1 : Nat) : Int) t2, .ref x.1, .ref a.1, .ref z.1]), rfl, m, by simp, fun v hv => ?_, x, a, z, rfl, hx, ha, hz⟩
    simp only [List.mem_cons, List.not_mem_nil, or_false] at hv
    rcases hv with rfl | rfl | rfl | rfl | rfl
    · exact .inl ⟨_, _, rfl⟩
    · exact .inr (.inl ⟨_, _, rfl⟩)
    · exact .inr (.inr ⟨_, _, rfl, hx.1⟩)
    · exact .inr (.inr ⟨_, _, rfl, ha.mem.1⟩)
    · exact .inr (.inr ⟨_, _, rfl, hz.1⟩)
theorem LvI.len {R : Led} {k : Nat} {l : List (Addr × List Value)} (h : LvI R k l) : l.length ≤ 3 := by
  obtain ⟨a, _, rfl | ⟨x, z, rfl, _⟩⟩ := h <;> simp
theorem LvI.mem {R : Led} {k : Nat} {l : List (Addr × List Value)} (h : LvI R k l) : ∀ q ∈ l, (q.1, tupOf q.2) ∈ R ∧ q.2.length ≤ 5 ∧ ∀ v ∈ q.2, VOk R v := by
  obtain ⟨a, ha, rfl | ⟨x, z, rfl, hx, hz⟩⟩ := h
  · intro q hq
    rw [List.mem_singleton.mp hq]
    exact ha.mem
  · intro q hq
    simp only [List.mem_cons, List.not_mem_nil, or_false] at hq
    rcases hq with rfl | rfl | rfl
    · exact ⟨hx.1, hx.2.1, hx.2.2.1⟩
    · exact ha.mem
    · exact ⟨hz.1, hz.2.1, hz.2.2.1⟩
theorem LvI.last {R : Led} {l : List (Addr × List Value)} (h : LvI R 0 l) : (l.flatMap fun q => q.2.filter isT) = [] := by
  obtain ⟨a, ha, rfl | ⟨x, z, rfl, hx, hz⟩⟩ := h
  · simp only [List.flatMap_cons, List.flatMap_nil, ha.2.2.2, List.append_nil]
  · simp only [List.flatMap_cons, List.flatMap_nil, hx.2.2.2, hz.2.2.2, ha.2.2.2, List.append_nil]
theorem LvI.next {R : Led} {k : Nat} {l : List (Addr × List Value)} (h : LvI R (k + 1) l) : ∃ l', LvI R k l' ∧ (l.flatMap fun q => q.2.filter isT) = l'.map fun q => Value.ref q.1 := by
  obtain ⟨a, ⟨_, _, _, x', a', z', e, hx', ha', hz'⟩, rfl | ⟨x, z, rfl, hx, hz⟩⟩ := h
  · refine ⟨[x', a', z'], ⟨a', ha', .inr ⟨x', z', rfl, hx', hz'⟩⟩, ?_⟩
    simp only [List.flatMap_cons, List.flatMap_nil, e, List.append_nil, List.map_cons, List.map_nil]
  · refine ⟨[x', a', z'], ⟨a', ha', .inr ⟨x', z', rfl, hx', hz'⟩⟩, ?_⟩
    simp only [List.flatMap_cons, List.flatMap_nil, hx.2.2.2, hz.2.2.2, e, List.append_nil, List.nil_append, List.map_cons, List.map_nil]
theorem cEnv_eq {scope : Scope} {C : Addr} {env : Env} (h : relabel scope env = scope) : cEnv scope C env = compEnvC scope [] C env := by
  unfold cEnv compEnvC
  rw [h]
theorem leaf_facts {h₀ h h₂ : Heap} {L C : Addr} {m m₂ : Str → Option Value} {news : Led} (F : Fr h₀ L h m) (N : News h₀ L h news) (hn : h₂.Ns C m₂) (hC : h₀.get? C = none) (hCl : C ≠ L) (hk : ∀ b o, h.get? b = some o → h₂.get? b = some o) :
    ∃ oC, LCg.NsObj oC m₂ ∧ Fr h₀ L h₂ m ∧ News h₀ L h₂ ((C, oC) :: news) := by
  obtain ⟨oC, heC, hoC⟩ := LCg.ns_obj hn
  refine ⟨oC, hoC, ⟨F.ns.at' (fun o e => hk _ o e), fun b o e => hk b o (F.keep b o e), F.above⟩, fun p hp => ?_⟩
  rcases List.mem_cons.mp hp with rfl | hp
  · exact ⟨heC, hCl, hC⟩
  · exact ⟨hk _ _ (N p hp).1, (N p hp).2⟩
theorem News.re {h₀ h : Heap} {L D : Addr} {ys zs : List Value} {r : Led} (N : News h₀ L h ((D, LCg.lst ys) :: r)) (e : ys = zs) : News h₀ L h ((D, listOf zs.toArray zs.length) :: r) := by
  subst e
  exact N
theorem swap2 {d i : Addr × Obj} {r : Led} : ∀ q ∈ i :: d :: r, q ∈ d :: i :: r := by
  intro q h
  simp only [List.mem_cons] at h ⊢
  rcases h with h | h | h <;> simp [h]
theorem off_cons {I D : Addr} {o : Obj} {r : Led} (h : ∀ p ∈ r, p.1 ≠ I) (hD : @LT.lt Nat _ I D) : ∀ p ∈ (D, o) :: r, p.1 ≠ I := by
  intro p hp
  rcases List.mem_cons.mp hp with rfl | hp
  · exact Nat.ne_of_gt hD
  · exact h p hp
/-- what holds as the step-th turn begins -/
def JH (R : Led) (r : Nat) (j : Nat) (m : Str → Option Value) (news : Led) : Prop :=
  ∃ (ax : Addr) (n : Nat) (items : List (Addr × List Value)) (u : Str → Option Value) (R' : Led), j ≤ r ∧ LvI R (r - j) items ∧ m = (fun y => if y = Str.ofString "level" then some (.ref ax) else u y) ∧ news = (ax, listOf (items.map fun q => Value.ref q.1).toArray n) :: R' ∧ Sub R R'
end
section
local macro_rules | `(tactic| walk_at "exec For Name Call cons nil") => `(tactic| (k_here; (with_reducible show wpAny _ _ (exec (Stmt.For (Expr.Name _ _) (Expr.Call (Expr.Name (PySem.Str.ofString "range") _) _ _ _) _ _ _) _) _ _ _); (rename Fr _ _ _ _ => lF'); (with_unfolding_all refine' For_turns lF' ?_; k_whole)))
theorem is_high_t {w : World} {rest : Led} {b : Bool} {r i : Nat} {v : Value} (hr : r ≤ 11) (hv : Tree b r i rest v) : Spec w 293 [v] 6 rest (fun x news' => x = .bool false ∧ news' = rest) := by
  obtain ⟨q, rfl, hq⟩ := Tree.p hv
  tb_start
  rename Fr _ _ _ _ => FF
  rename News _ _ _ _ => NN
  k_here
  k_dflt (refine' rng_turns (n := 200) (JH rest r) ?hh ?F ?N ?hr ?hsm ?h0 ?turn ?done; (case hh => exact rfl); (case F => k_asm); (case N => k_asm); (case hr => assumption); (case hsm => decide +kernel); (case h0 => exact ⟨_, _, [q], _, _, Nat.zero_le _, ⟨q, hq, .inl rfl⟩, rfl, rfl, Sub.refl⟩))
  case turn =>
    rintro i t I it h tk m₁ news₁ hi ⟨ax, n, items, u, R', hir, hL, rfl, rfl, hsub⟩ F₁ N₁ hoff hc
    try dsimp only
    k_steps
    rename Fr _ _ _ _ => F₂
    rename News _ _ _ _ => N₂
    k_here
    k_dflt (refine' comp2_A isT ?hsw ?hlv ?hp ?hh ?hh2 F₂ N₂ ?hl ?ht ?hfree ?hcell ?hkind ?hnames ?hx ?hy ?hxy ?hi0 ?hs0 ?hs1 ?htest ?helt ?hi1 ?hsz ?hsz2 ?hQ)
    case hsw => exact rfl
    case hlv => exact rfl
    case hp => exact rfl
    case hh => exact rfl
    case hh2 => exact rfl
    case hl => exact .tail _ (.head _)
    case ht => exact fun q hq => .tail _ (.tail _ (hsub _ (hL.mem q hq).1))
    case hfree => decide
    case hcell => decide
    case hkind => rfl
    case hnames => decide
    case hx => rfl
    case hy => rfl
    case hxy => decide
    case hsz => exact hL.len
    case hsz2 => exact fun q hq => (hL.mem q hq).2.1
    case hs0 => intro _; rfl
    case hs1 => intro _ _; rfl
    case hi0 =>
      intro Q' hQ'
      k_steps
      exact hQ'
    case htest =>
      intro C hC hCl q hq v hv s₂ m₂ E' hn hm hk
      obtain ⟨oC, hoC, F₃, N₃⟩ := leaf_facts F₂ N₂ hn hC hCl hk
      rw [cEnv_eq]
      rotate_left
      · rfl
      clear F₂ N₂
      rcases (hL.mem q hq).2.2 v hv with ⟨st, t5, rfl⟩ | ⟨n5, t5, rfl⟩ | ⟨z, l5, rfl, hz⟩
      · k_steps
        exact ⟨_, _, rfl, fun _ _ e => e⟩
      · k_steps
        exact ⟨_, _, rfl, fun _ _ e => e⟩
      · have hz' := hsub _ hz
        k_steps
        exact ⟨_, _, rfl, fun _ _ e => e⟩
    case helt =>
      intro C hC hCl v s₂ m₂ E' hn hm hk
      obtain ⟨oC, hoC, F₃, N₃⟩ := leaf_facts F₂ N₂ hn hC hCl hk
      rw [cEnv_eq]
      rotate_left
      · rfl
      clear F₂ N₂
      k_steps
      exact ⟨_, _, rfl, fun _ _ e => e⟩
    case hi1 =>
      intro C hC hCl v s₂ m₂ E' hn hm hk
      obtain ⟨oC, hoC, F₃, N₃⟩ := leaf_facts F₂ N₂ hn hC hCl hk
      rw [cEnv_eq]
      rotate_left
      · rfl
      clear F₂ N₂
      k_steps
      exact ⟨_, _, rfl, fun _ _ e => e⟩
    case hQ =>
      intro D h' tk' F' N' hlt
      clear F₂ N₂ F₁ N₁
      have hDI : I < D := hlt _ (.head _)
      dsimp only
      obtain ⟨kk, hkk⟩ : ∃ kk, r - i = kk := ⟨_, rfl⟩
      rw [hkk] at hL
      cases kk with
      | zero =>
        have N3 := News.re N' hL.last
        clear N'
        k_steps
        dsimp only [TurnR]
        k_steps
        rename News h₀ _ _ _ => NZ
        exact hret _ _ _ _ (by k_asm) (News.of NZ (fun q hq => .tail _ (.tail _ (.tail _ (hsub _ hq))))) ⟨rfl, rfl⟩
      | succ kk =>
        obtain ⟨l2, hL2, e⟩ := hL.next
        obtain ⟨a2, hTa, rfl | ⟨x2, z2, rfl, hx2, hz2⟩⟩ := id hL2
        · have N3 := News.re (zs := [Value.ref a2.1]) N' e
          clear N'
          k_steps
          exact ⟨_, _, _, _, rfl, F', News.of N3 swap2, off_cons hoff hDI, D, _, [a2], _, _, by omega, by rw [show r - (i + 1) = kk by omega]; exact hL2, rfl, rfl, hsub.trans Sub.cons⟩
        · have N3 := News.re (zs := [Value.ref x2.1, Value.ref a2.1, Value.ref z2.1]) N' e
          clear N'
          k_steps
          exact ⟨_, _, _, _, rfl, F', News.of N3 swap2, off_cons hoff hDI, D, _, [x2, a2, z2], _, _, by omega, by rw [show r - (i + 1) = kk by omega]; exact hL2, rfl, rfl, hsub.trans Sub.cons⟩
  case done =>
    rintro h tk m₁ news₁ ⟨ax, n, items, u, R', hir, _⟩
    omega
end
section
local macro_rules | `(tactic| walk_at "call ref") => `(tactic| (k_here; (with_reducible show wpAny _ _ (call (Value.ref 146) _) _ _ _); k_dflt (first | (refine' Spec.use (is_op_spec (b := true) ?W ?ht ?hb) ?B ?F ?X ?N ?T ?hk0 ?hs ?hd ?hu ?_; (case B => k_asm); (case F => k_asm); (case X => k_asm); (case N => k_asm); (case T => k_asm); (case hk0 => first | exact rfl | assumption); (case hs => keq_rows); (case W => kpt_turns); (case ht => keq_hits); (case hb => bits_by_make); (case hd => ktr_room); (case hu => ktr_units); k_whole; kle_go) | (refine' Spec.use (is_op_spec (b := false) ?W ?ht ?hb) ?B ?F ?X ?N ?T ?hk0 ?hs ?hd ?hu ?_; (case B => k_asm); (case F => k_asm); (case X => k_asm); (case N => k_asm); (case T => k_asm); (case hk0 => first | exact rfl | assumption); (case hs => keq_rows); (case W => kpt_turns); (case ht => keq_hits); (case hb => bits_by_make); (case hd => ktr_room); (case hu => ktr_units); k_whole; kle_go))))
local macro_rules | `(tactic| walk_at "call ref") => `(tactic| (k_here; (with_reducible show wpAny _ _ (call (Value.ref 139) _) _ _ _); k_dflt ((refine' Spec.use (take_s ?W ?hst) ?B ?F ?X ?N ?T ?hk0 ?hs ?hd ?hu ?_; (case B => k_asm); (case F => k_asm); (case X => k_asm); (case N => k_asm); (case T => k_asm); (case hk0 => first | exact rfl | assumption); (case hs => keq_rows); (case W => kpt_turns); (case hst => lcg_src); (case hd => ktr_room); (case hu => ktr_units); k_whole; kse_step))))
local macro_rules | `(tactic| walk_at "call ref") => `(tactic| (k_here; (with_reducible show wpAny _ _ (call (Value.ref 160) _) _ _ _); k_dflt (first | (refine' Spec.use (accept_yes' ?W ?ht ?hk ?hst) ?B ?F ?X ?N ?T ?hk0 ?hs ?hd ?hu ?_; (case B => k_asm); (case F => k_asm); (case X => k_asm); (case N => k_asm); (case T => k_asm); (case hk0 => first | exact rfl | assumption); (case hs => keq_rows); (case W => kpt_turns); (case ht => keq_hits); (case hk => bits_by_make); (case hst => lcg_src); (case hd => ktr_room); (case hu => ktr_units); k_whole; kse_step) | (refine' Spec.use (accept_no ?W ?ht ?hb) ?B ?F ?X ?N ?T ?hk0 ?hs ?hd ?hu ?_; (case B => k_asm); (case F => k_asm); (case X => k_asm); (case N => k_asm); (case T => k_asm); (case hk0 => first | exact rfl | assumption); (case hs => keq_rows); (case W => kpt_turns); (case ht => keq_hits); (case hb => bits_by_make); (case hd => ktr_room); (case hu => ktr_units); k_whole; kle_go))))
local macro_rules | `(tactic| walk_at "call ref") => `(tactic| (k_here; (with_reducible show wpAny _ _ (call (Value.ref 174) _) _ _ _); k_dflt ((refine' Spec.use (expect_op_s ?W ?ht ?hk ?hst) ?B ?F ?X ?N ?T ?hk0 ?hs ?hd ?hu ?_; (case B => k_asm); (case F => k_asm); (case X => k_asm); (case N => k_asm); (case T => k_asm); (case hk0 => first | exact rfl | assumption); (case hs => keq_rows); (case W => kpt_turns); (case ht => keq_hits); (case hk => bits_by_make); (case hst => lcg_src); (case hd => ktr_room); (case hu => ktr_units); k_whole; kse_step))))
local macro_rules | `(tactic| walk_at "call ref") => `(tactic| (k_here; (with_reducible show wpAny _ _ (call (Value.ref 188) _) _ _ _); k_dflt ((refine' Spec.use (expect_id_s ?W ?ht ?hst) ?B ?F ?X ?N ?T ?hk0 ?hs ?hd ?hu ?_; (case B => k_asm); (case F => k_asm); (case X => k_asm); (case N => k_asm); (case T => k_asm); (case hk0 => first | exact rfl | assumption); (case hs => keq_rows); (case W => kpt_turns); (case ht => keq_hits); (case hst => lcg_src); (case hd => ktr_room); (case hu => ktr_units); k_whole; kle_both))))
local macro_rules | `(tactic| walk_at "call ref") => `(tactic| (k_here; (with_reducible show wpAny _ _ (call (Value.ref 321) _) _ _ _); k_dflt ((refine' Spec.use (leave_spec ?W) ?B ?F ?X ?N ?T ?hk0 ?hs ?hd ?hu ?_; (case B => k_asm); (case F => k_asm); (case X => k_asm); (case N => k_asm); (case T => k_asm); (case hk0 => first | exact rfl | assumption); (case hs => keq_rows); (case W => kpt_turns); (case hd => ktr_room); (case hu => ktr_units); k_whole; kle_norm))))
local macro_rules | `(tactic| walk_at "call ref") => `(tactic| (k_here; (with_reducible show wpAny _ _ (call (Value.ref 293) _) _ _ _); k_dflt ((refine' Spec.use (is_high_t ?hr ?hv) ?B ?F ?X ?N ?T ?hk0 ?hs ?hd ?hu ?_; (case B => k_asm); (case F => k_asm); (case X => k_asm); (case N => k_asm); (case T => k_asm); (case hk0 => first | exact rfl | assumption); (case hs => keq_rows); (case hr => assumption); (case hv => exact Tree.mon _ _ _ _ _ _ (SubN.of (Sub.trans Sub.cons Sub.cons)) (by assumption)); (case hd => ktr_room); (case hu => ktr_units); k_whole; kle_go))))
local macro_rules | `(tactic| walk_at "exec For Tuple Call cons nil") => `(tactic| (k_here; (with_reducible show wpAny _ _ (exec (Stmt.For (Expr.Tuple _ _ _) (Expr.Call (Expr.Name (PySem.Str.ofString "reversed") _) _ _ _) _ _ _) _) _ _ _); (rename Fr _ _ _ _ => lF'); (with_unfolding_all refine' For_turns lF' ?_; k_whole)))
local macro_rules | `(tactic| walk_at "pyIter ref") => `(tactic| (k_here; (with_reducible show wpAny _ _ (pyIter (Value.ref _)) (fun it s₂ => TurnsAt _ _ _ _ _ _ _ _ _ it s₂) _ _); k_dflt (first
  | (refine' rev_turns0 ?hh ?F ?N ?hm ?hI ?_; (case hh => exact rfl); (case F => k_asm); (case N => k_asm); (case hm => k_mem); (case hI => exact ktn_ltOf (by ktn_lt)); k_whole; intro h' tk' F' N'; (try k_sweep); (try dsimp only))
  | (refine' rev_turns1 ?hh ?F ?N ?hm ?hI ?_; (case hh => exact rfl); (case F => k_asm); (case N => k_asm); (case hm => k_mem); (case hI => exact ktn_ltOf (by ktn_lt)); k_whole; intro it' h' tk' hc' F' N'; (try k_sweep); (try dsimp only)))))
local macro_rules | `(tactic| walk_at "exec While BoolOp cons nil") => `(tactic| (k_here; k_dflt (refine whl_start 100 ?_)))
local macro_rules | `(tactic| walk_at "exec While BoolOp") => `(tactic| (k_here; k_dflt (refine whl_start 100 ?_)))
local macro_rules | `(tactic| walk_at "exec While Call cons nil") => `(tactic| (k_here; k_dflt (refine whl_start 100 ?_)))
local macro_rules | `(tactic| walk_at "exec While Call") => `(tactic| (k_here; k_dflt (refine whl_start 100 ?_)))
local macro_rules | `(tactic| walk_at "exec While") => `(tactic| (k_here; k_dflt (refine whl_start 100 ?_)))
set_option hygiene false in
local macro_rules | `(tactic| tb_start) => `(tactic| (
  unfold SpecE
  k_fill
  intro p loose mean mg mb dp un gd cn cs a ccd cl outer A₀ base h₀ L m s Q E B F X N T hk hd hu hret herr
  refine wpAny_call ?_
  k_dflt kpc_turns
  k_steps))
local macro_rules | `(tactic| walk_at "leaving ref") => `(tactic| (k_here; (refine' leave_thrown ?k1 ?k2 ?k3 ?k4 ?_; (case k3 => assumption); (case k1 => assumption); (case k4 => assumption); (case k2 => assumption); k_whole; intro h' R' U'; (try dsimp only at R' U' ⊢))))
variable {w : World} {P dP R dR TL AH : Addr} {toks : List Value} {ks rs : Nat → Tok} {wi : Bool} {i j k : Nat} {l l2 : List Str} {dep : Int} {bad : Option Int} {V : Led → Value → Prop}
local macro_rules | `(tactic| walk_at "call ref") => `(tactic| (k_here; (with_reducible show wpAny _ _ (call (Value.ref 335) _) _ _ _); k_dflt (refine' Op.use ?op ?W ?ht ?hst ?B ?F ?X ?N ?T ?hk0 ?hs ?hd ?hu (fun r9 tok9 ta9 td9 tp9 R9 h9 tk9 hb9 hv9 hs9 W9 ht9 hst9 F9 N9 => ?_) (fun e9 a9 h9 tk9 g9 hb9 Fg9 U9 Th9 => ?_); (case N => k_asm); (case hs => keq_rows); (case op => assumption); (case B => k_asm); (case F => k_asm); (case X => k_asm); (case T => k_asm); (case hk0 => first | exact rfl | assumption); (case W => kpt_turns); (case ht => keq_hits); (case hst => lcg_src); (case hd => ktr_room); (case hu => ktr_units); (all_goals (try (have W9' := W9; obtain ⟨hP9, hR9, ⟨nT9, hT9⟩, ⟨nA9, hA9⟩, hne9, oP9, oR9, sz9⟩ := W9'; have hk9 := ht9; (try simp only [hdK, hdV, hdA, kindOf_a, kq_q, kq_c, kq_r, kq_l] at hk9); obtain ⟨dT9, ts9, tk9, tv9, ta9, m9, m9'⟩ := hk9))); (all_goals (try k_sweep)); (all_goals (try dsimp only)); (all_goals (try k_fold)))))
theorem expr_top {b : Bool} {r : Nat} (hr : r ≤ 11) (hp : Op w P dP R dR TL AH toks ks rs true 335 [.ref P] k i l dep bad j l2 (Tree b r i)) (hk14 : 12 ≤ k) : Op w P dP R dR TL AH toks ks rs false 328 [.ref P] (k + 4) i l dep bad j l2 (Tree b r i) := by
  intro rest tok ta td tp W ht hst
  have W0 := W
  obtain ⟨hP, hR, ⟨nT, hT⟩, ⟨nA, hA⟩, hne, oP, oR, sz⟩ := W
  tb_start
  · rename News h₀ _ _ _ => NN
    exact hret _ _ _ _ (by assumption) (by k_asm) NN ⟨_, _, _, _, _, by assumption, by lcg_off, rfl, by assumption, by assumption, by assumption⟩
  · exact herr _ _ _ _ _ (by assumption) (by assumption) (by assumption) (by first | assumption | exact Thrown.sub Sub.cons (by assumption))
theorem expr_law {b : Bool} {r : Nat} (hr : r ≤ 11) : Op w P dP R dR TL AH toks ks rs false 328 [.ref P] 356 0 (Ew b r []) dep (Err b r 0 dep) (0 + En b r) [] (Tree b r 0) :=
  (expr_top hr (inner_all b r 0 [] dep (.inl rfl) (by refine decide_eq_false ?_; simp only [hdK, hdV]; decide)) (by omega)).lift (by omega) rfl rfl fun _ _ _ h => h
end
end
end
end
section
abbrev S (x : String) : Str := Str.ofString x
/-- texts, whatever their tokens -/
def txt : Value → Option Str
  | .str s _ => some s
  | _ => none
def SA (vs : List Value) (ss : List Str) : Prop := vs.map txt = ss.map some
theorem SA.append {a b : List Value} {c d : List Str} (h : SA a c) (h' : SA b d) : SA (a ++ b) (c ++ d) := by
  unfold SA at *
  rw [List.map_append, List.map_append, h, h']
theorem SA.length {a : List Value} {c : List Str} (h : SA a c) : a.length = c.length := by
  have := congrArg List.length h
  simpa using this
theorem SA.get {a : List Value} {c : List Str} (h : SA a c) {i : Nat} {s : Str} (hs : c[i]? = some s) : ∃ t, a[i]? = some (.str s t) := by
  have h1 := congrArg (fun l => l[i]?) h
  simp only [List.getElem?_map, hs, Option.map_some] at h1
  cases hv : a[i]? with
  | none => rw [hv] at h1; cases h1
  | some v =>
    rw [hv] at h1
    simp only [Option.map_some, Option.some.injEq] at h1
    cases v <;> simp only [txt] at h1 <;> first | (cases h1; exact ⟨_, rfl⟩) | cases h1
noncomputable def rep (c : List Str) : Nat → List Str
  | 0 => []
  | n + 1 => rep c n ++ c
theorem rep_len (c : List Str) : ∀ n, (rep c n).length = n * c.length
  | 0 => by simp [rep]
  | n + 1 => by rw [rep, List.length_append, rep_len c n, Nat.succ_mul]
theorem rep_front (c : List Str) : ∀ n, rep c (n + 1) = c ++ rep c n
  | 0 => by simp [rep]
  | n + 1 => by
    show rep c (n + 1) ++ c = c ++ (rep c n ++ c)
    rw [rep_front c n, List.append_assoc]
def c1 (b : Bool) : List Str := match b with | true => [S "?", S "(", S "a"] | false => [S "?", S "a"]
def c2 (b : Bool) : List Str := match b with | true => [S ")", S ":", S "a"] | false => [S ":", S "a"]
theorem Ew_eq (b : Bool) : ∀ n t, Ew b n t = S "a" :: (rep (c1 b) n ++ (rep (c2 b) n ++ t))
  | 0, t => rfl
  | n + 1, t => by
    cases b with
    | true =>
      show _ :: _ :: _ :: Ew true n _ = _
      rw [Ew_eq true n, rep_front (c1 true) n, rep]
      simp [c1, c2, S]
    | false =>
      show _ :: _ :: Ew false n _ = _
      rw [Ew_eq false n, rep_front (c1 false) n, rep]
      simp [c1, c2, S]
/-- the words after i turns of the first loop, of the second -/
noncomputable def wd1 (b : Bool) (i : Nat) : List Str := S "a" :: rep (c1 b) i
noncomputable def wd2 (b : Bool) (n i : Nat) : List Str := wd1 b n ++ rep (c2 b) i
theorem wd2_eq (b : Bool) (n : Nat) : wd2 b n n = Ew b n [] := by
  rw [Ew_eq, List.append_nil]; rfl
theorem wd1_len (b : Bool) (i : Nat) : (wd1 b i).length ≤ 1 + 3 * i := by
  unfold wd1
  rw [List.length_cons, rep_len]
  cases b <;> simp [c1] <;> omega
theorem wd2_len (b : Bool) (n i : Nat) : (wd2 b n i).length ≤ 1 + 3 * n + 3 * i := by
  unfold wd2
  rw [List.length_append, rep_len]
  have := wd1_len b n
  cases b <;> simp [c2] <;> omega
theorem wd1_succ (b : Bool) (i : Nat) : wd1 b (i + 1) = wd1 b i ++ c1 b := rfl
theorem wd2_succ (b : Bool) (n i : Nat) : wd2 b n (i + 1) = wd2 b n i ++ c2 b := by
  unfold wd2
  rw [rep, List.append_assoc]
def ts3 (a b c : Tok) : Nat → Tok
  | 0 => a
  | 1 => b
  | _ => c
theorem Tk.of3 {w : World} {R : Led} {t d : Addr} {k v : Str} {a : Int} {a0 a1 a2 tk tv ta : Tok} (h1 : (t, instObj 71 d) ∈ R) (h2 : (d, TD w (ts3 a0 a1 a2) k tk v tv a ta) ∈ R) : Tk w R t k v a := ⟨d, _, _, _, _, h1, h2⟩
/-- the tokens made so far -/
def JT (w : World) (ss : List Str) (wl : Addr) (lo : Obj) (i : Nat) (ys : List Value) (news : Led) : Prop :=
  (wl, lo) ∈ news ∧ ys.length = i ∧ ∀ j v, j < i → ss[j]? = some v → ∃ t, ys[j]? = some (.ref t) ∧ Tk w news t (kindOf v) v ((j : Nat) : Int)
theorem JT.step {w : World} {ss : List Str} {wl : Addr} {lo : Obj} {i : Nat} {ys : List Value} {news news₂ : Led} {t : Addr} {v : Str} (h : JT w ss wl lo i ys news) (s : Sub news news₂) (hv : ss[i]? = some v) (ht : Tk w news₂ t (kindOf v) v (i : Int)) :
    JT w ss wl lo (i + 1) (ys ++ [.ref t]) news₂ := by
  obtain ⟨h1, h2, h3⟩ := h
  refine ⟨s _ h1, by rw [List.length_append, List.length_singleton, h2], fun j u hj hu => ?_⟩
  by_cases e : j = i
  · subst e
    rw [hv] at hu
    cases hu
    exact ⟨t, by rw [List.getElem?_append_right (by omega), h2, Nat.sub_self]; rfl, ht⟩
  · obtain ⟨x, hx, hx'⟩ := h3 j u (by omega) hu
    exact ⟨x, by rw [List.getElem?_append_left (by omega)]; exact hx, hx'.sub s⟩
theorem SA.at_ {a : List Value} {c : List Str} (h : SA a c) {i : Nat} {x : Value} (hx : a.toArray[i]? = some x) : ∃ s t, c[i]? = some s ∧ x = .str s t := by
  have hx' : a[i]? = some x := by simpa using hx
  have h1 := congrArg (fun l => l[i]?) h
  simp only [List.getElem?_map, hx', Option.map_some] at h1
  cases hc : c[i]? with
  | none => rw [hc] at h1; cases h1
  | some s =>
    rw [hc] at h1
    simp only [Option.map_some, Option.some.injEq] at h1
    cases x <;> simp only [txt] at h1 <;> first | (cases h1; exact ⟨_, _, rfl, rfl⟩) | cases h1
def fr4 (wl : Addr) (n : Nat) (tm : Tok) (b : Bool) (B : Int) (tb : Tok) (u : Str → Option Value) : Str → Option Value := fun q =>
  if q = Str.ofString "words" then some (.ref wl) else if q = Str.ofString "many" then some (.int (n : Int) tm) else if q = Str.ofString "bracket" then some (.bool b) else if q = Str.ofString "begun" then some (.int B tb) else u q
def JW (b : Bool) (n : Nat) (B : Int) (c : Nat → List Str) (i : Nat) (m : Str → Option Value) (news : Led) : Prop :=
  ∃ (wl : Addr) (k : Nat) (vs : List Value) (u : Str → Option Value) (tm tb : Tok), SA vs (c i) ∧ m = fr4 wl n tm b B tb u ∧ news = [(wl, listOf vs.toArray k)]
theorem clean4 {m : Str → Option Value} {wl : Addr} {n : Nat} {tm tb : Tok} {b : Bool} {B : Int} (h1 : m (Str.ofString "words") = some (.ref wl)) (h2 : m (Str.ofString "many") = some (.int (n : Int) tm)) (h3 : m (Str.ofString "bracket") = some (.bool b)) (h4 : m (Str.ofString "begun") = some (.int B tb)) :
    m = fr4 wl n tm b B tb m := by
  funext q
  unfold fr4
  split
  · next h => rw [h, h1]
  split
  · next h => rw [h, h2]
  split
  · next h => rw [h, h3]
  split
  · next h => rw [h, h4]
  rfl
theorem sm_small {n : Nat} (h : n ≤ 100) : Builtin.Range.small 0 (n : Int) 1 = true :=
  small_one (by decide) (by decide) (by omega) (by omega)
theorem pack {h₀ h : Heap} {L : Addr} {m : Str → Option Value} {x y z : Int} {tm tb t u v : Tok} {wl r : Addr} (F : Fr h₀ L h m) (h3 : m (Str.ofString "bracket") = some (.bool (y.fmod 2 == 1))) (h2 : m (Str.ofString "many") = some (.int (x.fmod 12) tm)) (h4 : m (Str.ofString "begun") = some (.int (60 - z.fmod 30) tb)) (h1 : m (Str.ofString "words") = some (.ref wl))
    (hr : IsRange h r 0 (x.fmod 12) 1 t u v) : ∃ (n : Nat) (b : Bool) (B : Int), n ≤ 11 ∧ 31 ≤ B ∧ B ≤ 60 ∧ IsRange h r 0 (n : Int) 1 t u v ∧ Fr h₀ L h (fr4 wl n tm b B tb m) ∧ (x.fmod 12 = n ∧ (y.fmod 2 == 1) = b ∧ 60 - z.fmod 30 = B) := by
  have e1 := Int.fmod_nonneg_of_pos x (b := 12) (by omega)
  have e2 := Int.fmod_lt_of_pos x (b := 12) (by omega)
  have e3 := Int.fmod_nonneg_of_pos z (b := 30) (by omega)
  have e4 := Int.fmod_lt_of_pos z (b := 30) (by omega)
  obtain ⟨n, hn⟩ := Int.eq_ofNat_of_zero_le e1
  refine ⟨n, _, _, by omega, by omega, by omega, hn ▸ hr, ?_, hn, rfl, rfl⟩
  rw [← clean4 h1 (hn ▸ h2) h3 h4]
  exact F
end
section
section
variable {prog : Program} {w : World} {A : Around} {E : Value → Shared → Prop} {s : Shared}
theorem seq_list_iadd : seqSlot? (.type "list") (dunderI "add") = pure (some (.builtin "list.__iadd__")) := PySem.seqSlot_of F.slot_list_iadd.lookup (by decide +kernel)
theorem iadd_list {l b : Addr} {items items2 : Array Value} {n n2 : Nat} {Q : Value → Shared → Prop} (hl : s.heap.get? l = some (listOf items n)) (hb : s.heap.get? b = some (listOf items2 n2)) (hs1 : items.size + items2.size ≤ 1000)
    (h : Q (.ref l) { s with heap := s.heap.update l (Obj.mapSeq fun x => x ++ items2) }) : wpAny (model prog w) A (inplaceOp .Add (.ref l) (.ref b)) Q E s := by
  have ha : s.TypeIs (.ref l) "list" := ⟨_, hl, rfl⟩
  have hb' : s.TypeIs (.ref b) "list" := ⟨_, hb, rfl⟩
  have f1 : 1000 ≤ sizeLine := by size_fits
  unfold inplaceOp
  refine wpAny_holding ?_
  have hfi : fillsInplaceSlot (.type "list") "add" (Operator.Add == .Add) = pure false := by
    unfold fillsInplaceSlot
    show (typeLookup (.type "list") (dunderI "add") >>= fun fi => pure (fi.isSome && !isSeqSlot fi)) = pure false
    rw [F.slot_list_iadd.lookup]
    simp only [pure_bind, Option.isSome_some, Bool.true_and]
    rw [show isSeqSlot (some (.builtin "list.__iadd__")) = true by decide +kernel]
    rfl
  refine wpAny_bind (wpAny_typeOf ha (wpAny_bind (wpAny_of_eq hfi ?_)))
  show wpAny _ A (if false = true then _ else _) Q E s
  rw [if_neg Bool.false_ne_true]
  refine wpAny_bind (wpAny_binaryOp1_none (nm := "add") ha hb' noFill_list_add ?_)
  refine wpAny_bind (wpAny_of_eq seq_list_iadd ?_)
  refine wpAny_bind (wpAny_rule ?_)
  have hdoor : ¬(!items.isEmpty && Builtin.List.listTooLong (items.size + items2.size)) = true := by
    unfold Builtin.List.listTooLong
    simp only [Bool.and_eq_true, decide_eq_true_eq, not_and, Nat.not_lt, gt_iff_lt]
    intro _
    omega
  refine call_meets F.slot_list_iadd ha F.entry_list_iadd (F.args_list_iadd_2 _ _) (AutoSeq1.list___iadd___list_list_0 l items n b items2 n2 hdoor (by omega) (by omega)) ⟨hl, hb, h⟩
theorem iadd_K {h₀ : Heap} {L l b : Addr} {m : Str → Option Value} {news : Led} {news' : Nat → Led} {vs us : List Value} {n n2 : Nat} {Q : Value → Shared → Prop} (F : Fr h₀ L s.heap m) (N : News h₀ L s.heap news)
    (hb : (b, listOf us.toArray n2) ∈ news) (U : ∀ k, Upd l (listOf vs.toArray n) (listOf (vs ++ us).toArray k) news (news' k)) (hs1 : vs.length + us.length ≤ 1000)
    (h : ∀ h' k, Fr h₀ L h' m → News h₀ L h' (news' k) → Q (.ref l) { s with heap := h' }) : wpAny (model prog w) A (inplaceOp .Add (.ref l) (.ref b)) Q E s := by
  obtain ⟨pre, post, e1, e2, a, b'⟩ := (U 0).split
  have zl : s.heap.get? l = some (listOf vs.toArray n) ∧ l ≠ L ∧ h₀.get? l = none := N (l, listOf vs.toArray n) (by rw [e1]; exact List.mem_append.mpr (.inr (.head _)))
  refine iadd_list zl.1 (N _ hb).1 (by simpa using hs1) ?_
  obtain ⟨k, hk⟩ : ∃ k, Obj.mapSeq (fun x => x ++ us.toArray) (listOf vs.toArray n) = listOf (vs ++ us).toArray k := by
    refine ⟨if (vs.toArray ++ us.toArray).size == vs.toArray.size then n else n + 1, ?_⟩
    show ({ cls := .type "list", data := .seq (vs.toArray ++ us.toArray) (if (vs.toArray ++ us.toArray).size == vs.toArray.size then n else n + 1) } : Obj) = { cls := .type "list", data := .seq (vs ++ us).toArray (if (vs.toArray ++ us.toArray).size == vs.toArray.size then n else n + 1) }
    rw [List.append_toArray]
  obtain ⟨pre, post, e1, e2, a, b'⟩ := (U k).split
  have hs : Heap.SameBut l s.heap (s.heap.update l (Obj.mapSeq fun x => x ++ us.toArray)) := Heap.SameBut.update ..
  have hg : (s.heap.update l (Obj.mapSeq fun x => x ++ us.toArray)).get? l = some (listOf (vs ++ us).toArray k) := by
    rw [Heap.get?_update_self _ zl.1 (by rw [hk]; rfl), hk]
  refine h _ k (F.change hs zl.2.1 zl.2.2) ?_
  rw [e2]
  exact news_set (e1 ▸ N) a b' hs hg
end
end
section
section
variable {prog : Program} {w : World} {A : Around} {E : Value → Shared → Prop} {s : Shared} {env : Env} {h₀ : Heap} {m : Str → Option Value} {news : Led}
/-- what an assigned comprehension owes at its end -/
def RRA (prog : Program) (w : World) (A : Around) (E : Value → Shared → Prop) (lv : Str) (pl : Pos) (env : Env) (Q : Flow → Shared → Prop) (acc : Value) (cenv : Env) (r : Result) (s' : Shared) : Prop :=
  match r with
  | .ok _ => wpAny (model prog w) A (assign (.Name lv pl) env acc) (fun _ s'' => ∃ m, s''.heap.Ns cenv.locals m ∧ ∀ h', Heap.SameBut cenv.locals s''.heap h' → Q .next { s'' with heap := h' }) E s'
  | .error x => ∃ m, s'.heap.Ns cenv.locals m ∧ ∀ h', Heap.SameBut cenv.locals s'.heap h' → wpAny (model prog w) A (passOn "comprehension.variables-let-go" x cenv : Sem Value) (fun _ s' => Q .next s') E { s' with heap := h' }
theorem assign_start {elt i0 t0 : Expr} {lv : Str} {pl : Pos} {scope : Scope} {pos spos : Pos} {Q : Flow → Shared → Prop}
    (hsw : swapsWith (.ListComp elt [⟨t0, i0, [], 0⟩] scope pos) (some (.Name lv pl)) spos.line env = pure true)
    (hfree : ∀ x ∈ scope.names, x.2 ≠ .free) (hkind : scope.kind = .function) (hnames : ∀ x ∈ scope.names, x.2 = .local → scope.names.lookup x.1 = some .local)
    (hs0 : ∀ v, foldedSetIterable i0 env v = pure v)
    (h : wpAny (model prog w) A (eval i0 env) (fun xv s₁ => wpAny (model prog w) A (pyIter xv) (fun it s₂ => wpAny (model prog w) A (newList []) (fun acc s₃ =>
      wpAny (model prog w) A (newFunctionEnv scope env.globals [] [] env.qual none .none (some env)) (fun cenv s₄ =>
        codeAny (model prog w) A (.compStart (.ListComp elt [⟨t0, i0, [], 0⟩] scope pos) 0 it acc { cenv with scope := scope }) (RRA prog w A E lv pl env Q acc { cenv with scope := scope }) s₄) E s₃) E s₂) E s₁) E s) :
    wpAny (model prog w) A (exec (.Assign [.Name lv pl] (.ListComp elt [⟨t0, i0, [], 0⟩] scope pos) spos) env) Q E s := by
  rw [exec_Assign_Name_used _ _ _ _ hsw]
  refine wpAny_bind (wpAny_standAt (wpAny_bind ?_))
  show wpAny _ A (do let _ ← comprehension (.ListComp elt [⟨t0, i0, [], 0⟩] scope pos) scope env _ (newList []) false (eval i0 env) (some (assign (.Name lv pl) env))) _ _ s
  exact wpAny_bind (wpAny_mono (wpAny_comprehension_use (Q := fun _ s' => Q .next s') rfl hs0 hfree hkind hnames h)
    (fun _ s' hq => wpAny_pure (wpAny_pure hq)) fun _ _ e => e)
/-- how an element's work ends -/
def EnEnd (h₀ : Heap) (L : Addr) (m : Str → Option Value) (s : Shared) (C : Addr) (oC : Obj) (e : Addr) (oe : Obj) (it : Addr) (oi : Obj) (D : Addr) (ys : List Value) (news₁ : Led) (Jn : List Value → Led → Prop) (y : Value) (s₄ : Shared) : Prop :=
  ∃ h' tk' news₂, s₄ = { s with heap := h', toks := tk' } ∧ Fr h₀ L h' m ∧ News h₀ L h' ((C, oC) :: (e, oe) :: (it, oi) :: (D, LCg.lst ys) :: news₂) ∧
    (∀ p ∈ news₂, p ∈ news₁ ∨ (p.1 ≠ C ∧ p.1 ≠ e ∧ p.1 ≠ it ∧ p.1 ≠ D)) ∧ Jn (ys ++ [y]) news₂
theorem EnEnd.mk {h' : Heap} {tk' : Nat} {L C e it D x d : Addr} {oC oe oi o1 o2 : Obj} {ys : List Value} {y : Value} {news₁ : Led} {Jn : List Value → Led → Prop} (F : Fr h₀ L h' m) (N : News h₀ L h' ((x, o1) :: (d, o2) :: (C, oC) :: (e, oe) :: (it, oi) :: (D, LCg.lst ys) :: news₁))
    (l1 : @LT.lt Nat _ C d ∧ @LT.lt Nat _ e d ∧ @LT.lt Nat _ it d ∧ @LT.lt Nat _ D d ∧ AllLt d news₁) (l2 : @LT.lt Nat _ d x) (hJ : Jn (ys ++ [y]) ((x, o1) :: (d, o2) :: news₁)) :
    EnEnd h₀ L m s C oC e oe it oi D ys news₁ Jn y { s with heap := h', toks := tk' } := by
  refine ⟨h', tk', _, rfl, F, News.of N (fun q hq => ?_), fun p hp => ?_, hJ⟩
  · simp only [List.mem_cons] at hq ⊢
    rcases hq with h | h | h | h | h | h | h <;> simp [h]
  · rcases List.mem_cons.mp hp with rfl | hp
    · exact .inr ⟨Nat.ne_of_gt (Nat.lt_trans l1.1 l2), Nat.ne_of_gt (Nat.lt_trans l1.2.1 l2), Nat.ne_of_gt (Nat.lt_trans l1.2.2.1 l2), Nat.ne_of_gt (Nat.lt_trans l1.2.2.2.1 l2)⟩
    rcases List.mem_cons.mp hp with rfl | hp
    · exact .inr ⟨Nat.ne_of_gt l1.1, Nat.ne_of_gt l1.2.1, Nat.ne_of_gt l1.2.2.1, Nat.ne_of_gt l1.2.2.2.1⟩
    · exact .inl hp
/-- the state as an element of the i-th pair is worked out -/
theorem enum_block {elt i0 : Expr} {a b : Str} {pa pb tp : Pos} {kk : Nat} {scope : Scope} {pos : Pos} {l : Addr} {items : Array Value} {n0 : Nat} {RR : Value → Env → Result → Shared → Prop} (J : Nat → List Value → Led → Prop)
    (hh : A.handled = none) (F : Fr h₀ env.locals s.heap m) (N : News h₀ env.locals s.heap news) (h0 : J 0 [] news) (hJl : ∀ i ys n, J i ys n → (l, listOf items n0) ∈ n)
    (hsz : items.size ≤ 1000) (hcell : ∀ x ∈ scope.names, x.2 ≠ .cell) (hkind : scope.kind = .function)
    (ha : scope.names.lookup a = some .local) (hb : scope.names.lookup b = some .local) (hab : a ≠ b)
    (turn : ∀ i x ys news₁ h tk C oC mC e oe it oi D t E', items[i]? = some x → J i ys news₁ → LCg.NsObj oC mC → mC a = some (.int (i : Int) t) → mC b = some x → Fr h₀ env.locals h m →
      News h₀ env.locals h ((C, oC) :: (e, oe) :: (it, oi) :: (D, LCg.lst ys) :: news₁) → (∀ p ∈ (e, oe) :: (it, oi) :: (D, LCg.lst ys) :: news₁, p.1 ≠ C) →
      wpAny (model prog w) A (eval elt (cEnv scope C env)) (EnEnd h₀ env.locals m s C oC e oe it oi D ys news₁ (J (i + 1))) E' { s with heap := h, toks := tk })
    (hRR : ∀ D C h tk mC ys news', h.Ns C mC → Fr h₀ env.locals h m → News h₀ env.locals h ((D, LCg.lst ys) :: news') → J items.size ys news' → (∀ p ∈ (D, LCg.lst ys) :: news', p.1 ≠ C) → C ≠ env.locals → h₀.get? C = none → RR (.ref D) (cEnv scope C env) (.ok .next) { s with heap := h, toks := tk }) :
    wpAny (model prog w) A (call (.type "enumerate") [.ref l]) (fun xv s₁ => wpAny (model prog w) A (pyIter xv) (fun it s₂ => wpAny (model prog w) A (newList []) (fun acc s₃ =>
      wpAny (model prog w) A (newFunctionEnv scope env.globals [] [] env.qual none .none (some env)) (fun cenv s₄ =>
        codeAny (model prog w) A (.compStart (.ListComp elt [⟨.Tuple [.Name a pa, .Name b pb] kk tp, i0, [], 0⟩] scope pos) 0 it acc { cenv with scope := scope }) (RR acc { cenv with scope := scope }) s₄) E s₃) E s₂) E s₁) E s := by
  have zl := N _ (hJl _ _ _ h0)
  have hl : s.heap.IsList l items := ⟨_, zl.1, rfl, _, rfl⟩
  have lt : ∀ b o, s.heap.get? b = some o → b < s.heap.objs.size := fun b o e => Heap.lt_size e
  have hlt : l < s.heap.objs.size := lt _ _ zl.1
  refine call_enumerate_list hl fun h1 hE hI hz hk => ?_
  refine wpAny_pyIter_enum hE ?_
  have W := (WalksT.enumerate (prog := prog) (w := w) hh (s.heap.objs.size + 1) s.heap.objs.size l (Nat.succ_ne_self _) (ktu_ne 1 hlt) (Nat.ne_of_lt hlt) items).toU
  refine wpAny_newObj_type (wpAny_newFunctionEnv hcell (by intro y hy; simp at hy) (fun h₁ hns₁ hsb₁ => ?_) hkind)
  dsimp only at hns₁ hsb₁ ⊢
  generalize hH2 : h1.push { cls := .type "list", dict := none, data := .seq ([] : List Value).toArray } = H2 at hns₁ hsb₁ ⊢
  have sz2 : H2.objs.size = s.heap.objs.size + 3 := by rw [← hH2, Heap.size_push, hz]
  have ex2 : ∀ b o, h1.get? b = some o → H2.get? b = some o := fun b o e => by rw [← hH2]; exact Heap.get?_push_of_some _ e
  have gD : H2.get? (s.heap.objs.size + 2) = some (LCg.lst []) := by rw [← hH2, ← hz]; exact Heap.get?_push_size _ rfl
  have old : ∀ b o, b < s.heap.objs.size + 3 → H2.get? b = some o → h₁.get? b = some o := fun b o hb e => hsb₁.extBut b o (by rw [sz2]; exact Nat.ne_of_lt hb) (Heap.get?_push_of_some _ e)
  have up : ∀ b o, s.heap.get? b = some o → h₁.get? b = some o := fun b o e => old b o (Nat.lt_of_lt_of_le (lt b o e) (Nat.le_add_right _ 3)) (ex2 _ _ (hk _ _ e))
  have fresh₀ : ∀ a, s.heap.objs.size ≤ a → h₀.get? a = none := fun a ha => by
    cases e : h₀.get? a with
    | none => rfl
    | some o' => exact absurd (lt _ _ (F.keep a o' e)) (Nat.not_lt.mpr ha)
  have hLlt : env.locals < s.heap.objs.size := F.ns.lt
  have nL : ∀ k, env.locals ≠ s.heap.objs.size + k := fun k => Nat.ne_of_lt (Nat.lt_of_lt_of_le hLlt (Nat.le_add_right _ k))
  generalize hC : H2.objs.size = C at *
  have dif : ∀ b o, s.heap.get? b = some o → b ≠ C ∧ b ≠ s.heap.objs.size ∧ b ≠ s.heap.objs.size + 1 ∧ b ≠ s.heap.objs.size + 2 := fun b o e => by
    have := lt b o e
    rw [sz2]
    exact ⟨Nat.ne_of_lt (Nat.lt_of_lt_of_le this (Nat.le_add_right _ 3)), Nat.ne_of_lt this, Nat.ne_of_lt (Nat.lt_of_lt_of_le this (Nat.le_add_right _ 1)), Nat.ne_of_lt (Nat.lt_of_lt_of_le this (Nat.le_add_right _ 2))⟩
  have hCf : h₀.get? C = none := fresh₀ _ (by rw [sz2]; exact Nat.le_add_right _ 3)
  have hCl : C ≠ env.locals := by rw [sz2]; exact Ne.symm (nL 3)
  have St0 : (∃ old, IsEnum h₁ (s.heap.objs.size + 1) s.heap.objs.size ((0 : Nat) : Int) old) ∧ h₁.IsListIter s.heap.objs.size l 0 ∧ h₁.IsList l items := by
    refine ⟨⟨_, old _ _ (Nat.lt_succ_of_lt (Nat.lt_succ_self _)) (ex2 _ _ hE)⟩, ?_, ⟨_, up _ _ zl.1, rfl, _, rfl⟩⟩
    obtain ⟨o, e, r⟩ := hI
    exact ⟨o, old _ _ (Nat.lt_of_lt_of_le (Nat.lt_succ_self _) (Nat.le_add_right _ 2)) (ex2 _ _ e), r⟩
  have lp : ∀ s₃ : Shared, (∃ tk, s₃ = { s with heap := h₁, toks := tk }) → codeAny (model prog w) A (.compLoop (.ListComp elt [⟨.Tuple [.Name a pa, .Name b pb] kk tp, i0, [], 0⟩] scope pos) 0 (.ref (s.heap.objs.size + 1)) (.ref h1.objs.size) (cEnv scope C env))
      (RR (.ref h1.objs.size) (cEnv scope C env)) s₃ := by
    rintro s₃ ⟨tk, rfl⟩
    rw [hz]
    have hx : (cEnv scope C env).kindOf a = some .local := ha
    have hy : (cEnv scope C env).kindOf b = some .local := hb
    have hp : ((cEnv scope C env).scope.kind == .class || ((cEnv scope C env).scope.kind == .module && (cEnv scope C env).locals != (cEnv scope C env).globals)) = false := by simp [cEnv, hkind]
    have neC : ∀ k, k < 3 → s.heap.objs.size + k ≠ C := fun k hk => by rw [sz2]; exact Nat.ne_of_lt (Nat.add_lt_add_left hk _)
    refine codeAny_loop rfl
      (fun k s' => ∃ h' tk i ys mC news', s' = { s with heap := h', toks := tk } ∧ i ≤ items.size ∧ k = items.size + 1 - i ∧ ys.length = i ∧
        ((∃ old, IsEnum h' (s.heap.objs.size + 1) s.heap.objs.size ((i : Nat) : Int) old) ∧ h'.IsListIter s.heap.objs.size l i ∧ h'.IsList l items) ∧
        Fr h₀ env.locals h' m ∧ h'.Ns C mC ∧ News h₀ env.locals h' ((s.heap.objs.size + 2, LCg.lst ys) :: news') ∧ (∀ p ∈ news', p.1 ≠ C ∧ p.1 ≠ s.heap.objs.size + 1 ∧ p.1 ≠ s.heap.objs.size ∧ p.1 ≠ s.heap.objs.size + 2) ∧ J i ys news') ?_ (items.size + 1)
      ⟨h₁, tk, 0, [], _, news, rfl, Nat.zero_le _, rfl, rfl, St0, ⟨F.ns.at' fun o e => up _ _ e, fun b o e => up b o (F.keep b o e), F.above⟩, hns₁, ?_, ?_, h0⟩
    · rintro k s' ⟨H, tk, i, ys, mC, news', rfl, hi, rfl, hyl, hst, F', hn', N', hoff, hJ⟩
      show wpAny _ A ((compTurn (.ListComp elt [⟨.Tuple [.Name a pa, .Name b pb] kk tp, i0, [], 0⟩] scope pos) 0 (.ref (s.heap.objs.size + 1)) (.ref (s.heap.objs.size + 2)) (cEnv scope C env)).onRaise (fun x => do noteFrame x (cEnv scope C env); theTreesLotGoes x)) _ _ _
      refine wpAny_noted ?_
      rw [compTurn_list1]
      refine wpAny_bind (wpAny_standAt (wpAny_bind ?_))
      by_cases hlt' : i < items.size
      · refine W.item i _ _ _ hlt' hst fun T vals h₂ tk₂ hPt hT hMid hk₂ => ?_
        obtain ⟨t, x, hxi, rfl⟩ := hPt
        refine wpAny_bind (W.go _ _ _ i T _ _ _ hMid fun h₃ hst₃ hk₃ => ?_)
        have hT₃ := hT.at fun o e => hk₃ T o (W.apart i T _ hMid) e
        have nCw : C ∉ [s.heap.objs.size + 1, s.heap.objs.size] := by simp only [List.mem_cons, List.not_mem_nil, or_false, not_or]; exact ⟨Ne.symm (neC 1 (by omega)), Ne.symm (neC 0 (by omega))⟩
        have up₃ : ∀ b o, b ≠ s.heap.objs.size + 1 → b ≠ s.heap.objs.size → H.get? b = some o → h₃.get? b = some o := fun b o b1 b2 e =>
          hk₃ b o (by simp only [List.mem_cons, List.not_mem_nil, or_false, not_or]; exact ⟨b1, b2⟩) (hk₂ b o (by simp only [List.mem_cons, List.not_mem_nil, or_false, not_or]; exact ⟨b1, b2⟩) e)
        have hnC : h₃.Ns C mC := hn'.at' fun o e => up₃ _ o (Ne.symm (neC 1 (by omega))) (Ne.symm (neC 0 (by omega))) e
        refine wpAny_bind (kcp_assign hh hT₃ hx hy hp hnC fun h₄ tk₄ hn₄ hk₄ => ?_)
        obtain ⟨⟨oldv, he₃⟩, hit₃, hl₃⟩ := id hst₃
        obtain ⟨oe, hoe⟩ : ∃ oe, h₃.get? (s.heap.objs.size + 1) = some oe := ⟨_, he₃⟩
        obtain ⟨oi, hoi, _⟩ := id hit₃
        obtain ⟨oC, heC, hoC⟩ := LCg.ns_obj hn₄
        have up₄ : ∀ b o, b ≠ C → b ≠ s.heap.objs.size + 1 → b ≠ s.heap.objs.size → H.get? b = some o → h₄.get? b = some o := fun b o b0 b1 b2 e => hk₄ b o b0 (up₃ b o b1 b2 e)
        have n0 : ∀ b o, h₀.get? b = some o → b ≠ C ∧ b ≠ s.heap.objs.size + 1 ∧ b ≠ s.heap.objs.size := fun b o e => ⟨(dif _ _ (F.keep b o e)).1, (dif _ _ (F.keep b o e)).2.2.1, (dif _ _ (F.keep b o e)).2.1⟩
        have F₄ : Fr h₀ env.locals h₄ m := ⟨F'.ns.at' fun o e => up₄ _ o (Ne.symm hCl) (nL 1) (nL 0) e, fun b o e => up₄ b o (n0 b o e).1 (n0 b o e).2.1 (n0 b o e).2.2 (F'.keep b o e), F'.above⟩
        have N₄ : News h₀ env.locals h₄ ((C, oC) :: (s.heap.objs.size + 1, oe) :: (s.heap.objs.size, oi) :: (s.heap.objs.size + 2, LCg.lst ys) :: news') := fun p hp => by
          rcases List.mem_cons.mp hp with rfl | hp
          · exact ⟨heC, hCl, hCf⟩
          rcases List.mem_cons.mp hp with rfl | hp
          · exact ⟨hk₄ _ _ (neC 1 (by omega)) hoe, Ne.symm (nL 1), fresh₀ _ (Nat.le_add_right _ 1)⟩
          rcases List.mem_cons.mp hp with rfl | hp
          · exact ⟨hk₄ _ _ (neC 0 (by omega)) hoi, Ne.symm (nL 0), fresh₀ _ (Nat.le_refl _)⟩
          rcases List.mem_cons.mp hp with rfl | hp
          · exact ⟨up₄ _ _ (neC 2 (by omega)) (Nat.ne_of_gt (Nat.lt_succ_self _)) (Nat.ne_of_gt (Nat.lt_succ_of_lt (Nat.lt_succ_self _))) (N' _ (.head _)).1, (N' _ (.head _)).2⟩
          · have z := N' p (.tail _ hp)
            exact ⟨up₄ _ _ (hoff p hp).1 (hoff p hp).2.1 (hoff p hp).2.2.1 z.1, z.2⟩
        have offC : ∀ p ∈ (s.heap.objs.size + 1, oe) :: (s.heap.objs.size, oi) :: (s.heap.objs.size + 2, LCg.lst ys) :: news', p.1 ≠ C := fun p hp => by
          rcases List.mem_cons.mp hp with rfl | hp
          · exact neC 1 (by omega)
          rcases List.mem_cons.mp hp with rfl | hp
          · exact neC 0 (by omega)
          rcases List.mem_cons.mp hp with rfl | hp
          · exact neC 2 (by omega)
          · exact (hoff p hp).1
        refine wpAny_bind (wpAny_bind (wpAny_mono (turn i x ys news' h₄ _ C oC _ _ oe _ oi _ t _ hxi hJ hoC (by simp [hab]) (by simp) F₄ N₄ offC) (fun y s₅ h₅ => ?_) fun _ _ e => e))
        obtain ⟨h₅, tk₅, news₂, rfl, F₅, N₅, off₅, hJ₅⟩ := h₅
        have zC := N₅ _ (.head _)
        have ze := N₅ _ (.tail _ (.head _))
        have zi := N₅ _ (.tail _ (.tail _ (.head _)))
        have zD := N₅ _ (.tail _ (.tail _ (.tail _ (.head _))))
        have zl₅ := N₅ _ (.tail _ (.tail _ (.tail _ (.tail _ (hJl _ _ _ hJ₅)))))
        have hlD : l ≠ s.heap.objs.size + 2 := Nat.ne_of_lt (Nat.lt_of_lt_of_le hlt (Nat.le_add_right _ 2))
        have off₅' : ∀ p ∈ news₂, p.1 ≠ C ∧ p.1 ≠ s.heap.objs.size + 1 ∧ p.1 ≠ s.heap.objs.size ∧ p.1 ≠ s.heap.objs.size + 2 := fun p hp => by
          rcases off₅ p hp with h | h
          · exact hoff p h
          · exact h
        have f2 : ys.toArray.size ≤ sizeLine := by
          have : 2000 ≤ sizeLine := by size_fits
          rw [List.size_toArray]
          omega
        refine wpAny_bind (append_at (hsz := f2) zD.1 fun h₆ hs₆ hD₆ => ?_)
        refine wpAny_pure ?_
        refine wpAny_pure ?_
        refine ⟨rfl, items.size + 1 - (i + 1), by omega, h₆, tk₅, i + 1, ys ++ [y], _, news₂, rfl, hlt', rfl, by rw [List.length_append, List.length_singleton, hyl], ?_, F₅.change hs₆ zD.2.1 zD.2.2, (hoC.ns zC.1).sameBut hs₆ (Ne.symm (neC 2 (by omega))), ?_, off₅', hJ₅⟩
        · refine W.frame (i + 1) h₃ _ hst₃ fun q hq o e => hs₆.extBut q o ?_ ?_
          · simp only [List.mem_cons, List.not_mem_nil, or_false] at hq
            rcases hq with rfl | rfl | rfl
            · exact Nat.ne_of_lt (Nat.lt_succ_self _)
            · exact Nat.ne_of_lt (Nat.lt_succ_of_lt (Nat.lt_succ_self _))
            · exact hlD
          · simp only [List.mem_cons, List.not_mem_nil, or_false] at hq
            rcases hq with rfl | rfl | rfl
            · rw [hoe] at e; rw [← Option.some.inj e]; exact ze.1
            · rw [hoi] at e; rw [← Option.some.inj e]; exact zi.1
            · have zz := (N' _ (.tail _ (hJl _ _ _ hJ))).1
              have hq0 := hoff _ (hJl _ _ _ hJ)
              have := up₃ _ _ hq0.2.1 hq0.2.2.1 zz
              rw [this] at e; rw [← Option.some.inj e]; exact zl₅.1
        · intro p hp
          rcases List.mem_cons.mp hp with rfl | hp
          · exact ⟨hD₆.trans (congrArg some (LCg.lst_snoc ys y)), zD.2⟩
          · have z := N₅ p (.tail _ (.tail _ (.tail _ (.tail _ hp))))
            exact ⟨hs₆.extBut _ _ (off₅' p hp).2.2.2 z.1, z.2⟩
      · obtain rfl : i = items.size := Nat.le_antisymm hi (Nat.not_lt.mp hlt')
        refine W.done _ _ _ hst fun h₂ tk₂ hk₂ => ?_
        have up₂ : ∀ b o, b ≠ s.heap.objs.size + 1 → b ≠ s.heap.objs.size → H.get? b = some o → h₂.get? b = some o := fun b o b1 b2 e =>
          hk₂ b o (by simp only [List.mem_cons, List.not_mem_nil, or_false, not_or]; exact ⟨b1, b2⟩) e
        refine wpAny_pure (hRR _ C h₂ tk₂ mC ys news' (hn'.at' fun o e => up₂ _ o (Ne.symm (neC 1 (by omega))) (Ne.symm (neC 0 (by omega))) e) ⟨F'.ns.at' fun o e => up₂ _ o (nL 1) (nL 0) e, fun b o e => ?_, F'.above⟩ (fun p hp => ?_) hJ (fun p hp => ?_) hCl hCf)
        · have d := dif _ _ (F.keep b o e)
          exact up₂ b o d.2.2.1 d.2.1 (F'.keep b o e)
        · rcases List.mem_cons.mp hp with rfl | hp
          · exact ⟨up₂ _ _ (Nat.ne_of_gt (Nat.lt_succ_self _)) (Nat.ne_of_gt (Nat.lt_succ_of_lt (Nat.lt_succ_self _))) (N' _ (.head _)).1, (N' _ (.head _)).2⟩
          · have z := N' p (.tail _ hp)
            exact ⟨up₂ _ _ (hoff p hp).2.1 (hoff p hp).2.2.1 z.1, z.2⟩
        · rcases List.mem_cons.mp hp with rfl | hp
          · exact neC 2 (by omega)
          · exact (hoff p hp).1
    · intro p hp
      rcases List.mem_cons.mp hp with rfl | hp
      · exact ⟨old _ _ (Nat.lt_succ_self _) gD, Ne.symm (nL 2), fresh₀ _ (Nat.le_add_right _ 2)⟩
      · exact ⟨up _ _ (N p hp).1, (N p hp).2⟩
    · intro p hp
      have d := dif _ _ (N p hp).1
      exact ⟨d.1, d.2.2.1, d.2.1, d.2.2.2⟩
  exact codeAny_compStart_list (lp _ ⟨_, rfl⟩) (W.self 0 _ _ _ St0 (lp _ ⟨_, rfl⟩))
end
end
section
def fr8 (dp : Int) (t1 : Tok) (sp : Int) (t2 : Tok) (dv : Value) (fl wl : Addr) (n : Nat) (tm : Tok) (b : Bool) (B : Int) (tb : Tok) (u : Str → Option Value) : Str → Option Value := fun q => if q = Str.ofString "deep" then some (.int dp t1) else if q = Str.ofString "spot" then some (.int sp t2) else if q = Str.ofString "due" then some (dv) else if q = Str.ofString "found" then some (.ref fl) else if q = Str.ofString "words" then some (.ref wl) else if q = Str.ofString "many" then some (.int (n : Int) tm) else if q = Str.ofString "bracket" then some (.bool b) else if q = Str.ofString "begun" then some (.int B tb) else u q
theorem clean8 {m : Str → Option Value} {dp : Int} {t1 : Tok} {sp : Int} {t2 : Tok} {dv : Value} {fl wl : Addr} {n : Nat} {tm : Tok} {b : Bool} {B : Int} {tb : Tok} (h0 : m (Str.ofString "deep") = some (.int dp t1)) (h1 : m (Str.ofString "spot") = some (.int sp t2)) (h2 : m (Str.ofString "due") = some (dv)) (h3 : m (Str.ofString "found") = some (.ref fl)) (h4 : m (Str.ofString "words") = some (.ref wl)) (h5 : m (Str.ofString "many") = some (.int (n : Int) tm)) (h6 : m (Str.ofString "bracket") = some (.bool b)) (h7 : m (Str.ofString "begun") = some (.int B tb)) : m = fr8 dp t1 sp t2 dv fl wl n tm b B tb m := by
  funext q
  unfold fr8
  split
  · next h => rw [h, h0]
  split
  · next h => rw [h, h1]
  split
  · next h => rw [h, h2]
  split
  · next h => rw [h, h3]
  split
  · next h => rw [h, h4]
  split
  · next h => rw [h, h5]
  split
  · next h => rw [h, h6]
  split
  · next h => rw [h, h7]
  rfl
/-- what due holds -/
def DV (acc : Option Int) (R : Led) (v : Value) : Prop := match acc with
  | none => v = .none
  | some a => ∃ y t1 t2, v = .ref y ∧ (y, tupOf [.str (Str.ofString "too_deep") t1, .int a t2]) ∈ R
theorem DV.sub {acc : Option Int} {R R' : Led} {v : Value} (s : Sub R R') (h : DV acc R v) : DV acc R' v := by
  cases acc with
  | none => exact h
  | some a => obtain ⟨y, t1, t2, e, m⟩ := h; exact ⟨y, t1, t2, e, s _ m⟩
/-- the step's depth and place -/
def dq (b : Bool) (B : Int) (i : Nat) : Int := match b with | true => B + 2 * i | false => B + i
def sq (b : Bool) (i : Nat) : Nat := match b with | true => 3 * i | false => 2 * i
def AccOk (b : Bool) (n : Nat) (B : Int) (i : Nat) (acc : Option Int) : Prop := if i ≤ n then acc.or (Err b (n - i) (sq b i) (dq b B i)) = Err b n 0 B else acc = Err b n 0 B
theorem or_assoc' (a b c : Option Int) : (a.or b).or c = a.or (b.or c) := by cases a <;> rfl
theorem AccOk.last {b : Bool} {n : Nat} {B : Int} {acc : Option Int} (h : AccOk b n B n acc) : AccOk b n B (n + 1) (acc.or (tooDeep (dq b B n) (sq b n : Nat))) := by
  unfold AccOk at h ⊢
  rw [if_pos (Nat.le_refl _), Nat.sub_self] at h
  rw [if_neg (by omega)]
  exact h
theorem AccOk.last' {b : Bool} {n i : Nat} {B : Int} {acc : Option Int} (h : AccOk b n B i acc) (hi : i = n) : AccOk b n B (i + 1) (acc.or (tooDeep (dq b B i) (sq b i : Nat))) := by
  subst hi
  exact h.last
theorem AccOk.bare {n : Nat} {B : Int} {i : Nat} {acc : Option Int} (h : AccOk false n B i acc) (hi : i < n) : AccOk false n B (i + 1) (acc.or (tooDeep (dq false B i) (sq false i : Nat))) := by
  unfold AccOk at h ⊢
  rw [if_pos (by omega)] at h
  rw [if_pos (by omega), or_assoc']
  obtain ⟨r, hr⟩ : ∃ r, n - i = r + 1 := ⟨n - i - 1, by omega⟩
  rw [hr] at h
  rw [show n - (i + 1) = r by omega, ← h]
  simp only [Err, dq, sq]
  rw [show 2 * (i + 1) = 2 * i + 2 by omega, show B + ((i + 1 : Nat) : Int) = B + i + 1 by omega]
theorem AccOk.brac {n : Nat} {B : Int} {i : Nat} {acc : Option Int} (h : AccOk true n B i acc) (hi : i < n) : AccOk true n B (i + 1) ((acc.or (tooDeep (dq true B i) (sq true i : Nat))).or (tooDeep (dq true B i + 1) ((sq true i + 2 : Nat) : Int))) := by
  unfold AccOk at h ⊢
  rw [if_pos (by omega)] at h
  rw [if_pos (by omega), or_assoc', or_assoc']
  obtain ⟨r, hr⟩ : ∃ r, n - i = r + 1 := ⟨n - i - 1, by omega⟩
  rw [hr] at h
  rw [show n - (i + 1) = r by omega, ← h]
  simp only [Err, dq, sq]
  rw [show 3 * (i + 1) = 3 * i + 3 by omega, show B + 2 * ((i + 1 : Nat) : Int) = B + 2 * i + 2 by omega]
/-- as the i-th turn begins -/
def JD (w : World) (ss : List Str) (wl D : Addr) (lo : Obj) (ys : List Value) (b : Bool) (n : Nat) (B : Int) (i : Nat) (m : Str → Option Value) (news : Led) : Prop :=
  ∃ (t1 t2 tm tb : Tok) (dv : Value) (u : Str → Option Value) (acc : Option Int) (R : Led), m = fr8 (dq b B (min i n)) t1 (sq b (min i n) : Nat) t2 dv D wl n tm b B tb u ∧ news = (D, LCg.lst ys) :: R ∧ JT w ss wl lo ss.length ys R ∧ AccOk b n B i acc ∧ DV acc R dv
theorem JD.init {w : World} {ss : List Str} {wl D : Addr} {lo : Obj} {ys : List Value} {b : Bool} {n : Nat} {B : Int} {m : Str → Option Value} {R : Led} {t1 t2 tm tb : Tok} (h0 : m (Str.ofString "deep") = some (.int B t1)) (h1 : m (Str.ofString "spot") = some (.int 0 t2)) (h2 : m (Str.ofString "due") = some .none)
    (h3 : m (Str.ofString "found") = some (.ref D)) (h4 : m (Str.ofString "words") = some (.ref wl)) (h5 : m (Str.ofString "many") = some (.int (n : Int) tm)) (h6 : m (Str.ofString "bracket") = some (.bool b)) (h7 : m (Str.ofString "begun") = some (.int B tb)) (hJ : JT w ss wl lo ss.length ys R) :
    JD w ss wl D lo ys b n B 0 m ((D, LCg.lst ys) :: R) := by
  have e1 : dq b B (min 0 n) = B := by cases b <;> simp [dq]
  have e2 : ((sq b (min 0 n) : Nat) : Int) = 0 := by cases b <;> simp [sq]
  refine ⟨t1, t2, tm, tb, .none, m, none, R, ?_, rfl, hJ, ?_, rfl⟩
  · rw [e1, e2]
    exact clean8 h0 h1 h2 h3 h4 h5 h6 h7
  · unfold AccOk
    cases b <;> simp [sq, dq]
theorem JD.next {w : World} {ss : List Str} {wl D : Addr} {lo : Obj} {ys : List Value} {b : Bool} {n i : Nat} {B dp sp : Int} {m : Str → Option Value} {R R' : Led} {t1 t2 tm tb : Tok} {dv : Value} {acc : Option Int} (h0 : m (Str.ofString "deep") = some (.int dp t1)) (h1 : m (Str.ofString "spot") = some (.int sp t2)) (h2 : m (Str.ofString "due") = some dv)
    (h3 : m (Str.ofString "found") = some (.ref D)) (h4 : m (Str.ofString "words") = some (.ref wl)) (h5 : m (Str.ofString "many") = some (.int (n : Int) tm)) (h6 : m (Str.ofString "bracket") = some (.bool b)) (h7 : m (Str.ofString "begun") = some (.int B tb))
    (hdp : dp = dq b B (min (i + 1) n)) (hsp : sp = (sq b (min (i + 1) n) : Nat)) (hJ : JT w ss wl lo ss.length ys R) (s : Sub R R') (hA : AccOk b n B (i + 1) acc) (hD : DV acc R' dv) :
    JD w ss wl D lo ys b n B (i + 1) m ((D, LCg.lst ys) :: R') := by
  subst hdp
  subst hsp
  refine ⟨t1, t2, tm, tb, dv, m, acc, R', clean8 h0 h1 h2 h3 h4 h5 h6 h7, rfl, ⟨s _ hJ.1, hJ.2.1, fun j v hj hv => ?_⟩, hA, hD⟩
  obtain ⟨x, hx, hx'⟩ := hJ.2.2 j v hj hv
  exact ⟨x, hx, hx'.sub s⟩
theorem dn_t {B d : Int} {i n : Nat} (hi : i < n) (h : dq true B i = d) : d + 1 + 1 = dq true B (min (i + 1) n) := by
  rw [Nat.min_eq_left hi, ← h]; simp only [dq]; omega
theorem sn_t {q i n : Nat} (hi : i < n) (h : sq true i = q) : (q : Int) + 2 + 1 = ((sq true (min (i + 1) n) : Nat) : Int) := by
  rw [Nat.min_eq_left hi, ← h]; simp only [sq]; omega
theorem dn_f {B d : Int} {i n : Nat} (hi : i < n) (h : dq false B i = d) : d + 1 = dq false B (min (i + 1) n) := by
  rw [Nat.min_eq_left hi, ← h]; simp only [dq]; omega
theorem sn_f {q i n : Nat} (hi : i < n) (h : sq false i = q) : (q : Int) + 2 = ((sq false (min (i + 1) n) : Nat) : Int) := by
  rw [Nat.min_eq_left hi, ← h]; simp only [sq]; omega
theorem dn_l {b : Bool} {B d : Int} {i n : Nat} (hi : i = n) (h : dq b B i = d) : d = dq b B (min (i + 1) n) := by
  subst hi
  rw [Nat.min_eq_right (Nat.le_succ _), h]
theorem sn_l {b : Bool} {q i n : Nat} (hi : i = n) (h : sq b i = q) : (q : Int) = ((sq b (min (i + 1) n) : Nat) : Int) := by
  subst hi
  rw [Nat.min_eq_right (Nat.le_succ _), h]
theorem TurnD0 {h₀ h' : Heap} {L I D : Addr} {it : Obj} {ys : List Value} {R : Led} {J : (Str → Option Value) → Led → Prop} {s : Shared} {Q : Flow → Shared → Prop} {tk' : Nat} {m' : Str → Option Value} (F : Fr h₀ L h' m') (N : News h₀ L h' ((I, it) :: (D, LCg.lst ys) :: R)) (hoff : ∀ p ∈ (D, LCg.lst ys) :: R, p.1 ≠ I) (hJ : J m' ((D, LCg.lst ys) :: R)) :
    TurnR h₀ L I it J s Q .next { s with heap := h', toks := tk' } := ⟨h', tk', m', _, rfl, F, N, hoff, hJ⟩
theorem TurnD1 {h₀ h' : Heap} {L I D D' : Addr} {it o : Obj} {ys : List Value} {R : Led} {J : (Str → Option Value) → Led → Prop} {s : Shared} {Q : Flow → Shared → Prop} {tk' : Nat} {m' : Str → Option Value} (F : Fr h₀ L h' m') (N : News h₀ L h' ((D', o) :: (I, it) :: (D, LCg.lst ys) :: R)) (l1 : @LT.lt Nat _ I D' ∧ @LT.lt Nat _ D D' ∧ AllLt D' R) (hoff : ∀ p ∈ (D, LCg.lst ys) :: R, p.1 ≠ I) (hJ : J m' ((D, LCg.lst ys) :: (D', o) :: R)) :
    TurnR h₀ L I it J s Q .next { s with heap := h', toks := tk' } := by
  refine ⟨h', tk', m', _, rfl, F, News.of N (fun q hq => ?_), fun p hp => ?_, hJ⟩
  · simp only [List.mem_cons] at hq ⊢
    rcases hq with h | h | h | h <;> simp [h]
  · rcases List.mem_cons.mp hp with rfl | hp
    · exact hoff _ (.head _)
    rcases List.mem_cons.mp hp with rfl | hp
    · exact Nat.ne_of_gt l1.1
    · exact hoff _ (.tail _ hp)
section
variable {prog : Program} {w : World} {A : Around} {E : Value → Shared → Prop} {s : Shared} {env : Env} {h₀ : Heap} {m : Str → Option Value}
theorem RRA.mk {lv : Str} {pl : Pos} {scope : Scope} {Q : Flow → Shared → Prop} {D C : Addr} {h : Heap} {tk : Nat} {mC : Str → Option Value} {ys : List Value} {news' : Led}
    (hlv : env.kindOf lv = some .local) (hp : (env.scope.kind == .class || (env.scope.kind == .module && env.locals != env.globals)) = false)
    (hnC : h.Ns C mC) (F' : Fr h₀ env.locals h m) (N' : News h₀ env.locals h ((D, LCg.lst ys) :: news')) (hoC : ∀ p ∈ (D, LCg.lst ys) :: news', p.1 ≠ C) (hCl : C ≠ env.locals) (hC0 : h₀.get? C = none)
    (hQ : ∀ h tk, Fr h₀ env.locals h (fun z => if z = lv then some (.ref D) else m z) → News h₀ env.locals h ((D, LCg.lst ys) :: news') → Q .next { s with heap := h, toks := tk }) :
    RRA prog w A E lv pl env Q (.ref D) (cEnv scope C env) (.ok .next) { s with heap := h, toks := tk } := by
  show wpAny _ _ (assign (.Name lv pl) env (.ref D)) _ _ _
  refine wpAny_assign_Name (wpAny_storeName_local hlv F'.ns (fun h₂ hn₂ hs₂ => ?_) hp)
  refine ⟨mC, hnC.sameBut hs₂ hCl, fun h₃ hs₃ => ?_⟩
  refine hQ h₃ (tk + 1) ⟨hn₂.sameBut hs₃ (Ne.symm hCl), fun b o e => ?_, F'.above⟩ (fun q hq => ?_)
  · refine hs₃.extBut b o (fun q => by rw [show b = C from q, hC0] at e; cases e) (hs₂.extBut b o (Nat.ne_of_lt (Nat.lt_of_lt_of_le (Heap.lt_size e) F'.above)) (F'.keep b o e))
  · have z := N' q hq
    exact ⟨hs₃.extBut _ _ (hoC q hq) (hs₂.extBut _ _ z.2.1 z.1), z.2⟩
end
end
section
local macro_rules | `(tactic| walk_at "call ref") => `(tactic| (k_here; (with_reducible show wpAny _ _ (call (Value.ref 96) _) _ _ _); refine wpAny_call ?_; k_dflt kpc_turns))
local macro_rules | `(tactic| walk_at "call ref") => `(tactic| (k_here; (with_reducible show wpAny _ _ (call (Value.ref 124) _) _ _ _); refine wpAny_call ?_; k_dflt kpc_turns))
local macro_rules | `(tactic| walk_at "call ref") => `(tactic| (k_here; (with_reducible show wpAny _ _ (call (Value.ref 117) _) _ _ _); refine wpAny_call ?_; k_dflt kpc_turns))
set_option hygiene false in
local macro_rules | `(tactic| tb_start) => `(tactic| (
  unfold Spec
  k_fill
  intro p loose mean mg mb dp un gd cn cs a ccd cl outer A₀ base h₀ L m s Q E B F X N T hk hd hu hret
  k_steps))
variable {w : World} {P dP R dR TL AH : Addr} {toks : List Value} {rest : Led} {ks rs : Nat → Tok} {tok : Addr} {at_ : Int} {ta : Tok} {dep : Int} {td : Tok} {wi ne : Bool} {pl : Int} {tp : Tok}
theorem mk_row : Spec w 99 [.ref TL] 6 rest (fun r n => ∃ R dR rs tp, r = .ref R ∧ n = (R, instObj 99 dR) :: (dR, RD w rs TL 0 tp false) :: rest ∧ (∀ p ∈ rest, p.1 < dR) ∧ dR < R) := by
  tb_start
  rename News _ _ _ _ => NN
  exact hret _ _ _ _ (by k_asm) NN ⟨_, _, ts3 _ _ _, _, rfl, rfl, by assumption, by assumption⟩
def ts8 (a b c d e f g h : Tok) : Nat → Tok
  | 0 => a
  | 1 => b
  | 2 => c
  | 3 => d
  | 4 => e
  | 5 => f
  | 6 => g
  | _ => h
theorem allLt_at {d : Addr} {p : Addr × Obj} : ∀ {l : Led}, AllLt d l → p ∈ l → @Ne Nat p.1 d
  | _ :: _, h, .head _ => Nat.ne_of_lt h.1
  | _ :: _, h, .tail _ q => allLt_at h.2 q
theorem perm_mk {a b c d : Addr × Obj} {r : Led} : ∀ q ∈ c :: d :: a :: b :: r, q ∈ a :: b :: c :: d :: r := by
  intro q hq
  simp only [List.mem_cons] at hq ⊢
  rcases hq with h | h | h | h | h <;> simp [h]
theorem mk_parser {l : List Str} (hR : (R, instObj 99 dR) ∈ rest) (hT : ∃ n, (TL, listOf toks.toArray n) ∈ rest) (hne : ∀ p ∈ rest, p.1 ≠ dR) (hst : Strm w toks rest 0 (Str.ofString "a" :: l)) (sz : toks.length ≤ 1000) :
   Spec w 471 [.ref R] 16 ((dR, RD w rs TL 0 tp false) :: rest) (fun r n => ∃ P dP AH ks rs tok ta td tp R1, r = .ref P ∧ n = Ldg w dP dR ks rs R TL AH tok (hdA 0 (Str.ofString "a" :: l)) ta 0 td false false (plOf 0 (Str.ofString "a" :: l)) tp R1 ∧ Sub rest R1 ∧
     Wld P dP R dR TL AH toks R1 ∧ Tk w R1 tok (hdK (Str.ofString "a" :: l)) (hdV (Str.ofString "a" :: l)) (hdA 0 (Str.ofString "a" :: l)) ∧ Strm w toks R1 0 (Str.ofString "a" :: l)) := by
  obtain ⟨nT, hT⟩ := hT
  obtain ⟨t, h0, ht⟩ := hst.at_ 0 _ rfl
  have ht0 := ht
  have hlen : 0 < (toks.length : Int) := by have := (List.getElem?_eq_some_iff.mp h0).1; omega
  rw [kindOf_a] at ht
  obtain ⟨dT9, ts9, tk9, tv9, ta9, m9, m9'⟩ := ht
  have h0' : toks[0]? = some (.ref t) := h0
  tb_start
  rename News _ _ _ _ => NN
  rename (@LT.lt Nat _ _ _ ∧ @LT.lt Nat _ _ _ ∧ @LT.lt Nat _ _ _ ∧ AllLt _ _) => lA
  rename (@LT.lt Nat _ _ _ ∧ AllLt _ _) => lP
  rename (@LT.lt Nat _ _ _) => lX
  have e : (Str.ofString "id" == Str.ofString "op") = false := by decide
  rw [e] at NN
  refine hret _ _ _ _ (by k_asm) (News.of NN perm_mk) ⟨_, _, _, ts8 _ _ _ _ _ _ _ _, ts3 _ _ _, _, _, _, _, _, rfl, rfl, Sub.trans Sub.cons Sub.cons, ⟨.tail _ (.head _), .tail _ (.tail _ hR), ⟨nT, .tail _ (.tail _ hT)⟩, ⟨_, .head _⟩, Nat.ne_of_gt lP.1, ?_, ?_, sz⟩, ht0.sub (Sub.trans Sub.cons Sub.cons), hst.sub (Sub.trans Sub.cons Sub.cons)⟩
  · intro p hp
    rcases List.mem_cons.mp hp with rfl | hp
    · exact Nat.ne_of_gt lA.2.1
    rcases List.mem_cons.mp hp with rfl | hp
    · exact Nat.ne_of_gt lX
    · exact allLt_at lP.2 hp
  · intro p hp
    rcases List.mem_cons.mp hp with rfl | hp
    · exact Nat.ne_of_gt lA.2.2.1
    rcases List.mem_cons.mp hp with rfl | hp
    · exact Nat.ne_of_gt (Nat.lt_trans lP.1 lX)
    · exact hne p hp
end
end
section
section
variable {prog : Program} {w : World} {A : Around} {E : Value → Shared → Prop} {s : Shared} {K : Frag} {x : Addr} {ox : Obj} {od : Option Obj} {name : Str} {expr : Bool} {Q : Value → Shared → Prop}
theorem get_exc {v : Value} (X : K.In s.heap) (I : InstAt s.heap x ox 52 od) (hga : findIn K (.ref 52) "__getattribute__" = some (some (.builtin "BaseException.__getattribute__"))) (hk : findIn K (.ref 52) "__getattr__" = some none)
    (hm : mroIn K 52 (.type "BaseException") = some true) (hf : findObj K 52 od name = some (.value v)) (hh : handedIn v = true) (h : Q v { s with toks := s.toks + 1 }) :
    wpAny (model prog w) A (getAttr (.ref x) name expr) Q E s := by
  obtain ⟨hp, g, d, t, os⟩ := s
  have L0 := I.type (M := model prog w)
  have L1 := looks_findIn (M := model prog w) X hga
  have L2 := looks_findIn (M := model prog w) X hk
  have L3 := looks_find (M := model prog w) X I hf
  have L4 : Looks (model prog w) hp (isInstance (.ref x) (.type "BaseException")) true := L0.andThen (looks_mroIn X hm)
  unfold getAttr getAttrBy
  refine wpAny_bind (wpAny_mkText (wpAny_holding (wpAny_bind (L0.at (wpAny_bind (L1.at ?_))))))
  dsimp only
  rw [if_neg (by decide)]
  unfold getAttrByItsOwn hookBefore
  rw [if_pos (show onTheHeap (Value.ref 52) = true from rfl)]
  refine wpAny_bind (L2.at ?_)
  refine wpAny_bind (wpAny_attempt (wpAny_holding ?_))
  unfold callGetattribute
  rw [if_neg (by cases expr <;> decide)]
  unfold boundAndCalled
  rw [PySem.F.attr_Exception.ga.bind]
  refine wpAny_bind (wpAny_pure (wpAny_call (codeAny_call_builtin PySem.F.attr_Exception.ga.plain PySem.F.entry_bexc_ga (@check_slot (model prog w) _ _ _ "BaseException.__getattribute__" "BaseException" "__getattribute__" (.ref x) [.str name t] [] _ (by decide +kernel) (by decide +kernel) L4 (PySem.F.args_bexc_ga _ _) ?_))))
  refine wpAny_bind (wpAny_pure (wpAny_bind (wpAny_pure (wpAny_bind (L0.at (wpAny_bind (L3.at ?_)))))))
  refine wpAny_pure ?_
  show wpAny _ _ (handedOut v) _ _ _
  rw [handedOut_of hh]
  exact wpAny_pure h
end
section
variable {prog : Program} {w : World} {A : Around} {E : Value → Shared → Prop} {s : Shared} {K : Frag} {e de L : Addr} {oe D : Obj} {name : Str} {expr : Bool} {Q : Value → Shared → Prop} {h₀ : Heap} {m : Str → Option Value} {news : Led} {vs : Array Value}
theorem get_err {v : Value} {attr : Option Value} (F : Fr h₀ L s.heap m) (X₀ : K.In h₀) (N : News h₀ L s.heap news) (h1 : (e, oe) ∈ news) (h2 : (de, D) ∈ news) (hc : oe.cls = .ref 52) (hdi : oe.dict = some de) (hda : oe.data = .fields vs)
    (hga : findIn K (.ref 52) "__getattribute__" = some (some (.builtin "BaseException.__getattribute__"))) (hk : findIn K (.ref 52) "__getattr__" = some none)
    (hm : mroIn K 52 (.type "BaseException") = some true) (hh' : hasDictIn K 52 = true) (ha : findIn K (.ref 52) name = some attr) (hn : noGet K attr = true) (hl : lookIn name D = some (some v)) (hh : handedIn v = true) (h : Q v { s with toks := s.toks + 1 }) :
    wpAny (model prog w) A (getAttr (.ref e) name expr) Q E s := by
  refine get_exc (X₀.keeps F.keep) (ox := oe) (od := some D) ⟨(N _ h1).1, hc, ?_, ?_⟩ hga hk hm (findObj_own hh' ha hn hl) hh h
  · unfold notCls
    rw [hda]
  · rw [hdi]
    exact (N _ h2).1
end
end
section
theorem rep_no {c : List Str} {x : Str} (h : ∀ v ∈ c, v ≠ x) : ∀ n, ∀ v ∈ rep c n, v ≠ x
  | 0, v, hv => nomatch hv
  | n + 1, v, hv => by
    rcases List.mem_append.mp (show v ∈ rep c n ++ c from hv) with hv | hv
    · exact rep_no h n v hv
    · exact h v hv
theorem Ew_no (b : Bool) (n : Nat) : ∀ v ∈ Ew b n [], v ≠ Str.ofString "#" := by
  rw [Ew_eq, List.append_nil]
  intro v hv
  rcases List.mem_cons.mp hv with rfl | hv
  · decide
  rcases List.mem_append.mp hv with hv | hv
  · exact rep_no (by cases b <;> decide) n v hv
  · exact rep_no (by cases b <;> decide) n v hv
theorem Ew_cons (b : Bool) (n : Nat) : ∃ l, Ew b n [] = Str.ofString "a" :: l := ⟨_, Ew_eq b n []⟩
theorem strm_of {w : World} {b : Bool} {n : Nat} {wl : Addr} {lo : Obj} {ys : List Value} {R : Led} (h : JT w (Ew b n []) wl lo (Ew b n []).length ys R) : Strm w ys R 0 (Ew b n []) := by
  refine ⟨by rw [h.2.1, Nat.zero_add], fun j v hj => ?_, Ew_no b n⟩
  obtain ⟨t, h1, h2⟩ := h.2.2 j v (List.getElem?_eq_some_iff.mp hj).1 hj
  exact ⟨t, by rw [Nat.zero_add]; exact h1, by rw [Nat.zero_add]; exact h2⟩
/-- where the walk is to stop -/
def Hold (p : Prop) : Prop := p
theorem hold {p : Prop} (h : Hold p) : p := h
theorem swap_row {a b : Addr × Obj} {r : Led} : ∀ q ∈ b :: a :: r, q ∈ a :: b :: r := by
  intro q hq
  simp only [List.mem_cons] at hq ⊢
  rcases hq with h | h | h <;> simp [h]
theorem ne_row {R dR : Addr} {o : Obj} {r : Led} (h : ∀ p ∈ r, p.1 < dR) (h' : dR < R) : ∀ p ∈ (R, o) :: r, p.1 ≠ dR := by
  intro p hp
  rcases List.mem_cons.mp hp with rfl | hp
  · exact Nat.ne_of_gt h'
  · exact Nat.ne_of_lt (h p hp)
theorem op_law {w : World} {b : Bool} {n : Nat} {ys : List Value} {l0 : List Str} (hn : n ≤ 11) (hl : Ew b n [] = Str.ofString "a" :: l0) {P dP R dR TL AH : Addr} {ks rs : Nat → Tok} {dep : Int} :
    Op w P dP R dR TL AH ys ks rs false 328 [.ref P] 356 0 (Str.ofString "a" :: l0) dep (Err b n 0 dep) (0 + En b n) [] (Tree b n 0) := by
  rw [← hl]
  exact expr_law hn
theorem Ew_len (b : Bool) (n : Nat) : (Ew b n []).length = 1 + n * (c1 b).length + n * (c2 b).length := by
  rw [Ew_eq, List.append_nil, List.length_cons, List.length_append, rep_len, rep_len]
  omega
end
section
def frF (tv : Value) (wd : Int) (tw : Tok) (wl : Addr) (n : Nat) (tm : Tok) (u : Str → Option Value) : Str → Option Value := fun q =>
  if q = Str.ofString "told" then some tv else if q = Str.ofString "wide" then some (.int wd tw) else if q = Str.ofString "words" then some (.ref wl) else if q = Str.ofString "many" then some (.int (n : Int) tm) else u q
theorem cleanF {m : Str → Option Value} {tv : Value} {wd : Int} {tw : Tok} {wl : Addr} {n : Nat} {tm : Tok} (h1 : m (Str.ofString "told") = some tv) (h2 : m (Str.ofString "wide") = some (.int wd tw)) (h3 : m (Str.ofString "words") = some (.ref wl)) (h4 : m (Str.ofString "many") = some (.int (n : Int) tm)) :
    m = frF tv wd tw wl n tm m := by
  funext q
  unfold frF
  split
  · next h => rw [h, h1]
  split
  · next h => rw [h, h2]
  split
  · next h => rw [h, h3]
  split
  · next h => rw [h, h4]
  rfl
/-- as the i-th turn of the last loop begins -/
def JF (b : Bool) (wd : Int) (n : Nat) (wl : Addr) (N0 R : Led) (i : Nat) (m : Str → Option Value) (news : Led) : Prop :=
  ∃ (v : Value) (tw tm : Tok) (u : Str → Option Value), m = frF v wd tw wl n tm u ∧ news = N0 ∧ Tree b (n - i) (sq b i) R v
theorem En_t : ∀ n, En true n = 1 + 6 * n
  | 0 => rfl
  | n + 1 => by show En true n + 6 = _; rw [En_t n]; omega
theorem En_f : ∀ n, En false n = 1 + 4 * n
  | 0 => rfl
  | n + 1 => by show En false n + 4 = _; rw [En_f n]; omega
/-- what told is, in a turn -/
def Lvl3 (N0 : Led) (k q l : Int) (R : Led) (V : Led → Value → Prop) (v : Value) : Prop :=
  ∃ y y1 y3 t1 t2 t3 t4 t5 t6 t7 t8 v2, v = .ref y ∧ (y, tupOf [.str (Str.ofString "cond") t1, .int (k * q + 1) t2, .ref y1, v2, .ref y3]) ∈ N0 ∧ (y1, tupOf [.str (Str.ofString "id") t3, .int (k * q) t4, .str (Str.ofString "a") t5]) ∈ N0 ∧
    (y3, tupOf [.str (Str.ofString "id") t6, .int (l - 1 - k * q) t7, .str (Str.ofString "a") t8]) ∈ N0 ∧ V R v2
theorem lvl_t {n i : Nat} {N0 R : Led} {v : Value} {l : Nat} (hs : Sub R N0) (hi : i < n) (hl : l = 1 + 6 * n) (h : Tree true (n - i) (sq true i) R v) : Lvl3 N0 3 (i : Int) (l : Int) R (Tree true (n - (i + 1)) (sq true (i + 1))) v := by
  rw [show n - i = (n - (i + 1)) + 1 by omega] at h
  obtain ⟨y, t1, t2, v1, v2, v3, rfl, hm, ⟨y1, t3, t4, t5, rfl, h1⟩, h2, ⟨y3, t6, t7, t8, rfl, h3⟩⟩ := h
  have e1 : ((sq true i + 1 : Nat) : Int) = 3 * (i : Int) + 1 := by simp only [sq]; omega
  have e2 : ((sq true i : Nat) : Int) = 3 * (i : Int) := by simp only [sq]; omega
  have e3 : ((sq true i + En true (n - (i + 1) + 1) - 1 : Nat) : Int) = (l : Int) - 1 - 3 * (i : Int) := by rw [En_t, hl]; simp only [sq]; omega
  rw [e1] at hm
  rw [e2] at h1
  rw [e3] at h3
  exact ⟨y, y1, y3, _, _, _, _, _, _, _, _, v2, rfl, hs _ hm, hs _ h1, hs _ h3, h2⟩
theorem lvl_f {n i : Nat} {N0 R : Led} {v : Value} {l : Nat} (hs : Sub R N0) (hi : i < n) (hl : l = 1 + 4 * n) (h : Tree false (n - i) (sq false i) R v) : Lvl3 N0 2 (i : Int) (l : Int) R (Tree false (n - (i + 1)) (sq false (i + 1))) v := by
  rw [show n - i = (n - (i + 1)) + 1 by omega] at h
  obtain ⟨y, t1, t2, v1, v2, v3, rfl, hm, ⟨y1, t3, t4, t5, rfl, h1⟩, h2, ⟨y3, t6, t7, t8, rfl, h3⟩⟩ := h
  have e1 : ((sq false i + 1 : Nat) : Int) = 2 * (i : Int) + 1 := by simp only [sq]; omega
  have e2 : ((sq false i : Nat) : Int) = 2 * (i : Int) := by simp only [sq]; omega
  have e3 : ((sq false i + En false (n - (i + 1) + 1) - 1 : Nat) : Int) = (l : Int) - 1 - 2 * (i : Int) := by rw [En_f, hl]; simp only [sq]; omega
  rw [e1] at hm
  rw [e2] at h1
  rw [e3] at h3
  exact ⟨y, y1, y3, _, _, _, _, _, _, _, _, v2, rfl, hs _ hm, hs _ h1, hs _ h3, h2⟩
theorem lvl_end {b : Bool} {n : Nat} {N0 R : Led} {v : Value} {k : Int} (hs : Sub R N0) (hk : ((sq b n : Nat) : Int) = k * n) (h : Tree b (n - n) (sq b n) R v) : ∃ y t1 t2 t3, v = .ref y ∧ (y, tupOf [.str (Str.ofString "id") t1, .int (k * (n : Int)) t2, .str (Str.ofString "a") t3]) ∈ N0 := by
  rw [Nat.sub_self] at h
  obtain ⟨y, t1, t2, t3, rfl, h1⟩ := h
  rw [hk] at h1
  exact ⟨y, t1, t2, t3, rfl, hs _ h1⟩
end
section
local macro_rules | `(tactic| walk_at "call ref") => `(tactic| (k_here; (with_reducible show wpAny _ _ (call (Value.ref 71) _) _ _ _); k_dflt ((refine' call_cls ?k1 ?k2 ?k3 ?k4 ?k5 ?k6 ?_; (case k1 => k_asm); (case k2 => k_asm); (case k3 => k_asm); (case k4 => k_is); (case k5 => k_is); (case k6 => k_is); k_whole; intro x' d' h' F' N' l1 l2; (try k_lt l1); (try k_lt2 l2); (try k_sweep); kpc_turns))))
local macro_rules | `(tactic| walk_at "exec For Name Call cons nil") => `(tactic| (k_here; (with_reducible show wpAny _ _ (exec (Stmt.For (Expr.Name _ _) (Expr.Call (Expr.Name (PySem.Str.ofString "range") _) _ _ _) _ _ _) _) _ _ _); (rename Fr _ _ _ _ => lF'); (with_unfolding_all refine' For_turns lF' ?_; k_whole)))
local macro_rules | `(tactic| k_mem) => `(tactic| first | assumption | exact List.Mem.head _ | (refine List.Mem.tail _ ?_; k_mem))
local macro_rules | `(tactic| k_all) => `(tactic| assumption)
local macro_rules | `(tactic| walk_at "inplaceOp Add ref") => `(tactic| (k_here; (with_reducible show wpAny _ _ (inplaceOp Operator.Add (Value.ref _) (Value.ref _)) _ _ _); k_dflt (refine' iadd_K ?k1 ?k2 ?k3 ?k4 ?k5 ?_; (case k1 => k_asm); (case k2 => k_asm); (case k3 => exact List.Mem.head _); (case k4 => (intro k'; k_upd)); (case k5 => (simp only [List.length_cons, List.length_nil]; omega)); k_whole); intro h' k' F' N'; (try k_sweep)))
local macro_rules | `(tactic| walk_at "call ref") => `(tactic| (k_here; (with_reducible show wpAny _ _ (call (Value.ref 99) _) _ _ _); k_dflt ((refine' Spec.use mk_row ?B ?F ?X ?N ?T ?hk0 ?hs ?hd ?hu ?_; (case B => k_asm); (case F => k_asm); (case X => k_asm); (case N => k_asm); (case T => k_asm); (case hk0 => first | exact rfl | assumption); (case hs => exact fun _ h => h); (case hd => ktr_room); (case hu => ktr_units); k_whole; intro r9 n9 h9 tk9 F9 N9 p9; obtain ⟨R9, dR9, rs9, tp9, hr9, hn9, lt9, lt9'⟩ := p9; subst hr9; subst hn9; (try k_sweep); (try dsimp only); (try k_fold)))))
local macro_rules | `(tactic| walk_at "call ref") => `(tactic| (k_here; (with_reducible show wpAny _ _ (call (Value.ref 471) _) _ _ _); refine hold ?_))
local macro_rules | `(tactic| walk_at "call ref") => `(tactic| (k_here; (with_reducible show wpAny _ _ (call (Value.ref 328) _) _ _ _); refine hold ?_))
local macro_rules | `(tactic| walk_at "getAttr ref") => `(tactic| (k_here; k_dflt (refine' get_err ?k1 ?k2 ?k3 ?k4 ?k5 ?k6 ?k7 ?k8 ?k9 ?k10 ?k11 ?k12 ?k13 ?k14 ?k15 ?k16 ?_; (case k6 => assumption); (case k7 => assumption); (case k8 => assumption); (case k1 => k_asm); (case k2 => k_asm); (case k3 => k_asm); (case k4 => exact .head _); (case k5 => exact .tail _ (.head _)); (case k9 => k_is); (case k10 => k_is); (case k11 => k_is); (case k12 => k_is); (case k13 => k_is); (case k14 => k_is); (case k15 => exact rfl); (case k16 => exact rfl); k_whole)))
local macro_rules | `(tactic| k_qdec) => `(tactic| decide +kernel)
theorem law_walk : PySem.Challenge.rw_rg0148_01.Holds := by
  w_on
  refine holds_law said_ok fun said => ?_
  refine' holds_open (q := view) (loose := [Str.ofString "GateloomError", Str.ofString "vec"]) (Xt := xT) (XP := XL view []) (Yf := Hook.obs (kHook wrK kAs kE)) (Ya := Hook.val (kHook wrK kAs kE)) (YP := Hook.says (kHook wrK kAs kE)) (N := 6274) left (Hook.of (kHook wrK kAs kE)) (Hook.keeps (kHook wrK kAs kE)) (fun s e => xl_of s (Bool.and_eq_true_iff.mp e).1) XL.keeps ?a1 ?a2 ?a3 (fun s e => recFacts_of (Bool.and_eq_true_iff.mp e).2) (by rfl) (by first | assumption | decide +kernel) ?h1 ?h2 ?hw ?hc
  case a1 => rfl
  case a2 => kernel_rfl
  case a3 => kernel_rfl
  case h1 => decide +kernel
  case h2 => exact ⟨rfl, rfl, rfl, rfl, rfl, by decide +kernel⟩
  case hw => w_witness2
  clear said
  w_strict (
    k_go0
    (all_goals try k_fold)
    k_steps
    rename Fr _ _ _ _ => FF
    rename News _ _ _ _ => NN
    rename IsRange _ _ _ _ _ _ _ _ => RR
    rename World => w0
    rename Shared => s₁
    obtain ⟨n, b, B, hn, hB1, hB2, R1, F1, hx, hy, hz⟩ := pack FF rfl rfl rfl rfl RR
    have N1 := News.of NN (a := _) (b := [_]) (fun q hq => by rw [List.mem_singleton.mp hq]; exact .head _)
    clear FF NN RR
    k_here
    k_dflt (refine' rng_turns (n := n) (JW b n B (wd1 b)) ?hh ?F ?N ?hr ?hsm ?h0 ?turn ?done; (case hh => exact rfl); (case F => exact F1); (case N => exact N1); (case hr => exact R1); (case hsm => exact sm_small (by omega)); (case h0 => exact ⟨_, _, [.str _ _], _, _, _, rfl, rfl, rfl⟩))
    case turn =>
      rintro i t I it h tk m₁ news₁ hi ⟨wl, k, vs, u, tm, tb, hvs, rfl, rfl⟩ F₁ N₁ hoff hc
      have hlen : vs.length ≤ 100 := by
        rw [hvs.length]
        have := wd1_len b i
        omega
      have hwI : @Ne Nat wl I := hoff _ (.head _)
      try dsimp only
      unfold fr4 at F₁
      cases b with
      | true =>
        k_steps
        rename Fr _ _ _ _ => F₂
        rename News _ _ _ _ => N₂
        refine' ⟨_, _, _, _, rfl, F₂, News.of N₂ (fun q hq => .tail _ hq), (fun p hp => by rw [List.mem_singleton.mp hp]; exact hwI), wl, _, _, _, tm, tb, ?_, clean4 rfl rfl rfl rfl, rfl⟩
        rw [wd1_succ]
        exact hvs.append (show SA _ (c1 true) from rfl)
      | false =>
        k_steps
        rename Fr _ _ _ _ => F₂
        rename News _ _ _ _ => N₂
        refine' ⟨_, _, _, _, rfl, F₂, News.of N₂ (fun q hq => .tail _ hq), (fun p hp => by rw [List.mem_singleton.mp hp]; exact hwI), wl, _, _, _, tm, tb, ?_, clean4 rfl rfl rfl rfl, rfl⟩
        rw [wd1_succ]
        exact hvs.append (show SA _ (c1 false) from rfl)
    case done =>
      clear F1 N1 R1
      rintro h tk m₁ news₁ ⟨wl, k, vs, u, tm, tb, hvs, rfl, rfl⟩ F₁ N₁
      try dsimp only
      unfold fr4 at F₁
      k_steps
      rename Fr _ _ _ _ => FF
      rename News _ _ _ _ => NN
      rename IsRange _ _ _ _ _ _ _ _ => RR
      k_here
      k_dflt (refine' rng_turns (n := n) (JW b n B (wd2 b n)) ?hh ?F ?N ?hr ?hsm ?h0 ?turn ?done; (case hh => exact rfl); (case F => exact FF); (case N => exact NN); (case hr => exact RR); (case hsm => exact sm_small (by omega)); (case h0 => exact ⟨wl, _, vs, _, tm, tb, by simpa [wd2, rep] using hvs, clean4 rfl rfl rfl rfl, rfl⟩))
      case turn =>
        rintro i t I it h tk m₁ news₁ hi ⟨wl, k, vs, u, tm, tb, hvs, rfl, rfl⟩ F₁ N₁ hoff hc
        have hlen : vs.length ≤ 100 := by
          rw [hvs.length]
          have := wd2_len b n i
          omega
        have hwI : @Ne Nat wl I := hoff _ (.head _)
        try dsimp only
        unfold fr4 at F₁
        cases b with
        | true =>
          k_steps
          rename Fr _ _ _ _ => F₂
          rename News _ _ _ _ => N₂
          refine' ⟨_, _, _, _, rfl, F₂, News.of N₂ (fun q hq => .tail _ hq), (fun p hp => by rw [List.mem_singleton.mp hp]; exact hwI), wl, _, _, _, tm, tb, ?_, clean4 rfl rfl rfl rfl, rfl⟩
          rw [wd2_succ]
          exact hvs.append (show SA _ (c2 true) from rfl)
        | false =>
          k_steps
          rename Fr _ _ _ _ => F₂
          rename News _ _ _ _ => N₂
          refine' ⟨_, _, _, _, rfl, F₂, News.of N₂ (fun q hq => .tail _ hq), (fun p hp => by rw [List.mem_singleton.mp hp]; exact hwI), wl, _, _, _, tm, tb, ?_, clean4 rfl rfl rfl rfl, rfl⟩
          rw [wd2_succ]
          exact hvs.append (show SA _ (c2 false) from rfl)
      case done =>
        clear FF NN RR hvs
        rintro h tk m₁ news₁ ⟨wl, k, vs, u, tm, tb, hvs, rfl, rfl⟩ F₁ N₁
        rw [wd2_eq] at hvs
        try dsimp only
        unfold fr4 at F₁
        refine wpAny_execs_cons ?_
        k_dflt (refine' assign_start ?hsw ?hfree ?hkind ?hnames ?hs0 ?h)
        case hsw => exact rfl
        case hfree => decide
        case hkind => rfl
        case hnames => decide
        case hs0 => intro _; rfl
        case h =>
          k_steps
          rename Fr _ _ _ _ => F₂
          rename News _ _ _ _ => N₂
          have hvl : vs.length ≤ 100 := by
            rw [hvs.length, ← wd2_eq]
            have := wd2_len b n n
            omega
          k_here
          k_dflt (refine' enum_block (JT w0 (Ew b n []) wl (listOf vs.toArray k)) ?hh F₂ N₂ ?h0 ?hJl ?hsz ?hcell ?hkind ?ha ?hb ?hab ?turn ?hRR)
          case hh => exact rfl
          case h0 => exact ⟨.head _, rfl, fun j v hj => absurd hj (Nat.not_lt_zero _)⟩
          case hJl => exact fun i ys n h => h.1
          case hsz => (rw [List.size_toArray]; omega)
          case hcell => decide
          case hkind => rfl
          case ha => rfl
          case hb => rfl
          case hab => decide
          case turn =>
            intro i x ys news₁ h tk C oC mC e oe it oi D t E' hxi hJ hoC hma hmb F₃ N₃ hoff
            rw [cEnv_eq]
            rotate_left
            · rfl
            obtain ⟨v, tv, hv, rfl⟩ := hvs.at_ hxi
            clear F₂ N₂
            k_steps
            · have hva := of_decide_eq_true ‹(v == Str.ofString "a") = true›
              subst hva
              rename News _ _ _ _ => NZ
              exact EnEnd.mk (by k_asm) NZ (by assumption) (by assumption) (hJ.step (Sub.trans Sub.cons Sub.cons) hv (by rw [kindOf_a]; exact Tk.of3 (.head _) (.tail _ (.head _))))
            · have hva : v ≠ Str.ofString "a" := fun e => by have := ‹(v == Str.ofString "a") = false›; rw [e] at this; exact absurd this (by decide)
              rename News _ _ _ _ => NZ
              exact EnEnd.mk (by k_asm) NZ (by assumption) (by assumption) (hJ.step (Sub.trans Sub.cons Sub.cons) hv (by rw [kindOf_op hva]; exact Tk.of3 (.head _) (.tail _ (.head _))))
          case hRR =>
            intro D C h tk mC ys news' hnC F₃ N₃ hJ hoC hCl hC0
            clear F₂ N₂
            refine RRA.mk rfl rfl hnC F₃ N₃ hoC hCl hC0 (fun h tk F₄ N₄ => ?_)
            clear hnC F₃ N₃ hoC
            dsimp only
            k_steps
            rename Fr _ _ _ _ => FF
            rename News _ _ _ _ => NN
            rename IsRange _ _ _ _ _ _ _ _ => RR
            have hJ' : JT w0 (Ew b n []) wl (listOf vs.toArray k) (Ew b n []).length ys news' := by
              have e : vs.toArray.size = (Ew b n []).length := by rw [List.size_toArray, hvs.length]
              rw [e] at hJ
              exact hJ
            clear F₄ N₄ hJ
            k_here
            k_dflt (refine' rng_turns (n := n + 1) (JD w0 (Ew b n []) wl D (listOf vs.toArray k) ys b n B) ?hh ?F ?N ?hr ?hsm ?h0 ?turn ?done; (case hh => exact rfl); (case F => exact FF); (case N => exact NN); (case hr => exact RR); (case hsm => exact sm_small (by omega)))
            case h0 =>
              exact JD.init rfl rfl rfl rfl rfl rfl rfl rfl hJ'
            case turn =>
              rintro i t I it h tk m₁ news₁ hi ⟨t1, t2, tm, tb, dv, u, acc, R, rfl, rfl, hJ, hA, hD⟩ F₁ N₁ hoff hc
              try dsimp only
              unfold fr8 at F₁
              have hin : min i n = i := by omega
              rw [hin] at F₁
              generalize hdq : dq b B i = d at F₁
              generalize hsq : sq b i = q at F₁
              cases acc with
              | none =>
                have hD' : dv = .none := hD
                subst hD'
                cases b with
                | true =>
                  k_steps
                  · rename Fr _ _ _ _ => F₂
                    rename News _ _ _ _ => N₂
                    have hlt : i < n := by omega
                    have e := hA.brac hlt
                    rw [hdq, hsq] at e
                    simp only [tooDeep, ‹60 ≤ d›, if_true, if_false, Option.none_or, Option.some_or] at e
                    exact TurnD1 F₂ N₂ (by assumption) hoff (JD.next rfl rfl rfl rfl rfl rfl rfl rfl (dn_t hlt hdq) (sn_t hlt hsq) hJ Sub.cons e ⟨_, _, _, rfl, .head _⟩)
                  · rename Fr _ _ _ _ => F₂
                    rename News _ _ _ _ => N₂
                    have hlt : i = n := by omega
                    have e := hA.last' hlt
                    rw [hdq, hsq] at e
                    simp only [tooDeep, ‹60 ≤ d›, if_true, if_false, Option.none_or, Option.some_or] at e
                    exact TurnD1 F₂ N₂ (by assumption) hoff (JD.next rfl rfl rfl rfl rfl rfl rfl rfl (dn_l hlt hdq) (sn_l hlt hsq) hJ Sub.cons e ⟨_, _, _, rfl, .head _⟩)
                  · rename Fr _ _ _ _ => F₂
                    rename News _ _ _ _ => N₂
                    have hlt : i < n := by omega
                    have e := hA.brac hlt
                    rw [hdq, hsq] at e
                    simp only [tooDeep, ‹¬60 ≤ d›, ‹60 ≤ d + 1›, if_true, if_false, Option.none_or, Option.some_or] at e
                    exact TurnD1 F₂ N₂ (by assumption) hoff (JD.next rfl rfl rfl rfl rfl rfl rfl rfl (dn_t hlt hdq) (sn_t hlt hsq) hJ Sub.cons e ⟨_, _, _, rfl, .head _⟩)
                  · rename Fr _ _ _ _ => F₂
                    rename News _ _ _ _ => N₂
                    have hlt : i < n := by omega
                    have e := hA.brac hlt
                    rw [hdq, hsq] at e
                    simp only [tooDeep, ‹¬60 ≤ d›, ‹¬60 ≤ d + 1›, if_true, if_false, Option.none_or, Option.some_or] at e
                    exact TurnD0 F₂ N₂ hoff (JD.next rfl rfl rfl rfl rfl rfl rfl rfl (dn_t hlt hdq) (sn_t hlt hsq) hJ Sub.refl e rfl)
                  · rename Fr _ _ _ _ => F₂
                    rename News _ _ _ _ => N₂
                    have hlt : i = n := by omega
                    have e := hA.last' hlt
                    rw [hdq, hsq] at e
                    simp only [tooDeep, ‹¬60 ≤ d›, if_true, if_false, Option.none_or, Option.some_or] at e
                    exact TurnD0 F₂ N₂ hoff (JD.next rfl rfl rfl rfl rfl rfl rfl rfl (dn_l hlt hdq) (sn_l hlt hsq) hJ Sub.refl e rfl)
                | false =>
                  k_steps
                  · rename Fr _ _ _ _ => F₂
                    rename News _ _ _ _ => N₂
                    have hlt : i < n := by omega
                    have e := hA.bare hlt
                    rw [hdq, hsq] at e
                    simp only [tooDeep, ‹60 ≤ d›, if_true, if_false, Option.none_or, Option.some_or] at e
                    exact TurnD1 F₂ N₂ (by assumption) hoff (JD.next rfl rfl rfl rfl rfl rfl rfl rfl (dn_f hlt hdq) (sn_f hlt hsq) hJ Sub.cons e ⟨_, _, _, rfl, .head _⟩)
                  · rename Fr _ _ _ _ => F₂
                    rename News _ _ _ _ => N₂
                    have hlt : i = n := by omega
                    have e := hA.last' hlt
                    rw [hdq, hsq] at e
                    simp only [tooDeep, ‹60 ≤ d›, if_true, if_false, Option.none_or, Option.some_or] at e
                    exact TurnD1 F₂ N₂ (by assumption) hoff (JD.next rfl rfl rfl rfl rfl rfl rfl rfl (dn_l hlt hdq) (sn_l hlt hsq) hJ Sub.cons e ⟨_, _, _, rfl, .head _⟩)
                  · rename Fr _ _ _ _ => F₂
                    rename News _ _ _ _ => N₂
                    have hlt : i < n := by omega
                    have e := hA.bare hlt
                    rw [hdq, hsq] at e
                    simp only [tooDeep, ‹¬60 ≤ d›, if_true, if_false, Option.none_or, Option.some_or] at e
                    exact TurnD0 F₂ N₂ hoff (JD.next rfl rfl rfl rfl rfl rfl rfl rfl (dn_f hlt hdq) (sn_f hlt hsq) hJ Sub.refl e rfl)
                  · rename Fr _ _ _ _ => F₂
                    rename News _ _ _ _ => N₂
                    have hlt : i = n := by omega
                    have e := hA.last' hlt
                    rw [hdq, hsq] at e
                    simp only [tooDeep, ‹¬60 ≤ d›, if_true, if_false, Option.none_or, Option.some_or] at e
                    exact TurnD0 F₂ N₂ hoff (JD.next rfl rfl rfl rfl rfl rfl rfl rfl (dn_l hlt hdq) (sn_l hlt hsq) hJ Sub.refl e rfl)
              | some a =>
                have hD0 := hD
                obtain ⟨y, ta, tb', rfl, hy⟩ := hD0
                cases b with
                | true =>
                  k_steps
                  · rename Fr _ _ _ _ => F₂
                    rename News _ _ _ _ => N₂
                    have hlt : i < n := by omega
                    have e := hA.brac hlt
                    rw [hdq, hsq] at e
                    simp only [Option.some_or] at e
                    exact TurnD0 F₂ N₂ hoff (JD.next rfl rfl rfl rfl rfl rfl rfl rfl (dn_t hlt hdq) (sn_t hlt hsq) hJ Sub.refl e hD)
                  · rename Fr _ _ _ _ => F₂
                    rename News _ _ _ _ => N₂
                    have hlt : i = n := by omega
                    have e := hA.last' hlt
                    rw [hdq, hsq] at e
                    simp only [Option.some_or] at e
                    exact TurnD0 F₂ N₂ hoff (JD.next rfl rfl rfl rfl rfl rfl rfl rfl (dn_l hlt hdq) (sn_l hlt hsq) hJ Sub.refl e hD)
                | false =>
                  k_steps
                  · rename Fr _ _ _ _ => F₂
                    rename News _ _ _ _ => N₂
                    have hlt : i < n := by omega
                    have e := hA.bare hlt
                    rw [hdq, hsq] at e
                    simp only [Option.some_or] at e
                    exact TurnD0 F₂ N₂ hoff (JD.next rfl rfl rfl rfl rfl rfl rfl rfl (dn_f hlt hdq) (sn_f hlt hsq) hJ Sub.refl e hD)
                  · rename Fr _ _ _ _ => F₂
                    rename News _ _ _ _ => N₂
                    have hlt : i = n := by omega
                    have e := hA.last' hlt
                    rw [hdq, hsq] at e
                    simp only [Option.some_or] at e
                    exact TurnD0 F₂ N₂ hoff (JD.next rfl rfl rfl rfl rfl rfl rfl rfl (dn_l hlt hdq) (sn_l hlt hsq) hJ Sub.refl e hD)
            case done =>
              clear FF NN RR hJ'
              rintro h tk m₁ news₁ ⟨t1, t2, tm, tb, dv, u, acc, R, rfl, rfl, hJ, hA, hD⟩ F₁ N₁
              unfold AccOk at hA
              rw [if_neg (by omega)] at hA
              subst hA
              try dsimp only
              unfold fr8 at F₁
              have hyl : ys.length ≤ 1000 := by
                rw [hJ.2.1, Ew_len]
                cases b <;> simp only [c1, c2, List.length_cons, List.length_nil] <;> omega
              obtain ⟨l0, hl0⟩ := Ew_cons b n
              have hst := strm_of hJ
              rw [hl0] at hst
              k_steps
              show wpAny _ _ _ _ _ _
              k_here
              k_dflt (refine' Spec.use (mk_parser ?hR ?hT ?hne ?hst ?sz) ?B ?F ?X ?N ?T ?hk0 ?hs ?hd ?hu ?_; (case B => k_asm); (case F => k_asm); (case X => k_asm); (case N => k_asm); (case T => k_asm); (case hk0 => first | exact rfl | assumption))
              case hs => exact swap_row
              case hR => exact .head _
              case hT => exact ⟨_, .tail _ (.head _)⟩
              case hne => exact ne_row (by assumption) (by assumption)
              case hst => exact Strm.sub (Sub.trans Sub.cons Sub.cons) (by assumption)
              case sz => assumption
              case hd => ktr_room
              case hu => ktr_units
              k_whole
              intro r9 n9 h9 tk9 F9 N9 p9
              obtain ⟨P, dP, AH, ks, rs, tok, ta, td, tp, R', hr9, hn9, hsP, W9, ht9, hst9⟩ := p9
              subst hr9
              subst hn9
              have W9' := W9
              obtain ⟨hP9, hR9, ⟨nT9, hT9⟩, ⟨nA9, hA9⟩, hne9, oP9, oR9, sz9⟩ := W9'
              (try k_sweep)
              (try dsimp only)
              (try k_fold)
              k_steps
              show wpAny _ _ _ _ _ _
              k_here
              k_dflt (refine' Op.use (op_law hn hl0) ?W ?ht ?hst ?B ?F ?X ?N ?T ?hk0 ?hs ?hd ?hu (fun r9 tok9 ta9 td9 tp9 R9 h9 tk9 hb9 hv9 hs9 W9 ht9 hst9 F9 N9 => ?ret) (fun e9 a9 h9 tk9 g9 hb9 Fg9 U9 Th9 => ?err); (case N => k_asm); (case hs => exact fun _ h => h); (case B => k_asm); (case F => k_asm); (case X => k_asm); (case T => k_asm); (case hk0 => first | exact rfl | assumption); (case W => assumption); (case ht => assumption); (case hst => assumption); (case hd => ktr_room); (case hu => ktr_units))
              case ret =>
                rw [hb9] at hD
                have hdv : dv = .none := hD
                subst hdv
                (try k_sweep)
                (try dsimp only)
                (try k_fold)
                cases b with
                | true =>
                  have hvl' : vs.length = 1 + 6 * n := by
                    rw [hvs.length, Ew_len]
                    simp only [c1, c2, List.length_cons, List.length_nil]
                    omega
                  k_steps
                  rename Fr _ _ _ _ => FF
                  rename News _ _ _ _ => NN
                  rename IsRange _ _ _ _ _ _ _ _ => RR
                  obtain ⟨N0, NN0, hsub0, hwl0⟩ : ∃ N0 : Led, News _ _ _ N0 ∧ Sub R9 N0 ∧ (wl, listOf vs.toArray k) ∈ N0 := ⟨_, NN, fun q hq => .tail _ (.tail _ hq), .tail _ (.tail _ (hs9 _ (hsP _ (.tail _ (.tail _ hJ.1)))))⟩
                  clear NN
                  k_here
                  k_dflt (refine' rng_turns (n := n) (JF true 3 n wl N0 R9) ?hh ?F ?N ?hr ?hsm ?h0 ?turn ?done; (case hh => exact rfl); (case F => exact FF); (case N => exact NN0); (case hr => exact RR); (case hsm => exact sm_small (by omega)))
                  case h0 => exact ⟨_, _, _, _, cleanF rfl rfl rfl rfl, rfl, hv9⟩
                  case turn =>
                    rintro i t I it h tk m₁ news₁ hi ⟨v, tw, tm', u', rfl, rfl, hT⟩ F₁ N₁ hoff hc
                    clear FF NN0 RR
                    obtain ⟨y, y1, y3, s1, s2, s3, s4, s5, s6, s7, s8, v2, rfl, hm0, hm1, hm3, hv2⟩ := lvl_t hsub0 hi hvl' hT
                    try dsimp only
                    unfold frF at F₁
                    k_steps
                    · exact absurd rfl ‹3 * (i : Int) + 1 ≠ 3 * (i : Int) + 1›
                    · rename Fr _ _ _ _ => F₂
                      rename News _ _ _ _ => N₂
                      exact ⟨_, _, _, _, rfl, F₂, News.of N₂ (by intro q hq; repeat (first | exact hq | refine List.Mem.tail _ ?_)), hoff, v2, tw, tm', _, cleanF rfl rfl rfl rfl, rfl, hv2⟩
                  case done =>
                    rintro h tk m₁ news₁ ⟨v, tw, tm', u', rfl, rfl, hT⟩ F₁ N₁
                    clear FF NN0 RR
                    obtain ⟨y, s1, s2, s3, rfl, hm0⟩ := lvl_end (k := 3) hsub0 (by simp only [sq]; omega) hT
                    try dsimp only
                    unfold frF at F₁
                    k_steps
                | false =>
                  have hvl' : vs.length = 1 + 4 * n := by
                    rw [hvs.length, Ew_len]
                    simp only [c1, c2, List.length_cons, List.length_nil]
                    omega
                  k_steps
                  rename Fr _ _ _ _ => FF
                  rename News _ _ _ _ => NN
                  rename IsRange _ _ _ _ _ _ _ _ => RR
                  obtain ⟨N0, NN0, hsub0, hwl0⟩ : ∃ N0 : Led, News _ _ _ N0 ∧ Sub R9 N0 ∧ (wl, listOf vs.toArray k) ∈ N0 := ⟨_, NN, fun q hq => .tail _ (.tail _ hq), .tail _ (.tail _ (hs9 _ (hsP _ (.tail _ (.tail _ hJ.1)))))⟩
                  clear NN
                  k_here
                  k_dflt (refine' rng_turns (n := n) (JF false 2 n wl N0 R9) ?hh ?F ?N ?hr ?hsm ?h0 ?turn ?done; (case hh => exact rfl); (case F => exact FF); (case N => exact NN0); (case hr => exact RR); (case hsm => exact sm_small (by omega)))
                  case h0 => exact ⟨_, _, _, _, cleanF rfl rfl rfl rfl, rfl, hv9⟩
                  case turn =>
                    rintro i t I it h tk m₁ news₁ hi ⟨v, tw, tm', u', rfl, rfl, hT⟩ F₁ N₁ hoff hc
                    clear FF NN0 RR
                    obtain ⟨y, y1, y3, s1, s2, s3, s4, s5, s6, s7, s8, v2, rfl, hm0, hm1, hm3, hv2⟩ := lvl_f hsub0 hi hvl' hT
                    try dsimp only
                    unfold frF at F₁
                    k_steps
                    · exact absurd rfl ‹2 * (i : Int) + 1 ≠ 2 * (i : Int) + 1›
                    · rename Fr _ _ _ _ => F₂
                      rename News _ _ _ _ => N₂
                      exact ⟨_, _, _, _, rfl, F₂, News.of N₂ (by intro q hq; repeat (first | exact hq | refine List.Mem.tail _ ?_)), hoff, v2, tw, tm', _, cleanF rfl rfl rfl rfl, rfl, hv2⟩
                  case done =>
                    rintro h tk m₁ news₁ ⟨v, tw, tm', u', rfl, rfl, hT⟩ F₁ N₁
                    clear FF NN0 RR
                    obtain ⟨y, s1, s2, s3, rfl, hm0⟩ := lvl_end (k := 2) hsub0 (by simp only [sq]; omega) hT
                    try dsimp only
                    unfold frF at F₁
                    k_steps
              case err =>
                (try dsimp only)
                rw [hb9] at hD
                obtain ⟨y, ty1, ty2, rfl, hy⟩ := hD
                have hy' := hsP _ (.tail _ (.tail _ hy))
                refine' caught_err ?bel Fg9 Th9 U9 ?hX ?hT ?hex ?kont
                case bel => k_asm
                case hX => k_asm
                case hT => first | exact topRead_of (by k_asm) | k_asm
                case hex => k_is
                case kont =>
                  intro h' de oe De tk' vs' F' N' hc' hdi' hda' hD'
                  obtain ⟨k0, k1, k2, tz1, tz2, tz3, rfl⟩ := hD'
                  (try k_sweep)
                  (try dsimp only)
                  k_steps)
end
end
end
end Mine
theorem PySem.Challenge.cw_rg0148_01_holds : PySem.Challenge.rw_rg0148_01.Holds :=
  Mine.law_walk
