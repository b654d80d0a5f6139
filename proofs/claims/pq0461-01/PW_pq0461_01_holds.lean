import PyProof.Rows.All
import Wide.All
import OpenK.AllK
import Wide.FinOn
import Lean
import PySem.Challenge.RW_pq0461_01
open PySem PySem.W PyProof.Rows
set_option Elab.async false
set_option maxRecDepth 100000
set_option maxHeartbeats 0
set_option compiler.extract_closed false
namespace Mine
local macro_rules | `(tactic| walk_at "mine lt") => `(tactic| (try ((rename AllLt _ _ => l9); simp only [AllLt, and_true] at l9)))
local macro_rules | `(tactic| walk_at "mine end") => `(tactic| ((try dsimp only); (try k_fold)))
noncomputable def nth : List Stmt → Nat → Stmt
  | [], _ => .Pass ⟨0, 0, 0, 0⟩
  | x :: _, 0 => x
  | _ :: r, n + 1 => nth r n
noncomputable def fA : Stmt → Arguments
  | .FunctionDef _ a _ _ _ _ _ _ _ _ => a
  | _ => ⟨[], [], none, [], [], none, []⟩
noncomputable def fB : Stmt → List Stmt
  | .FunctionDef _ _ b _ _ _ _ _ _ _ => b
  | _ => []
noncomputable def fS : Stmt → PySem.Scope
  | .FunctionDef _ _ _ _ _ _ s _ _ _ => s
  | _ => ⟨.function, [], false, false, []⟩
noncomputable def cB : Stmt → List Stmt
  | .ClassDef _ _ _ b _ _ _ _ _ _ _ => b
  | _ => []
noncomputable def st (i : Nat) : Stmt := nth PySem.Challenge.pw_pq0461_01.main.body i
noncomputable def hp : Params → Frag := by
  refine' (?f : ∀ (a0 : Arguments) (b0 : List Stmt) (s0 : PySem.Scope) (a1 : Arguments) (b1 : List Stmt) (s1 : PySem.Scope) (a2 : Arguments) (b2 : List Stmt) (s2 : PySem.Scope) (a3 : Arguments) (b3 : List Stmt) (s3 : PySem.Scope) (a4 : Arguments) (b4 : List Stmt) (s4 : PySem.Scope) (a5 : Arguments) (b5 : List Stmt) (s5 : PySem.Scope) (a6 : Arguments) (b6 : List Stmt) (s6 : PySem.Scope) (a7 : Arguments) (b7 : List Stmt) (s7 : PySem.Scope) (a8 : Arguments) (b8 : List Stmt) (s8 : PySem.Scope) (a9 : Arguments) (b9 : List Stmt) (s9 : PySem.Scope) (a10 : Arguments) (b10 : List Stmt) (s10 : PySem.Scope) (a11 : Arguments) (b11 : List Stmt) (s11 : PySem.Scope) (a12 : Arguments) (b12 : List Stmt) (s12 : PySem.Scope) (a13 : Arguments) (b13 : List Stmt) (s13 : PySem.Scope) (a14 : Arguments) (b14 : List Stmt) (s14 : PySem.Scope) (a15 : Arguments) (b15 : List Stmt) (s15 : PySem.Scope) (a16 : Arguments) (b16 : List Stmt) (s16 : PySem.Scope) (a17 : Arguments) (b17 : List Stmt) (s17 : PySem.Scope) (a18 : Arguments) (b18 : List Stmt) (s18 : PySem.Scope) (a19 : Arguments) (b19 : List Stmt) (s19 : PySem.Scope) (a20 : Arguments) (b20 : List Stmt) (s20 : PySem.Scope) (a21 : Arguments) (b21 : List Stmt) (s21 : PySem.Scope) (a22 : Arguments) (b22 : List Stmt) (s22 : PySem.Scope) (a23 : Arguments) (b23 : List Stmt) (s23 : PySem.Scope) (a24 : Arguments) (b24 : List Stmt) (s24 : PySem.Scope) (a25 : Arguments) (b25 : List Stmt) (s25 : PySem.Scope) (a26 : Arguments) (b26 : List Stmt) (s26 : PySem.Scope) (a27 : Arguments) (b27 : List Stmt) (s27 : PySem.Scope) (a28 : Arguments) (b28 : List Stmt) (s28 : PySem.Scope) (a29 : Arguments) (b29 : List Stmt) (s29 : PySem.Scope) (a30 : Arguments) (b30 : List Stmt) (s30 : PySem.Scope) (a31 : Arguments) (b31 : List Stmt) (s31 : PySem.Scope) (a32 : Arguments) (b32 : List Stmt) (s32 : PySem.Scope) (a33 : Arguments) (b33 : List Stmt) (s33 : PySem.Scope) (a34 : Arguments) (b34 : List Stmt) (s34 : PySem.Scope) (a35 : Arguments) (b35 : List Stmt) (s35 : PySem.Scope) (a36 : Arguments) (b36 : List Stmt) (s36 : PySem.Scope) (a37 : Arguments) (b37 : List Stmt) (s37 : PySem.Scope) (a38 : Arguments) (b38 : List Stmt) (s38 : PySem.Scope) (a39 : Arguments) (b39 : List Stmt) (s39 : PySem.Scope) (a40 : Arguments) (b40 : List Stmt) (s40 : PySem.Scope) (a41 : Arguments) (b41 : List Stmt) (s41 : PySem.Scope), (fA (st 0) = a0 ∧ fB (st 0) = b0 ∧ fS (st 0) = s0 ∧ fA (nth (cB (st 2)) 0) = a1 ∧ fB (nth (cB (st 2)) 0) = b1 ∧ fS (nth (cB (st 2)) 0) = s1 ∧ fA (st 5) = a2 ∧ fB (st 5) = b2 ∧ fS (st 5) = s2 ∧ fA (st 6) = a3 ∧ fB (st 6) = b3 ∧ fS (st 6) = s3 ∧ fA (st 7) = a4 ∧ fB (st 7) = b4 ∧ fS (st 7) = s4 ∧ fA (st 8) = a5 ∧ fB (st 8) = b5 ∧ fS (st 8) = s5 ∧ fA (st 9) = a6 ∧ fB (st 9) = b6 ∧ fS (st 9) = s6 ∧ fA (st 11) = a7 ∧ fB (st 11) = b7 ∧ fS (st 11) = s7 ∧ fA (st 12) = a8 ∧ fB (st 12) = b8 ∧ fS (st 12) = s8 ∧ fA (st 13) = a9 ∧ fB (st 13) = b9 ∧ fS (st 13) = s9 ∧ fA (st 14) = a10 ∧ fB (st 14) = b10 ∧ fS (st 14) = s10 ∧ fA (st 15) = a11 ∧ fB (st 15) = b11 ∧ fS (st 15) = s11 ∧ fA (st 16) = a12 ∧ fB (st 16) = b12 ∧ fS (st 16) = s12 ∧ fA (nth (cB (st 18)) 0) = a13 ∧ fB (nth (cB (st 18)) 0) = b13 ∧ fS (nth (cB (st 18)) 0) = s13 ∧ fA (nth (cB (st 18)) 1) = a14 ∧ fB (nth (cB (st 18)) 1) = b14 ∧ fS (nth (cB (st 18)) 1) = s14 ∧ fA (nth (cB (st 18)) 2) = a15 ∧ fB (nth (cB (st 18)) 2) = b15 ∧ fS (nth (cB (st 18)) 2) = s15 ∧ fA (nth (cB (st 18)) 3) = a16 ∧ fB (nth (cB (st 18)) 3) = b16 ∧ fS (nth (cB (st 18)) 3) = s16 ∧ fA (nth (cB (st 18)) 4) = a17 ∧ fB (nth (cB (st 18)) 4) = b17 ∧ fS (nth (cB (st 18)) 4) = s17 ∧ fA (nth (cB (st 18)) 5) = a18 ∧ fB (nth (cB (st 18)) 5) = b18 ∧ fS (nth (cB (st 18)) 5) = s18 ∧ fA (nth (cB (st 19)) 0) = a19 ∧ fB (nth (cB (st 19)) 0) = b19 ∧ fS (nth (cB (st 19)) 0) = s19 ∧ fA (nth (cB (st 19)) 1) = a20 ∧ fB (nth (cB (st 19)) 1) = b20 ∧ fS (nth (cB (st 19)) 1) = s20 ∧ fA (nth (cB (st 19)) 2) = a21 ∧ fB (nth (cB (st 19)) 2) = b21 ∧ fS (nth (cB (st 19)) 2) = s21 ∧ fA (nth (cB (st 19)) 3) = a22 ∧ fB (nth (cB (st 19)) 3) = b22 ∧ fS (nth (cB (st 19)) 3) = s22 ∧ fA (nth (cB (st 19)) 4) = a23 ∧ fB (nth (cB (st 19)) 4) = b23 ∧ fS (nth (cB (st 19)) 4) = s23 ∧ fA (nth (cB (st 19)) 5) = a24 ∧ fB (nth (cB (st 19)) 5) = b24 ∧ fS (nth (cB (st 19)) 5) = s24 ∧ fA (nth (cB (st 19)) 6) = a25 ∧ fB (nth (cB (st 19)) 6) = b25 ∧ fS (nth (cB (st 19)) 6) = s25 ∧ fA (nth (cB (st 21)) 0) = a26 ∧ fB (nth (cB (st 21)) 0) = b26 ∧ fS (nth (cB (st 21)) 0) = s26 ∧ fA (nth (cB (st 21)) 1) = a27 ∧ fB (nth (cB (st 21)) 1) = b27 ∧ fS (nth (cB (st 21)) 1) = s27 ∧ fA (nth (cB (st 21)) 2) = a28 ∧ fB (nth (cB (st 21)) 2) = b28 ∧ fS (nth (cB (st 21)) 2) = s28 ∧ fA (nth (cB (st 21)) 3) = a29 ∧ fB (nth (cB (st 21)) 3) = b29 ∧ fS (nth (cB (st 21)) 3) = s29 ∧ fA (nth (cB (st 21)) 4) = a30 ∧ fB (nth (cB (st 21)) 4) = b30 ∧ fS (nth (cB (st 21)) 4) = s30 ∧ fA (nth (cB (st 21)) 5) = a31 ∧ fB (nth (cB (st 21)) 5) = b31 ∧ fS (nth (cB (st 21)) 5) = s31 ∧ fA (nth (cB (st 21)) 6) = a32 ∧ fB (nth (cB (st 21)) 6) = b32 ∧ fS (nth (cB (st 21)) 6) = s32 ∧ fA (nth (cB (st 21)) 7) = a33 ∧ fB (nth (cB (st 21)) 7) = b33 ∧ fS (nth (cB (st 21)) 7) = s33 ∧ fA (nth (cB (st 21)) 8) = a34 ∧ fB (nth (cB (st 21)) 8) = b34 ∧ fS (nth (cB (st 21)) 8) = s34 ∧ fA (st 23) = a35 ∧ fB (st 23) = b35 ∧ fS (st 23) = s35 ∧ fA (st 24) = a36 ∧ fB (st 24) = b36 ∧ fS (st 24) = s36 ∧ fA (st 25) = a37 ∧ fB (st 25) = b37 ∧ fS (st 25) = s37 ∧ fA (st 26) = a38 ∧ fB (st 26) = b38 ∧ fS (st 26) = s38 ∧ fA (st 27) = a39 ∧ fB (st 27) = b39 ∧ fS (st 27) = s39 ∧ fA (st 28) = a40 ∧ fB (st 28) = b40 ∧ fS (st 28) = s40 ∧ fA (st 29) = a41 ∧ fB (st 29) = b41 ∧ fS (st 29) = s41) → Params → List (Nat × PySem.Obj)) _ _ _ _ _ _ _ _ _ _ _ _ _ _ _ _ _ _ _ _ _ _ _ _ _ _ _ _ _ _ _ _ _ _ _ _ _ _ _ _ _ _ _ _ _ _ _ _ _ _ _ _ _ _ _ _ _ _ _ _ _ _ _ _ _ _ _ _ _ _ _ _ _ _ _ _ _ _ _ _ _ _ _ _ _ _ _ _ _ _ _ _ _ _ _ _ _ _ _ _ _ _ _ _ _ _ _ _ _ _ _ _ _ _ _ _ _ _ _ _ _ _ _ _ _ _ ?hE
  case hE => (refine ⟨
    ?_, ?_, ?_, ?_, ?_, ?_, ?_, ?_, ?_, ?_, ?_, ?_, ?_, ?_, ?_, ?_, ?_, ?_, ?_, ?_, ?_, ?_, ?_, ?_, ?_, ?_, ?_, ?_, ?_, ?_, ?_, ?_, ?_, ?_, ?_, ?_, ?_, ?_, ?_, ?_, ?_, ?_, ?_, ?_, ?_, ?_, ?_, ?_, ?_, ?_, ?_, ?_, ?_, ?_, ?_, ?_, ?_, ?_, ?_, ?_, ?_, ?_, ?_, ?_, ?_, ?_, ?_, ?_, ?_, ?_, ?_, ?_, ?_, ?_, ?_, ?_, ?_, ?_, ?_, ?_, ?_, ?_, ?_, ?_, ?_, ?_, ?_, ?_, ?_, ?_, ?_, ?_, ?_, ?_, ?_, ?_, ?_, ?_, ?_, ?_, ?_, ?_, ?_, ?_, ?_, ?_, ?_, ?_, ?_, ?_, ?_, ?_, ?_, ?_, ?_, ?_, ?_, ?_, ?_, ?_, ?_, ?_, ?_, ?_, ?_, ?_⟩ <;> ((conv => lhs; whnf; (try dsimp +zeta +zetaHave only)); try exact rfl))
  case f => exact fun a0 b0 s0 a1 b1 s1 a2 b2 s2 a3 b3 s3 a4 b4 s4 a5 b5 s5 a6 b6 s6 a7 b7 s7 a8 b8 s8 a9 b9 s9 a10 b10 s10 a11 b11 s11 a12 b12 s12 a13 b13 s13 a14 b14 s14 a15 b15 s15 a16 b16 s16 a17 b17 s17 a18 b18 s18 a19 b19 s19 a20 b20 s20 a21 b21 s21 a22 b22 s22 a23 b23 s23 a24 b24 s24 a25 b25 s25 a26 b26 s26 a27 b27 s27 a28 b28 s28 a29 b29 s29 a30 b30 s30 a31 b31 s31 a32 b32 s32 a33 b33 s33 a34 b34 s34 a35 b35 s35 a36 b36 s36 a37 b37 s37 a38 b38 s38 a39 b39 s39 a40 b40 s40 a41 b41 s41 _ P => 
    List.cons (nat_lit 2, (PySem.Obj.mk PySem.Value.none (none : Option Nat) (PySem.Data.dict #[(PySem.DictEntry.mk (PySem.PyData.keyHash P (.ofString "type.__subclasses__.Exception.0")) (PySem.Value.str (.ofString "type.__subclasses__.Exception.0") (228 : Nat)) (PySem.Value.int 39 (0 : Nat))), (PySem.DictEntry.mk (PySem.PyData.keyHash P (.ofString "type.__subclasses__.Exception.n")) (PySem.Value.str (.ofString "type.__subclasses__.Exception.n") (229 : Nat)) (PySem.Value.int 1 (0 : Nat)))] (2 : Nat)) #[])) (
    List.cons (nat_lit 3, (PySem.Obj.mk (PySem.Value.type "dict") (none : Option Nat) (PySem.Data.dict (List.toArray (List.cons (PySem.DictEntry.mk (PySem.PyData.keyHash P (.ofString "__name__")) (PySem.Value.str (.ofString "__name__") (165 : Nat)) (PySem.Value.str (.ofString "law_pq0461_01") (655 : Nat))) (List.cons (PySem.DictEntry.mk (PySem.PyData.keyHash P (.ofString "__doc__")) (PySem.Value.str (.ofString "__doc__") (166 : Nat)) PySem.Value.none) (List.cons (PySem.DictEntry.mk (PySem.PyData.keyHash P (.ofString "__package__")) (PySem.Value.str (.ofString "__package__") (167 : Nat)) PySem.Value.none) (List.cons (PySem.DictEntry.mk (PySem.PyData.keyHash P (.ofString "__loader__")) (PySem.Value.str (.ofString "__loader__") (168 : Nat)) (PySem.Value.builtin "__main__.__loader__#opaque")) (List.cons (PySem.DictEntry.mk (PySem.PyData.keyHash P (.ofString "__spec__")) (PySem.Value.str (.ofString "__spec__") (169 : Nat)) PySem.Value.none) (List.cons (PySem.DictEntry.mk (PySem.PyData.keyHash P (.ofString "__annotations__")) (PySem.Value.str (.ofString "__annotations__") (170 : Nat)) (PySem.Value.ref (6 : Nat))) (List.cons (PySem.DictEntry.mk (PySem.PyData.keyHash P (.ofString "__builtins__")) (PySem.Value.str (.ofString "__builtins__") (171 : Nat)) (PySem.Value.ref (4 : Nat))) (List.cons (PySem.DictEntry.mk (PySem.PyData.keyHash P (.ofString "__file__")) (PySem.Value.str (.ofString "__file__") (173 : Nat)) (PySem.Value.str (.ofString "/claim/cut.py") (172 : Nat))) (List.cons (PySem.DictEntry.mk (PySem.PyData.keyHash P (.ofString "__cached__")) (PySem.Value.str (.ofString "__cached__") (174 : Nat)) PySem.Value.none) (List.cons (PySem.DictEntry.mk (PySem.PyData.keyHash P (.ofString "_wall")) (PySem.Value.str (.ofString "_wall") (193 : Nat)) (PySem.Value.ref (21 : Nat))) (List.cons (PySem.DictEntry.mk (PySem.PyData.keyHash P (.ofString "GateloomError")) (PySem.Value.str (.ofString "GateloomError") (231 : Nat)) (PySem.Value.ref (39 : Nat))) (List.cons (PySem.DictEntry.mk (PySem.PyData.keyHash P (.ofString "DesignError")) (PySem.Value.str (.ofString "DesignError") (247 : Nat)) (PySem.Value.ref (52 : Nat))) (List.cons (PySem.DictEntry.mk (PySem.PyData.keyHash P (.ofString "mask")) (PySem.Value.str (.ofString "mask") (256 : Nat)) (PySem.Value.ref (61 : Nat))) (List.cons (PySem.DictEntry.mk (PySem.PyData.keyHash P (.ofString "vec")) (PySem.Value.str (.ofString "vec") (267 : Nat)) (PySem.Value.ref (69 : Nat))) (List.cons (PySem.DictEntry.mk (PySem.PyData.keyHash P (.ofString "from_int")) (PySem.Value.str (.ofString "from_int") (275 : Nat)) (PySem.Value.ref (76 : Nat))) (List.cons (PySem.DictEntry.mk (PySem.PyData.keyHash P (.ofString "code")) (PySem.Value.str (.ofString "code") (283 : Nat)) (PySem.Value.ref (83 : Nat))) (List.cons (PySem.DictEntry.mk (PySem.PyData.keyHash P (.ofString "extend")) (PySem.Value.str (.ofString "extend") (296 : Nat)) (PySem.Value.ref (90 : Nat))) (List.cons (PySem.DictEntry.mk (PySem.PyData.keyHash P (.ofString "last_select")) (PySem.Value.str (.ofString "last_select") (307 : Nat)) (PySem.Value.ref (97 : Nat))) (List.cons (PySem.DictEntry.mk (PySem.PyData.keyHash P (.ofString "is_memory")) (PySem.Value.str (.ofString "is_memory") (315 : Nat)) (PySem.Value.ref (104 : Nat))) (List.cons (PySem.DictEntry.mk (PySem.PyData.keyHash P (.ofString "shape")) (PySem.Value.str (.ofString "shape") (325 : Nat)) (PySem.Value.ref (111 : Nat))) (List.cons (PySem.DictEntry.mk (PySem.PyData.keyHash P (.ofString "read_entry")) (PySem.Value.str (.ofString "read_entry") (335 : Nat)) (PySem.Value.ref (118 : Nat))) (List.cons (PySem.DictEntry.mk (PySem.PyData.keyHash P (.ofString "text_vec")) (PySem.Value.str (.ofString "text_vec") (344 : Nat)) (PySem.Value.ref (125 : Nat))) (List.cons (PySem.DictEntry.mk (PySem.PyData.keyHash P (.ofString "number_value")) (PySem.Value.str (.ofString "number_value") (355 : Nat)) (PySem.Value.ref (132 : Nat))) (List.cons (PySem.DictEntry.mk (PySem.PyData.keyHash P (.ofString "Signal")) (PySem.Value.str (.ofString "Signal") (442 : Nat)) (PySem.Value.ref (184 : Nat))) (List.cons (PySem.DictEntry.mk (PySem.PyData.keyHash P (.ofString "Design")) (PySem.Value.str (.ofString "Design") (543 : Nat)) (PySem.Value.ref (247 : Nat))) (List.cons (PySem.DictEntry.mk (PySem.PyData.keyHash P (.ofString "Scope")) (PySem.Value.str (.ofString "Scope") (654 : Nat)) (PySem.Value.ref (324 : Nat))) (List.cons (PySem.DictEntry.mk (PySem.PyData.keyHash P (.ofString "_law_part")) (PySem.Value.str (.ofString "_law_part") (665 : Nat)) (PySem.Value.ref (335 : Nat))) (List.cons (PySem.DictEntry.mk (PySem.PyData.keyHash P (.ofString "_law_bits")) (PySem.Value.str (.ofString "_law_bits") (675 : Nat)) (PySem.Value.ref (342 : Nat))) (List.cons (PySem.DictEntry.mk (PySem.PyData.keyHash P (.ofString "_law_told")) (PySem.Value.str (.ofString "_law_told") (686 : Nat)) (PySem.Value.ref (349 : Nat))) (List.cons (PySem.DictEntry.mk (PySem.PyData.keyHash P (.ofString "_law_text")) (PySem.Value.str (.ofString "_law_text") (695 : Nat)) (PySem.Value.ref (356 : Nat))) (List.cons (PySem.DictEntry.mk (PySem.PyData.keyHash P (.ofString "_law_octets")) (PySem.Value.str (.ofString "_law_octets") (701 : Nat)) (PySem.Value.ref (361 : Nat))) (List.cons (PySem.DictEntry.mk (PySem.PyData.keyHash P (.ofString "_law_literal")) (PySem.Value.str (.ofString "_law_literal") (707 : Nat)) (PySem.Value.ref (366 : Nat))) (List.cons (PySem.DictEntry.mk (PySem.PyData.keyHash P (.ofString "law")) (PySem.Value.str (.ofString "law") (713 : Nat)) (PySem.Value.ref (371 : Nat))) (List.nil))))))))))))))))))))))))))))))))))) (33 : Nat)) #[])) (
    List.cons (nat_lit 15, (PySem.Obj.mk (PySem.Value.type "tuple") (none : Option Nat) (PySem.Data.seq #[] (0 : Nat)) #[])) (
    List.cons (nat_lit 17, (PySem.Obj.mk (PySem.Value.type "tuple") (none : Option Nat) (PySem.Data.seq #[(PySem.Value.str (.ofString "k") (190 : Nat))] (0 : Nat)) #[])) (
    List.cons (nat_lit 18, (PySem.Obj.mk (PySem.Value.type "tuple") (none : Option Nat) (PySem.Data.seq #[] (0 : Nat)) #[])) (
    List.cons (nat_lit 20, (PySem.Obj.mk (PySem.Value.type "code") (none : Option Nat) (PySem.Data.fields (List.toArray (List.cons (PySem.Value.str (.ofString "_wall") (187 : Nat)) (List.cons (PySem.Value.str (.ofString "_wall") (188 : Nat)) (List.cons (PySem.Value.str (.ofString "/claim/cut.py") (189 : Nat)) (List.cons (PySem.Value.int 1 (0 : Nat)) (List.cons (PySem.Value.int 1 (0 : Nat)) (List.cons (PySem.Value.int 0 (0 : Nat)) (List.cons (PySem.Value.int 0 (0 : Nat)) (List.cons (PySem.Value.int 3 (0 : Nat)) (List.cons (PySem.Value.ref (15 : Nat)) (List.cons (PySem.Value.bool Bool.true) (List.cons (PySem.Value.int 181 (0 : Nat)) (List.cons (PySem.Value.ref (16 : Nat)) (List.cons PySem.Value.none (List.cons (PySem.Value.ref (17 : Nat)) (List.cons (PySem.Value.ref (18 : Nat)) (List.cons (PySem.Value.ref (19 : Nat)) (List.cons (PySem.Value.int 191 (0 : Nat)) (List.cons (PySem.Value.int 1 (0 : Nat)) (List.cons (PySem.Value.str (.ofString "/claim/cut.py") (192 : Nat)) (List.nil)))))))))))))))))))))) #[])) (
    List.cons (nat_lit 21, .mk (PySem.Value.type "function") (none : Option Nat) (.func (.mk (.ofString "_wall") (.ofString "_wall") a0 (.stmts b0) s0 (3 : Nat) ([] : List (PySem.Str × Nat)) PySem.Value.none PySem.Value.none PySem.Value.none (PySem.Value.str (.ofString "__main__") (164 : Nat)) (none : Option Nat) (PySem.Value.ref (20 : Nat)) PySem.Value.none (0 : Nat))) #[]) (
    List.cons (nat_lit 22, (PySem.Obj.mk (PySem.Value.type "tuple") (none : Option Nat) (PySem.Data.seq #[(PySem.Value.type "Exception")] (0 : Nat)) #[])) (
    List.cons (nat_lit 29, (PySem.Obj.mk (PySem.Value.type "tuple") (none : Option Nat) (PySem.Data.seq #[(PySem.Value.int (-1) (209 : Nat)), (PySem.Value.str (.ofString "") (210 : Nat))] (0 : Nat)) #[])) (
    List.cons (nat_lit 30, (PySem.Obj.mk (PySem.Value.type "tuple") (none : Option Nat) (PySem.Data.seq #[] (0 : Nat)) #[])) (
    List.cons (nat_lit 32, (PySem.Obj.mk (PySem.Value.type "tuple") (none : Option Nat) (PySem.Data.seq #[(PySem.Value.str (.ofString "self") (214 : Nat)), (PySem.Value.str (.ofString "kind") (215 : Nat)), (PySem.Value.str (.ofString "at") (216 : Nat)), (PySem.Value.str (.ofString "detail") (217 : Nat))] (0 : Nat)) #[])) (
    List.cons (nat_lit 33, (PySem.Obj.mk (PySem.Value.type "tuple") (none : Option Nat) (PySem.Data.seq #[] (0 : Nat)) #[])) (
    List.cons (nat_lit 35, (PySem.Obj.mk (PySem.Value.type "code") (none : Option Nat) (PySem.Data.fields (List.toArray (List.cons (PySem.Value.str (.ofString "__init__") (211 : Nat)) (List.cons (PySem.Value.str (.ofString "GateloomError.__init__") (212 : Nat)) (List.cons (PySem.Value.str (.ofString "/claim/cut.py") (213 : Nat)) (List.cons (PySem.Value.int 7 (0 : Nat)) (List.cons (PySem.Value.int 4 (0 : Nat)) (List.cons (PySem.Value.int 0 (0 : Nat)) (List.cons (PySem.Value.int 0 (0 : Nat)) (List.cons (PySem.Value.int 3 (0 : Nat)) (List.cons (PySem.Value.ref (30 : Nat)) (List.cons (PySem.Value.bool Bool.true) (List.cons (PySem.Value.int 181 (0 : Nat)) (List.cons (PySem.Value.ref (31 : Nat)) (List.cons PySem.Value.none (List.cons (PySem.Value.ref (32 : Nat)) (List.cons (PySem.Value.ref (33 : Nat)) (List.cons (PySem.Value.ref (34 : Nat)) (List.cons (PySem.Value.int 218 (0 : Nat)) (List.cons (PySem.Value.int 7 (0 : Nat)) (List.cons (PySem.Value.str (.ofString "/claim/cut.py") (219 : Nat)) (List.nil)))))))))))))))))))))) #[])) (
    List.cons (nat_lit 36, .mk (PySem.Value.type "function") (none : Option Nat) (.func (.mk (.ofString "__init__") (.ofString "GateloomError.__init__") a1 (.stmts b1) s1 (3 : Nat) ([] : List (PySem.Str × Nat)) (PySem.Value.ref (29 : Nat)) PySem.Value.none PySem.Value.none (PySem.Value.str (.ofString "gateloom.errors") (194 : Nat)) (none : Option Nat) (PySem.Value.ref (35 : Nat)) PySem.Value.none (0 : Nat))) #[]) (
    List.cons (nat_lit 37, (PySem.Obj.mk (PySem.Value.type "tuple") (none : Option Nat) (PySem.Data.seq #[(PySem.Value.str (.ofString "at") (221 : Nat)), (PySem.Value.str (.ofString "detail") (222 : Nat)), (PySem.Value.str (.ofString "kind") (223 : Nat))] (0 : Nat)) #[])) (
    List.cons (nat_lit 38, (PySem.Obj.mk (PySem.Value.type "dict") (none : Option Nat) (PySem.Data.dict #[(PySem.DictEntry.mk (PySem.PyData.keyHash P (.ofString "__module__")) (PySem.Value.str (.ofString "__module__") (203 : Nat)) (PySem.Value.str (.ofString "gateloom.errors") (194 : Nat))), (PySem.DictEntry.mk (PySem.PyData.keyHash P (.ofString "__firstlineno__")) (PySem.Value.str (.ofString "__firstlineno__") (207 : Nat)) (PySem.Value.int 5 (206 : Nat))), (PySem.DictEntry.mk (PySem.PyData.keyHash P (.ofString "__init__")) (PySem.Value.str (.ofString "__init__") (220 : Nat)) (PySem.Value.ref (36 : Nat))), (PySem.DictEntry.mk (PySem.PyData.keyHash P (.ofString "__static_attributes__")) (PySem.Value.str (.ofString "__static_attributes__") (224 : Nat)) (PySem.Value.ref (37 : Nat))), (PySem.DictEntry.mk (PySem.PyData.keyHash P (.ofString "__weakref__")) (PySem.Value.str (.ofString "__weakref__") (226 : Nat)) (PySem.Value.ref (40 : Nat))), (PySem.DictEntry.mk (PySem.PyData.keyHash P (.ofString "__doc__")) (PySem.Value.str (.ofString "__doc__") (227 : Nat)) PySem.Value.none)] (3 : Nat)) #[])) (
    List.cons (nat_lit 39, (PySem.Obj.mk (PySem.Value.type "type") (none : Option Nat) (PySem.Data.cls (PySem.ClassData.mk (.ofString "GateloomError") [(PySem.Value.type "Exception")] [(PySem.Value.ref (39 : Nat)), (PySem.Value.type "Exception"), (PySem.Value.type "BaseException"), (PySem.Value.type "object")] (38 : Nat) (.ofString "GateloomError") Bool.true [] [(PySem.Value.ref (52 : Nat))] Bool.false none Bool.false)) #[(Option.some (PySem.Value.ref (22 : Nat))), none, (Option.some (PySem.Value.str (.ofString "GateloomError") (196 : Nat))), (Option.some (PySem.Value.str (.ofString "GateloomError") (204 : Nat))), (Option.some (PySem.Value.builtin "Exception.__new__")), (Option.some (PySem.Value.bool Bool.true))])) (
    List.cons (nat_lit 40, (PySem.Obj.mk (PySem.Value.type "getset_descriptor") (none : Option Nat) (PySem.Data.fields #[(PySem.Value.str (.ofString "__weakref__") (225 : Nat)), (PySem.Value.ref (39 : Nat)), (PySem.Value.builtin "ExceptionGroup.__weakref__"), PySem.Value.none]) #[])) (
    List.cons (nat_lit 43, (PySem.Obj.mk (PySem.Value.type "tuple") (none : Option Nat) (PySem.Data.seq #[(PySem.Value.ref (39 : Nat))] (0 : Nat)) #[])) (
    List.cons (nat_lit 50, (PySem.Obj.mk (PySem.Value.type "tuple") (none : Option Nat) (PySem.Data.seq #[] (0 : Nat)) #[])) (
    List.cons (nat_lit 51, (PySem.Obj.mk (PySem.Value.type "dict") (none : Option Nat) (PySem.Data.dict #[(PySem.DictEntry.mk (PySem.PyData.keyHash P (.ofString "__module__")) (PySem.Value.str (.ofString "__module__") (239 : Nat)) (PySem.Value.str (.ofString "gateloom.errors") (194 : Nat))), (PySem.DictEntry.mk (PySem.PyData.keyHash P (.ofString "__firstlineno__")) (PySem.Value.str (.ofString "__firstlineno__") (243 : Nat)) (PySem.Value.int 11 (242 : Nat))), (PySem.DictEntry.mk (PySem.PyData.keyHash P (.ofString "__static_attributes__")) (PySem.Value.str (.ofString "__static_attributes__") (244 : Nat)) (PySem.Value.ref (50 : Nat))), (PySem.DictEntry.mk (PySem.PyData.keyHash P (.ofString "__doc__")) (PySem.Value.str (.ofString "__doc__") (245 : Nat)) PySem.Value.none)] (2 : Nat)) #[])) (
    List.cons (nat_lit 52, (PySem.Obj.mk (PySem.Value.type "type") (none : Option Nat) (PySem.Data.cls (PySem.ClassData.mk (.ofString "DesignError") [(PySem.Value.ref (39 : Nat))] [(PySem.Value.ref (52 : Nat)), (PySem.Value.ref (39 : Nat)), (PySem.Value.type "Exception"), (PySem.Value.type "BaseException"), (PySem.Value.type "object")] (51 : Nat) (.ofString "DesignError") Bool.true [] [] Bool.false none Bool.false)) #[(Option.some (PySem.Value.ref (43 : Nat))), none, (Option.some (PySem.Value.str (.ofString "DesignError") (232 : Nat))), (Option.some (PySem.Value.str (.ofString "DesignError") (240 : Nat))), (Option.some (PySem.Value.builtin "Exception.__new__")), (Option.some (PySem.Value.bool Bool.true))])) (
    List.cons (nat_lit 55, (PySem.Obj.mk (PySem.Value.type "tuple") (none : Option Nat) (PySem.Data.seq #[] (0 : Nat)) #[])) (
    List.cons (nat_lit 57, (PySem.Obj.mk (PySem.Value.type "tuple") (none : Option Nat) (PySem.Data.seq #[(PySem.Value.str (.ofString "w") (253 : Nat))] (0 : Nat)) #[])) (
    List.cons (nat_lit 58, (PySem.Obj.mk (PySem.Value.type "tuple") (none : Option Nat) (PySem.Data.seq #[] (0 : Nat)) #[])) (
    List.cons (nat_lit 60, (PySem.Obj.mk (PySem.Value.type "code") (none : Option Nat) (PySem.Data.fields (List.toArray (List.cons (PySem.Value.str (.ofString "mask") (250 : Nat)) (List.cons (PySem.Value.str (.ofString "mask") (251 : Nat)) (List.cons (PySem.Value.str (.ofString "/claim/cut.py") (252 : Nat)) (List.cons (PySem.Value.int 14 (0 : Nat)) (List.cons (PySem.Value.int 1 (0 : Nat)) (List.cons (PySem.Value.int 0 (0 : Nat)) (List.cons (PySem.Value.int 0 (0 : Nat)) (List.cons (PySem.Value.int 3 (0 : Nat)) (List.cons (PySem.Value.ref (55 : Nat)) (List.cons (PySem.Value.bool Bool.true) (List.cons (PySem.Value.int 181 (0 : Nat)) (List.cons (PySem.Value.ref (56 : Nat)) (List.cons PySem.Value.none (List.cons (PySem.Value.ref (57 : Nat)) (List.cons (PySem.Value.ref (58 : Nat)) (List.cons (PySem.Value.ref (59 : Nat)) (List.cons (PySem.Value.int 254 (0 : Nat)) (List.cons (PySem.Value.int 14 (0 : Nat)) (List.cons (PySem.Value.str (.ofString "/claim/cut.py") (255 : Nat)) (List.nil)))))))))))))))))))))) #[])) (
    List.cons (nat_lit 61, .mk (PySem.Value.type "function") (none : Option Nat) (.func (.mk (.ofString "mask") (.ofString "mask") a2 (.stmts b2) s2 (3 : Nat) ([] : List (PySem.Str × Nat)) PySem.Value.none PySem.Value.none PySem.Value.none (PySem.Value.str (.ofString "gateloom.vec") (248 : Nat)) (none : Option Nat) (PySem.Value.ref (60 : Nat)) PySem.Value.none (0 : Nat))) #[]) (
    List.cons (nat_lit 62, (PySem.Obj.mk (PySem.Value.type "tuple") (none : Option Nat) (PySem.Data.seq #[(PySem.Value.int 0 (257 : Nat))] (0 : Nat)) #[])) (
    List.cons (nat_lit 63, (PySem.Obj.mk (PySem.Value.type "tuple") (none : Option Nat) (PySem.Data.seq #[] (0 : Nat)) #[])) (
    List.cons (nat_lit 65, (PySem.Obj.mk (PySem.Value.type "tuple") (none : Option Nat) (PySem.Data.seq #[(PySem.Value.str (.ofString "w") (261 : Nat)), (PySem.Value.str (.ofString "a") (262 : Nat)), (PySem.Value.str (.ofString "b") (263 : Nat)), (PySem.Value.str (.ofString "full") (264 : Nat))] (0 : Nat)) #[])) (
    List.cons (nat_lit 66, (PySem.Obj.mk (PySem.Value.type "tuple") (none : Option Nat) (PySem.Data.seq #[] (0 : Nat)) #[])) (
    List.cons (nat_lit 68, (PySem.Obj.mk (PySem.Value.type "code") (none : Option Nat) (PySem.Data.fields (List.toArray (List.cons (PySem.Value.str (.ofString "vec") (258 : Nat)) (List.cons (PySem.Value.str (.ofString "vec") (259 : Nat)) (List.cons (PySem.Value.str (.ofString "/claim/cut.py") (260 : Nat)) (List.cons (PySem.Value.int 16 (0 : Nat)) (List.cons (PySem.Value.int 3 (0 : Nat)) (List.cons (PySem.Value.int 0 (0 : Nat)) (List.cons (PySem.Value.int 0 (0 : Nat)) (List.cons (PySem.Value.int 3 (0 : Nat)) (List.cons (PySem.Value.ref (63 : Nat)) (List.cons (PySem.Value.bool Bool.true) (List.cons (PySem.Value.int 181 (0 : Nat)) (List.cons (PySem.Value.ref (64 : Nat)) (List.cons PySem.Value.none (List.cons (PySem.Value.ref (65 : Nat)) (List.cons (PySem.Value.ref (66 : Nat)) (List.cons (PySem.Value.ref (67 : Nat)) (List.cons (PySem.Value.int 265 (0 : Nat)) (List.cons (PySem.Value.int 16 (0 : Nat)) (List.cons (PySem.Value.str (.ofString "/claim/cut.py") (266 : Nat)) (List.nil)))))))))))))))))))))) #[])) (
    List.cons (nat_lit 69, .mk (PySem.Value.type "function") (none : Option Nat) (.func (.mk (.ofString "vec") (.ofString "vec") a3 (.stmts b3) s3 (3 : Nat) ([] : List (PySem.Str × Nat)) (PySem.Value.ref (62 : Nat)) PySem.Value.none PySem.Value.none (PySem.Value.str (.ofString "gateloom.vec") (248 : Nat)) (none : Option Nat) (PySem.Value.ref (68 : Nat)) PySem.Value.none (0 : Nat))) #[]) (
    List.cons (nat_lit 70, (PySem.Obj.mk (PySem.Value.type "tuple") (none : Option Nat) (PySem.Data.seq #[] (0 : Nat)) #[])) (
    List.cons (nat_lit 72, (PySem.Obj.mk (PySem.Value.type "tuple") (none : Option Nat) (PySem.Data.seq #[(PySem.Value.str (.ofString "w") (271 : Nat)), (PySem.Value.str (.ofString "n") (272 : Nat))] (0 : Nat)) #[])) (
    List.cons (nat_lit 73, (PySem.Obj.mk (PySem.Value.type "tuple") (none : Option Nat) (PySem.Data.seq #[] (0 : Nat)) #[])) (
    List.cons (nat_lit 75, (PySem.Obj.mk (PySem.Value.type "code") (none : Option Nat) (PySem.Data.fields (List.toArray (List.cons (PySem.Value.str (.ofString "from_int") (268 : Nat)) (List.cons (PySem.Value.str (.ofString "from_int") (269 : Nat)) (List.cons (PySem.Value.str (.ofString "/claim/cut.py") (270 : Nat)) (List.cons (PySem.Value.int 19 (0 : Nat)) (List.cons (PySem.Value.int 2 (0 : Nat)) (List.cons (PySem.Value.int 0 (0 : Nat)) (List.cons (PySem.Value.int 0 (0 : Nat)) (List.cons (PySem.Value.int 3 (0 : Nat)) (List.cons (PySem.Value.ref (70 : Nat)) (List.cons (PySem.Value.bool Bool.true) (List.cons (PySem.Value.int 181 (0 : Nat)) (List.cons (PySem.Value.ref (71 : Nat)) (List.cons PySem.Value.none (List.cons (PySem.Value.ref (72 : Nat)) (List.cons (PySem.Value.ref (73 : Nat)) (List.cons (PySem.Value.ref (74 : Nat)) (List.cons (PySem.Value.int 273 (0 : Nat)) (List.cons (PySem.Value.int 19 (0 : Nat)) (List.cons (PySem.Value.str (.ofString "/claim/cut.py") (274 : Nat)) (List.nil)))))))))))))))))))))) #[])) (
    List.cons (nat_lit 76, .mk (PySem.Value.type "function") (none : Option Nat) (.func (.mk (.ofString "from_int") (.ofString "from_int") a4 (.stmts b4) s4 (3 : Nat) ([] : List (PySem.Str × Nat)) PySem.Value.none PySem.Value.none PySem.Value.none (PySem.Value.str (.ofString "gateloom.vec") (248 : Nat)) (none : Option Nat) (PySem.Value.ref (75 : Nat)) PySem.Value.none (0 : Nat))) #[]) (
    List.cons (nat_lit 77, (PySem.Obj.mk (PySem.Value.type "tuple") (none : Option Nat) (PySem.Data.seq #[] (0 : Nat)) #[])) (
    List.cons (nat_lit 79, (PySem.Obj.mk (PySem.Value.type "tuple") (none : Option Nat) (PySem.Data.seq #[(PySem.Value.str (.ofString "v") (279 : Nat)), (PySem.Value.str (.ofString "i") (280 : Nat))] (0 : Nat)) #[])) (
    List.cons (nat_lit 80, (PySem.Obj.mk (PySem.Value.type "tuple") (none : Option Nat) (PySem.Data.seq #[] (0 : Nat)) #[])) (
    List.cons (nat_lit 82, (PySem.Obj.mk (PySem.Value.type "code") (none : Option Nat) (PySem.Data.fields (List.toArray (List.cons (PySem.Value.str (.ofString "code") (276 : Nat)) (List.cons (PySem.Value.str (.ofString "code") (277 : Nat)) (List.cons (PySem.Value.str (.ofString "/claim/cut.py") (278 : Nat)) (List.cons (PySem.Value.int 21 (0 : Nat)) (List.cons (PySem.Value.int 2 (0 : Nat)) (List.cons (PySem.Value.int 0 (0 : Nat)) (List.cons (PySem.Value.int 0 (0 : Nat)) (List.cons (PySem.Value.int 3 (0 : Nat)) (List.cons (PySem.Value.ref (77 : Nat)) (List.cons (PySem.Value.bool Bool.true) (List.cons (PySem.Value.int 181 (0 : Nat)) (List.cons (PySem.Value.ref (78 : Nat)) (List.cons PySem.Value.none (List.cons (PySem.Value.ref (79 : Nat)) (List.cons (PySem.Value.ref (80 : Nat)) (List.cons (PySem.Value.ref (81 : Nat)) (List.cons (PySem.Value.int 281 (0 : Nat)) (List.cons (PySem.Value.int 21 (0 : Nat)) (List.cons (PySem.Value.str (.ofString "/claim/cut.py") (282 : Nat)) (List.nil)))))))))))))))))))))) #[])) (
    List.cons (nat_lit 83, .mk (PySem.Value.type "function") (none : Option Nat) (.func (.mk (.ofString "code") (.ofString "code") a5 (.stmts b5) s5 (3 : Nat) ([] : List (PySem.Str × Nat)) PySem.Value.none PySem.Value.none PySem.Value.none (PySem.Value.str (.ofString "gateloom.vec") (248 : Nat)) (none : Option Nat) (PySem.Value.ref (82 : Nat)) PySem.Value.none (0 : Nat))) #[]) (
    List.cons (nat_lit 84, (PySem.Obj.mk (PySem.Value.type "tuple") (none : Option Nat) (PySem.Data.seq #[] (0 : Nat)) #[])) (
    List.cons (nat_lit 86, (PySem.Obj.mk (PySem.Value.type "tuple") (none : Option Nat) (PySem.Data.seq #[(PySem.Value.str (.ofString "v") (287 : Nat)), (PySem.Value.str (.ofString "w") (288 : Nat)), (PySem.Value.str (.ofString "signed") (289 : Nat)), (PySem.Value.str (.ofString "fill") (290 : Nat)), (PySem.Value.str (.ofString "top") (291 : Nat)), (PySem.Value.str (.ofString "a") (292 : Nat)), (PySem.Value.str (.ofString "b") (293 : Nat))] (0 : Nat)) #[])) (
    List.cons (nat_lit 87, (PySem.Obj.mk (PySem.Value.type "tuple") (none : Option Nat) (PySem.Data.seq #[] (0 : Nat)) #[])) (
    List.cons (nat_lit 89, (PySem.Obj.mk (PySem.Value.type "code") (none : Option Nat) (PySem.Data.fields (List.toArray (List.cons (PySem.Value.str (.ofString "extend") (284 : Nat)) (List.cons (PySem.Value.str (.ofString "extend") (285 : Nat)) (List.cons (PySem.Value.str (.ofString "/claim/cut.py") (286 : Nat)) (List.cons (PySem.Value.int 23 (0 : Nat)) (List.cons (PySem.Value.int 3 (0 : Nat)) (List.cons (PySem.Value.int 0 (0 : Nat)) (List.cons (PySem.Value.int 0 (0 : Nat)) (List.cons (PySem.Value.int 3 (0 : Nat)) (List.cons (PySem.Value.ref (84 : Nat)) (List.cons (PySem.Value.bool Bool.true) (List.cons (PySem.Value.int 181 (0 : Nat)) (List.cons (PySem.Value.ref (85 : Nat)) (List.cons PySem.Value.none (List.cons (PySem.Value.ref (86 : Nat)) (List.cons (PySem.Value.ref (87 : Nat)) (List.cons (PySem.Value.ref (88 : Nat)) (List.cons (PySem.Value.int 294 (0 : Nat)) (List.cons (PySem.Value.int 23 (0 : Nat)) (List.cons (PySem.Value.str (.ofString "/claim/cut.py") (295 : Nat)) (List.nil)))))))))))))))))))))) #[])) (
    List.cons (nat_lit 90, .mk (PySem.Value.type "function") (none : Option Nat) (.func (.mk (.ofString "extend") (.ofString "extend") a6 (.stmts b6) s6 (3 : Nat) ([] : List (PySem.Str × Nat)) PySem.Value.none PySem.Value.none PySem.Value.none (PySem.Value.str (.ofString "gateloom.vec") (248 : Nat)) (none : Option Nat) (PySem.Value.ref (89 : Nat)) PySem.Value.none (0 : Nat))) #[]) (
    List.cons (nat_lit 91, (PySem.Obj.mk (PySem.Value.type "tuple") (none : Option Nat) (PySem.Data.seq #[] (0 : Nat)) #[])) (
    List.cons (nat_lit 93, (PySem.Obj.mk (PySem.Value.type "tuple") (none : Option Nat) (PySem.Data.seq #[(PySem.Value.str (.ofString "e") (302 : Nat)), (PySem.Value.str (.ofString "name") (303 : Nat)), (PySem.Value.str (.ofString "index") (304 : Nat))] (0 : Nat)) #[])) (
    List.cons (nat_lit 94, (PySem.Obj.mk (PySem.Value.type "tuple") (none : Option Nat) (PySem.Data.seq #[] (0 : Nat)) #[])) (
    List.cons (nat_lit 96, (PySem.Obj.mk (PySem.Value.type "code") (none : Option Nat) (PySem.Data.fields (List.toArray (List.cons (PySem.Value.str (.ofString "last_select") (299 : Nat)) (List.cons (PySem.Value.str (.ofString "last_select") (300 : Nat)) (List.cons (PySem.Value.str (.ofString "/claim/cut.py") (301 : Nat)) (List.cons (PySem.Value.int 34 (0 : Nat)) (List.cons (PySem.Value.int 1 (0 : Nat)) (List.cons (PySem.Value.int 0 (0 : Nat)) (List.cons (PySem.Value.int 0 (0 : Nat)) (List.cons (PySem.Value.int 3 (0 : Nat)) (List.cons (PySem.Value.ref (91 : Nat)) (List.cons (PySem.Value.bool Bool.true) (List.cons (PySem.Value.int 181 (0 : Nat)) (List.cons (PySem.Value.ref (92 : Nat)) (List.cons PySem.Value.none (List.cons (PySem.Value.ref (93 : Nat)) (List.cons (PySem.Value.ref (94 : Nat)) (List.cons (PySem.Value.ref (95 : Nat)) (List.cons (PySem.Value.int 305 (0 : Nat)) (List.cons (PySem.Value.int 34 (0 : Nat)) (List.cons (PySem.Value.str (.ofString "/claim/cut.py") (306 : Nat)) (List.nil)))))))))))))))))))))) #[])) (
    List.cons (nat_lit 97, .mk (PySem.Value.type "function") (none : Option Nat) (.func (.mk (.ofString "last_select") (.ofString "last_select") a7 (.stmts b7) s7 (3 : Nat) ([] : List (PySem.Str × Nat)) PySem.Value.none PySem.Value.none PySem.Value.none (PySem.Value.str (.ofString "gateloom.elabparts") (297 : Nat)) (none : Option Nat) (PySem.Value.ref (96 : Nat)) PySem.Value.none (0 : Nat))) #[]) (
    List.cons (nat_lit 98, (PySem.Obj.mk (PySem.Value.type "tuple") (none : Option Nat) (PySem.Data.seq #[] (0 : Nat)) #[])) (
    List.cons (nat_lit 100, (PySem.Obj.mk (PySem.Value.type "tuple") (none : Option Nat) (PySem.Data.seq #[(PySem.Value.str (.ofString "scope") (311 : Nat)), (PySem.Value.str (.ofString "entry") (312 : Nat))] (0 : Nat)) #[])) (
    List.cons (nat_lit 101, (PySem.Obj.mk (PySem.Value.type "tuple") (none : Option Nat) (PySem.Data.seq #[] (0 : Nat)) #[])) (
    List.cons (nat_lit 103, (PySem.Obj.mk (PySem.Value.type "code") (none : Option Nat) (PySem.Data.fields (List.toArray (List.cons (PySem.Value.str (.ofString "is_memory") (308 : Nat)) (List.cons (PySem.Value.str (.ofString "is_memory") (309 : Nat)) (List.cons (PySem.Value.str (.ofString "/claim/cut.py") (310 : Nat)) (List.cons (PySem.Value.int 39 (0 : Nat)) (List.cons (PySem.Value.int 2 (0 : Nat)) (List.cons (PySem.Value.int 0 (0 : Nat)) (List.cons (PySem.Value.int 0 (0 : Nat)) (List.cons (PySem.Value.int 3 (0 : Nat)) (List.cons (PySem.Value.ref (98 : Nat)) (List.cons (PySem.Value.bool Bool.true) (List.cons (PySem.Value.int 181 (0 : Nat)) (List.cons (PySem.Value.ref (99 : Nat)) (List.cons PySem.Value.none (List.cons (PySem.Value.ref (100 : Nat)) (List.cons (PySem.Value.ref (101 : Nat)) (List.cons (PySem.Value.ref (102 : Nat)) (List.cons (PySem.Value.int 313 (0 : Nat)) (List.cons (PySem.Value.int 39 (0 : Nat)) (List.cons (PySem.Value.str (.ofString "/claim/cut.py") (314 : Nat)) (List.nil)))))))))))))))))))))) #[])) (
    List.cons (nat_lit 104, .mk (PySem.Value.type "function") (none : Option Nat) (.func (.mk (.ofString "is_memory") (.ofString "is_memory") a8 (.stmts b8) s8 (3 : Nat) ([] : List (PySem.Str × Nat)) PySem.Value.none PySem.Value.none PySem.Value.none (PySem.Value.str (.ofString "gateloom.elabparts") (297 : Nat)) (none : Option Nat) (PySem.Value.ref (103 : Nat)) PySem.Value.none (0 : Nat))) #[]) (
    List.cons (nat_lit 105, (PySem.Obj.mk (PySem.Value.type "tuple") (none : Option Nat) (PySem.Data.seq #[] (0 : Nat)) #[])) (
    List.cons (nat_lit 107, (PySem.Obj.mk (PySem.Value.type "tuple") (none : Option Nat) (PySem.Data.seq #[(PySem.Value.str (.ofString "scope") (319 : Nat)), (PySem.Value.str (.ofString "entry") (320 : Nat)), (PySem.Value.str (.ofString "at") (321 : Nat)), (PySem.Value.str (.ofString "signal") (322 : Nat))] (0 : Nat)) #[])) (
    List.cons (nat_lit 108, (PySem.Obj.mk (PySem.Value.type "tuple") (none : Option Nat) (PySem.Data.seq #[] (0 : Nat)) #[])) (
    List.cons (nat_lit 110, (PySem.Obj.mk (PySem.Value.type "code") (none : Option Nat) (PySem.Data.fields (List.toArray (List.cons (PySem.Value.str (.ofString "shape") (316 : Nat)) (List.cons (PySem.Value.str (.ofString "shape") (317 : Nat)) (List.cons (PySem.Value.str (.ofString "/claim/cut.py") (318 : Nat)) (List.cons (PySem.Value.int 41 (0 : Nat)) (List.cons (PySem.Value.int 3 (0 : Nat)) (List.cons (PySem.Value.int 0 (0 : Nat)) (List.cons (PySem.Value.int 0 (0 : Nat)) (List.cons (PySem.Value.int 3 (0 : Nat)) (List.cons (PySem.Value.ref (105 : Nat)) (List.cons (PySem.Value.bool Bool.true) (List.cons (PySem.Value.int 181 (0 : Nat)) (List.cons (PySem.Value.ref (106 : Nat)) (List.cons PySem.Value.none (List.cons (PySem.Value.ref (107 : Nat)) (List.cons (PySem.Value.ref (108 : Nat)) (List.cons (PySem.Value.ref (109 : Nat)) (List.cons (PySem.Value.int 323 (0 : Nat)) (List.cons (PySem.Value.int 41 (0 : Nat)) (List.cons (PySem.Value.str (.ofString "/claim/cut.py") (324 : Nat)) (List.nil)))))))))))))))))))))) #[])) (
    List.cons (nat_lit 111, .mk (PySem.Value.type "function") (none : Option Nat) (.func (.mk (.ofString "shape") (.ofString "shape") a9 (.stmts b9) s9 (3 : Nat) ([] : List (PySem.Str × Nat)) PySem.Value.none PySem.Value.none PySem.Value.none (PySem.Value.str (.ofString "gateloom.elabparts") (297 : Nat)) (none : Option Nat) (PySem.Value.ref (110 : Nat)) PySem.Value.none (0 : Nat))) #[]) (
    List.cons (nat_lit 112, (PySem.Obj.mk (PySem.Value.type "tuple") (none : Option Nat) (PySem.Data.seq #[] (0 : Nat)) #[])) (
    List.cons (nat_lit 114, (PySem.Obj.mk (PySem.Value.type "tuple") (none : Option Nat) (PySem.Data.seq #[(PySem.Value.str (.ofString "scope") (329 : Nat)), (PySem.Value.str (.ofString "entry") (330 : Nat)), (PySem.Value.str (.ofString "word") (331 : Nat)), (PySem.Value.str (.ofString "width") (332 : Nat))] (0 : Nat)) #[])) (
    List.cons (nat_lit 115, (PySem.Obj.mk (PySem.Value.type "tuple") (none : Option Nat) (PySem.Data.seq #[] (0 : Nat)) #[])) (
    List.cons (nat_lit 117, (PySem.Obj.mk (PySem.Value.type "code") (none : Option Nat) (PySem.Data.fields (List.toArray (List.cons (PySem.Value.str (.ofString "read_entry") (326 : Nat)) (List.cons (PySem.Value.str (.ofString "read_entry") (327 : Nat)) (List.cons (PySem.Value.str (.ofString "/claim/cut.py") (328 : Nat)) (List.cons (PySem.Value.int 58 (0 : Nat)) (List.cons (PySem.Value.int 3 (0 : Nat)) (List.cons (PySem.Value.int 0 (0 : Nat)) (List.cons (PySem.Value.int 0 (0 : Nat)) (List.cons (PySem.Value.int 3 (0 : Nat)) (List.cons (PySem.Value.ref (112 : Nat)) (List.cons (PySem.Value.bool Bool.true) (List.cons (PySem.Value.int 181 (0 : Nat)) (List.cons (PySem.Value.ref (113 : Nat)) (List.cons PySem.Value.none (List.cons (PySem.Value.ref (114 : Nat)) (List.cons (PySem.Value.ref (115 : Nat)) (List.cons (PySem.Value.ref (116 : Nat)) (List.cons (PySem.Value.int 333 (0 : Nat)) (List.cons (PySem.Value.int 58 (0 : Nat)) (List.cons (PySem.Value.str (.ofString "/claim/cut.py") (334 : Nat)) (List.nil)))))))))))))))))))))) #[])) (
    List.cons (nat_lit 118, .mk (PySem.Value.type "function") (none : Option Nat) (.func (.mk (.ofString "read_entry") (.ofString "read_entry") a10 (.stmts b10) s10 (3 : Nat) ([] : List (PySem.Str × Nat)) PySem.Value.none PySem.Value.none PySem.Value.none (PySem.Value.str (.ofString "gateloom.elabparts") (297 : Nat)) (none : Option Nat) (PySem.Value.ref (117 : Nat)) PySem.Value.none (0 : Nat))) #[]) (
    List.cons (nat_lit 119, (PySem.Obj.mk (PySem.Value.type "tuple") (none : Option Nat) (PySem.Data.seq #[] (0 : Nat)) #[])) (
    List.cons (nat_lit 121, (PySem.Obj.mk (PySem.Value.type "tuple") (none : Option Nat) (PySem.Data.seq #[(PySem.Value.str (.ofString "text") (339 : Nat)), (PySem.Value.str (.ofString "value") (340 : Nat)), (PySem.Value.str (.ofString "sign") (341 : Nat))] (0 : Nat)) #[])) (
    List.cons (nat_lit 122, (PySem.Obj.mk (PySem.Value.type "tuple") (none : Option Nat) (PySem.Data.seq #[] (0 : Nat)) #[])) (
    List.cons (nat_lit 124, (PySem.Obj.mk (PySem.Value.type "code") (none : Option Nat) (PySem.Data.fields (List.toArray (List.cons (PySem.Value.str (.ofString "text_vec") (336 : Nat)) (List.cons (PySem.Value.str (.ofString "text_vec") (337 : Nat)) (List.cons (PySem.Value.str (.ofString "/claim/cut.py") (338 : Nat)) (List.cons (PySem.Value.int 69 (0 : Nat)) (List.cons (PySem.Value.int 1 (0 : Nat)) (List.cons (PySem.Value.int 0 (0 : Nat)) (List.cons (PySem.Value.int 0 (0 : Nat)) (List.cons (PySem.Value.int 3 (0 : Nat)) (List.cons (PySem.Value.ref (119 : Nat)) (List.cons (PySem.Value.bool Bool.true) (List.cons (PySem.Value.int 181 (0 : Nat)) (List.cons (PySem.Value.ref (120 : Nat)) (List.cons PySem.Value.none (List.cons (PySem.Value.ref (121 : Nat)) (List.cons (PySem.Value.ref (122 : Nat)) (List.cons (PySem.Value.ref (123 : Nat)) (List.cons (PySem.Value.int 342 (0 : Nat)) (List.cons (PySem.Value.int 69 (0 : Nat)) (List.cons (PySem.Value.str (.ofString "/claim/cut.py") (343 : Nat)) (List.nil)))))))))))))))))))))) #[])) (
    List.cons (nat_lit 125, .mk (PySem.Value.type "function") (none : Option Nat) (.func (.mk (.ofString "text_vec") (.ofString "text_vec") a11 (.stmts b11) s11 (3 : Nat) ([] : List (PySem.Str × Nat)) PySem.Value.none PySem.Value.none PySem.Value.none (PySem.Value.str (.ofString "gateloom.elabparts") (297 : Nat)) (none : Option Nat) (PySem.Value.ref (124 : Nat)) PySem.Value.none (0 : Nat))) #[]) (
    List.cons (nat_lit 126, (PySem.Obj.mk (PySem.Value.type "tuple") (none : Option Nat) (PySem.Data.seq #[] (0 : Nat)) #[])) (
    List.cons (nat_lit 128, (PySem.Obj.mk (PySem.Value.type "tuple") (none : Option Nat) (PySem.Data.seq #[(PySem.Value.str (.ofString "e") (348 : Nat)), (PySem.Value.str (.ofString "w") (349 : Nat)), (PySem.Value.str (.ofString "signed") (350 : Nat)), (PySem.Value.str (.ofString "number") (351 : Nat)), (PySem.Value.str (.ofString "fill") (352 : Nat))] (0 : Nat)) #[])) (
    List.cons (nat_lit 129, (PySem.Obj.mk (PySem.Value.type "tuple") (none : Option Nat) (PySem.Data.seq #[] (0 : Nat)) #[])) (
    List.cons (nat_lit 131, (PySem.Obj.mk (PySem.Value.type "code") (none : Option Nat) (PySem.Data.fields (List.toArray (List.cons (PySem.Value.str (.ofString "number_value") (345 : Nat)) (List.cons (PySem.Value.str (.ofString "number_value") (346 : Nat)) (List.cons (PySem.Value.str (.ofString "/claim/cut.py") (347 : Nat)) (List.cons (PySem.Value.int 74 (0 : Nat)) (List.cons (PySem.Value.int 3 (0 : Nat)) (List.cons (PySem.Value.int 0 (0 : Nat)) (List.cons (PySem.Value.int 0 (0 : Nat)) (List.cons (PySem.Value.int 3 (0 : Nat)) (List.cons (PySem.Value.ref (126 : Nat)) (List.cons (PySem.Value.bool Bool.true) (List.cons (PySem.Value.int 181 (0 : Nat)) (List.cons (PySem.Value.ref (127 : Nat)) (List.cons PySem.Value.none (List.cons (PySem.Value.ref (128 : Nat)) (List.cons (PySem.Value.ref (129 : Nat)) (List.cons (PySem.Value.ref (130 : Nat)) (List.cons (PySem.Value.int 353 (0 : Nat)) (List.cons (PySem.Value.int 74 (0 : Nat)) (List.cons (PySem.Value.str (.ofString "/claim/cut.py") (354 : Nat)) (List.nil)))))))))))))))))))))) #[])) (
    List.cons (nat_lit 132, .mk (PySem.Value.type "function") (none : Option Nat) (.func (.mk (.ofString "number_value") (.ofString "number_value") a12 (.stmts b12) s12 (3 : Nat) ([] : List (PySem.Str × Nat)) PySem.Value.none PySem.Value.none PySem.Value.none (PySem.Value.str (.ofString "gateloom.elabparts") (297 : Nat)) (none : Option Nat) (PySem.Value.ref (131 : Nat)) PySem.Value.none (0 : Nat))) #[]) (
    List.cons (nat_lit 140, (PySem.Obj.mk (PySem.Value.type "tuple") (none : Option Nat) (PySem.Data.seq #[] (0 : Nat)) #[])) (
    List.cons (nat_lit 142, (PySem.Obj.mk (PySem.Value.type "tuple") (none : Option Nat) (PySem.Data.seq #[(PySem.Value.str (.ofString "self") (373 : Nat)), (PySem.Value.str (.ofString "key") (374 : Nat)), (PySem.Value.str (.ofString "path") (375 : Nat)), (PySem.Value.str (.ofString "kind") (376 : Nat)), (PySem.Value.str (.ofString "width") (377 : Nat)), (PySem.Value.str (.ofString "signed") (378 : Nat)), (PySem.Value.str (.ofString "msb") (379 : Nat)), (PySem.Value.str (.ofString "lsb") (380 : Nat))] (0 : Nat)) #[])) (
    List.cons (nat_lit 143, (PySem.Obj.mk (PySem.Value.type "tuple") (none : Option Nat) (PySem.Data.seq #[] (0 : Nat)) #[])) (
    List.cons (nat_lit 145, (PySem.Obj.mk (PySem.Value.type "code") (none : Option Nat) (PySem.Data.fields (List.toArray (List.cons (PySem.Value.str (.ofString "__init__") (370 : Nat)) (List.cons (PySem.Value.str (.ofString "Signal.__init__") (371 : Nat)) (List.cons (PySem.Value.str (.ofString "/claim/cut.py") (372 : Nat)) (List.cons (PySem.Value.int 81 (0 : Nat)) (List.cons (PySem.Value.int 8 (0 : Nat)) (List.cons (PySem.Value.int 0 (0 : Nat)) (List.cons (PySem.Value.int 0 (0 : Nat)) (List.cons (PySem.Value.int 3 (0 : Nat)) (List.cons (PySem.Value.ref (140 : Nat)) (List.cons (PySem.Value.bool Bool.true) (List.cons (PySem.Value.int 181 (0 : Nat)) (List.cons (PySem.Value.ref (141 : Nat)) (List.cons PySem.Value.none (List.cons (PySem.Value.ref (142 : Nat)) (List.cons (PySem.Value.ref (143 : Nat)) (List.cons (PySem.Value.ref (144 : Nat)) (List.cons (PySem.Value.int 381 (0 : Nat)) (List.cons (PySem.Value.int 81 (0 : Nat)) (List.cons (PySem.Value.str (.ofString "/claim/cut.py") (382 : Nat)) (List.nil)))))))))))))))))))))) #[])) (
    List.cons (nat_lit 146, .mk (PySem.Value.type "function") (none : Option Nat) (.func (.mk (.ofString "__init__") (.ofString "Signal.__init__") a13 (.stmts b13) s13 (3 : Nat) ([] : List (PySem.Str × Nat)) PySem.Value.none PySem.Value.none PySem.Value.none (PySem.Value.str (.ofString "gateloom.design") (356 : Nat)) (none : Option Nat) (PySem.Value.ref (145 : Nat)) PySem.Value.none (0 : Nat))) #[]) (
    List.cons (nat_lit 147, (PySem.Obj.mk (PySem.Value.type "tuple") (none : Option Nat) (PySem.Data.seq #[] (0 : Nat)) #[])) (
    List.cons (nat_lit 149, (PySem.Obj.mk (PySem.Value.type "tuple") (none : Option Nat) (PySem.Data.seq #[(PySem.Value.str (.ofString "self") (387 : Nat))] (0 : Nat)) #[])) (
    List.cons (nat_lit 150, (PySem.Obj.mk (PySem.Value.type "tuple") (none : Option Nat) (PySem.Data.seq #[] (0 : Nat)) #[])) (
    List.cons (nat_lit 152, (PySem.Obj.mk (PySem.Value.type "code") (none : Option Nat) (PySem.Data.fields (List.toArray (List.cons (PySem.Value.str (.ofString "is_net") (384 : Nat)) (List.cons (PySem.Value.str (.ofString "Signal.is_net") (385 : Nat)) (List.cons (PySem.Value.str (.ofString "/claim/cut.py") (386 : Nat)) (List.cons (PySem.Value.int 95 (0 : Nat)) (List.cons (PySem.Value.int 1 (0 : Nat)) (List.cons (PySem.Value.int 0 (0 : Nat)) (List.cons (PySem.Value.int 0 (0 : Nat)) (List.cons (PySem.Value.int 3 (0 : Nat)) (List.cons (PySem.Value.ref (147 : Nat)) (List.cons (PySem.Value.bool Bool.true) (List.cons (PySem.Value.int 181 (0 : Nat)) (List.cons (PySem.Value.ref (148 : Nat)) (List.cons PySem.Value.none (List.cons (PySem.Value.ref (149 : Nat)) (List.cons (PySem.Value.ref (150 : Nat)) (List.cons (PySem.Value.ref (151 : Nat)) (List.cons (PySem.Value.int 388 (0 : Nat)) (List.cons (PySem.Value.int 95 (0 : Nat)) (List.cons (PySem.Value.str (.ofString "/claim/cut.py") (389 : Nat)) (List.nil)))))))))))))))))))))) #[])) (
    List.cons (nat_lit 153, .mk (PySem.Value.type "function") (none : Option Nat) (.func (.mk (.ofString "is_net") (.ofString "Signal.is_net") a14 (.stmts b14) s14 (3 : Nat) ([] : List (PySem.Str × Nat)) PySem.Value.none PySem.Value.none PySem.Value.none (PySem.Value.str (.ofString "gateloom.design") (356 : Nat)) (none : Option Nat) (PySem.Value.ref (152 : Nat)) PySem.Value.none (0 : Nat))) #[]) (
    List.cons (nat_lit 154, (PySem.Obj.mk (PySem.Value.type "tuple") (none : Option Nat) (PySem.Data.seq #[] (0 : Nat)) #[])) (
    List.cons (nat_lit 156, (PySem.Obj.mk (PySem.Value.type "tuple") (none : Option Nat) (PySem.Data.seq #[(PySem.Value.str (.ofString "self") (394 : Nat))] (0 : Nat)) #[])) (
    List.cons (nat_lit 157, (PySem.Obj.mk (PySem.Value.type "tuple") (none : Option Nat) (PySem.Data.seq #[] (0 : Nat)) #[])) (
    List.cons (nat_lit 159, (PySem.Obj.mk (PySem.Value.type "code") (none : Option Nat) (PySem.Data.fields (List.toArray (List.cons (PySem.Value.str (.ofString "is_memory") (391 : Nat)) (List.cons (PySem.Value.str (.ofString "Signal.is_memory") (392 : Nat)) (List.cons (PySem.Value.str (.ofString "/claim/cut.py") (393 : Nat)) (List.cons (PySem.Value.int 98 (0 : Nat)) (List.cons (PySem.Value.int 1 (0 : Nat)) (List.cons (PySem.Value.int 0 (0 : Nat)) (List.cons (PySem.Value.int 0 (0 : Nat)) (List.cons (PySem.Value.int 3 (0 : Nat)) (List.cons (PySem.Value.ref (154 : Nat)) (List.cons (PySem.Value.bool Bool.true) (List.cons (PySem.Value.int 181 (0 : Nat)) (List.cons (PySem.Value.ref (155 : Nat)) (List.cons PySem.Value.none (List.cons (PySem.Value.ref (156 : Nat)) (List.cons (PySem.Value.ref (157 : Nat)) (List.cons (PySem.Value.ref (158 : Nat)) (List.cons (PySem.Value.int 395 (0 : Nat)) (List.cons (PySem.Value.int 98 (0 : Nat)) (List.cons (PySem.Value.str (.ofString "/claim/cut.py") (396 : Nat)) (List.nil)))))))))))))))))))))) #[])) (
    List.cons (nat_lit 160, .mk (PySem.Value.type "function") (none : Option Nat) (.func (.mk (.ofString "is_memory") (.ofString "Signal.is_memory") a15 (.stmts b15) s15 (3 : Nat) ([] : List (PySem.Str × Nat)) PySem.Value.none PySem.Value.none PySem.Value.none (PySem.Value.str (.ofString "gateloom.design") (356 : Nat)) (none : Option Nat) (PySem.Value.ref (159 : Nat)) PySem.Value.none (0 : Nat))) #[]) (
    List.cons (nat_lit 161, (PySem.Obj.mk (PySem.Value.type "tuple") (none : Option Nat) (PySem.Data.seq #[] (0 : Nat)) #[])) (
    List.cons (nat_lit 163, (PySem.Obj.mk (PySem.Value.type "tuple") (none : Option Nat) (PySem.Data.seq #[(PySem.Value.str (.ofString "self") (401 : Nat))] (0 : Nat)) #[])) (
    List.cons (nat_lit 164, (PySem.Obj.mk (PySem.Value.type "tuple") (none : Option Nat) (PySem.Data.seq #[] (0 : Nat)) #[])) (
    List.cons (nat_lit 166, (PySem.Obj.mk (PySem.Value.type "code") (none : Option Nat) (PySem.Data.fields (List.toArray (List.cons (PySem.Value.str (.ofString "words") (398 : Nat)) (List.cons (PySem.Value.str (.ofString "Signal.words") (399 : Nat)) (List.cons (PySem.Value.str (.ofString "/claim/cut.py") (400 : Nat)) (List.cons (PySem.Value.int 101 (0 : Nat)) (List.cons (PySem.Value.int 1 (0 : Nat)) (List.cons (PySem.Value.int 0 (0 : Nat)) (List.cons (PySem.Value.int 0 (0 : Nat)) (List.cons (PySem.Value.int 3 (0 : Nat)) (List.cons (PySem.Value.ref (161 : Nat)) (List.cons (PySem.Value.bool Bool.true) (List.cons (PySem.Value.int 181 (0 : Nat)) (List.cons (PySem.Value.ref (162 : Nat)) (List.cons PySem.Value.none (List.cons (PySem.Value.ref (163 : Nat)) (List.cons (PySem.Value.ref (164 : Nat)) (List.cons (PySem.Value.ref (165 : Nat)) (List.cons (PySem.Value.int 402 (0 : Nat)) (List.cons (PySem.Value.int 101 (0 : Nat)) (List.cons (PySem.Value.str (.ofString "/claim/cut.py") (403 : Nat)) (List.nil)))))))))))))))))))))) #[])) (
    List.cons (nat_lit 167, .mk (PySem.Value.type "function") (none : Option Nat) (.func (.mk (.ofString "words") (.ofString "Signal.words") a16 (.stmts b16) s16 (3 : Nat) ([] : List (PySem.Str × Nat)) PySem.Value.none PySem.Value.none PySem.Value.none (PySem.Value.str (.ofString "gateloom.design") (356 : Nat)) (none : Option Nat) (PySem.Value.ref (166 : Nat)) PySem.Value.none (0 : Nat))) #[]) (
    List.cons (nat_lit 168, (PySem.Obj.mk (PySem.Value.type "tuple") (none : Option Nat) (PySem.Data.seq #[] (0 : Nat)) #[])) (
    List.cons (nat_lit 170, (PySem.Obj.mk (PySem.Value.type "tuple") (none : Option Nat) (PySem.Data.seq #[(PySem.Value.str (.ofString "self") (408 : Nat)), (PySem.Value.str (.ofString "index") (409 : Nat)), (PySem.Value.str (.ofString "place") (410 : Nat))] (0 : Nat)) #[])) (
    List.cons (nat_lit 171, (PySem.Obj.mk (PySem.Value.type "tuple") (none : Option Nat) (PySem.Data.seq #[] (0 : Nat)) #[])) (
    List.cons (nat_lit 173, (PySem.Obj.mk (PySem.Value.type "code") (none : Option Nat) (PySem.Data.fields (List.toArray (List.cons (PySem.Value.str (.ofString "offset") (405 : Nat)) (List.cons (PySem.Value.str (.ofString "Signal.offset") (406 : Nat)) (List.cons (PySem.Value.str (.ofString "/claim/cut.py") (407 : Nat)) (List.cons (PySem.Value.int 106 (0 : Nat)) (List.cons (PySem.Value.int 2 (0 : Nat)) (List.cons (PySem.Value.int 0 (0 : Nat)) (List.cons (PySem.Value.int 0 (0 : Nat)) (List.cons (PySem.Value.int 3 (0 : Nat)) (List.cons (PySem.Value.ref (168 : Nat)) (List.cons (PySem.Value.bool Bool.true) (List.cons (PySem.Value.int 181 (0 : Nat)) (List.cons (PySem.Value.ref (169 : Nat)) (List.cons PySem.Value.none (List.cons (PySem.Value.ref (170 : Nat)) (List.cons (PySem.Value.ref (171 : Nat)) (List.cons (PySem.Value.ref (172 : Nat)) (List.cons (PySem.Value.int 411 (0 : Nat)) (List.cons (PySem.Value.int 106 (0 : Nat)) (List.cons (PySem.Value.str (.ofString "/claim/cut.py") (412 : Nat)) (List.nil)))))))))))))))))))))) #[])) (
    List.cons (nat_lit 174, .mk (PySem.Value.type "function") (none : Option Nat) (.func (.mk (.ofString "offset") (.ofString "Signal.offset") a17 (.stmts b17) s17 (3 : Nat) ([] : List (PySem.Str × Nat)) PySem.Value.none PySem.Value.none PySem.Value.none (PySem.Value.str (.ofString "gateloom.design") (356 : Nat)) (none : Option Nat) (PySem.Value.ref (173 : Nat)) PySem.Value.none (0 : Nat))) #[]) (
    List.cons (nat_lit 175, (PySem.Obj.mk (PySem.Value.type "tuple") (none : Option Nat) (PySem.Data.seq #[] (0 : Nat)) #[])) (
    List.cons (nat_lit 177, (PySem.Obj.mk (PySem.Value.type "tuple") (none : Option Nat) (PySem.Data.seq #[(PySem.Value.str (.ofString "self") (417 : Nat)), (PySem.Value.str (.ofString "index") (418 : Nat)), (PySem.Value.str (.ofString "place") (419 : Nat))] (0 : Nat)) #[])) (
    List.cons (nat_lit 178, (PySem.Obj.mk (PySem.Value.type "tuple") (none : Option Nat) (PySem.Data.seq #[] (0 : Nat)) #[])) (
    List.cons (nat_lit 180, (PySem.Obj.mk (PySem.Value.type "code") (none : Option Nat) (PySem.Data.fields (List.toArray (List.cons (PySem.Value.str (.ofString "place") (414 : Nat)) (List.cons (PySem.Value.str (.ofString "Signal.place") (415 : Nat)) (List.cons (PySem.Value.str (.ofString "/claim/cut.py") (416 : Nat)) (List.cons (PySem.Value.int 115 (0 : Nat)) (List.cons (PySem.Value.int 2 (0 : Nat)) (List.cons (PySem.Value.int 0 (0 : Nat)) (List.cons (PySem.Value.int 0 (0 : Nat)) (List.cons (PySem.Value.int 3 (0 : Nat)) (List.cons (PySem.Value.ref (175 : Nat)) (List.cons (PySem.Value.bool Bool.true) (List.cons (PySem.Value.int 181 (0 : Nat)) (List.cons (PySem.Value.ref (176 : Nat)) (List.cons PySem.Value.none (List.cons (PySem.Value.ref (177 : Nat)) (List.cons (PySem.Value.ref (178 : Nat)) (List.cons (PySem.Value.ref (179 : Nat)) (List.cons (PySem.Value.int 420 (0 : Nat)) (List.cons (PySem.Value.int 115 (0 : Nat)) (List.cons (PySem.Value.str (.ofString "/claim/cut.py") (421 : Nat)) (List.nil)))))))))))))))))))))) #[])) (
    List.cons (nat_lit 181, .mk (PySem.Value.type "function") (none : Option Nat) (.func (.mk (.ofString "place") (.ofString "Signal.place") a18 (.stmts b18) s18 (3 : Nat) ([] : List (PySem.Str × Nat)) PySem.Value.none PySem.Value.none PySem.Value.none (PySem.Value.str (.ofString "gateloom.design") (356 : Nat)) (none : Option Nat) (PySem.Value.ref (180 : Nat)) PySem.Value.none (0 : Nat))) #[]) (
    List.cons (nat_lit 182, (PySem.Obj.mk (PySem.Value.type "tuple") (none : Option Nat) (PySem.Data.seq #[(PySem.Value.str (.ofString "at") (423 : Nat)), (PySem.Value.str (.ofString "first") (424 : Nat)), (PySem.Value.str (.ofString "init") (425 : Nat)), (PySem.Value.str (.ofString "key") (426 : Nat)), (PySem.Value.str (.ofString "kind") (427 : Nat)), (PySem.Value.str (.ofString "last") (428 : Nat)), (PySem.Value.str (.ofString "lsb") (429 : Nat)), (PySem.Value.str (.ofString "msb") (430 : Nat)), (PySem.Value.str (.ofString "path") (431 : Nat)), (PySem.Value.str (.ofString "scalar") (432 : Nat)), (PySem.Value.str (.ofString "signed") (433 : Nat)), (PySem.Value.str (.ofString "width") (434 : Nat))] (0 : Nat)) #[])) (
    List.cons (nat_lit 183, (PySem.Obj.mk (PySem.Value.type "dict") (none : Option Nat) (PySem.Data.dict #[(PySem.DictEntry.mk (PySem.PyData.keyHash P (.ofString "__module__")) (PySem.Value.str (.ofString "__module__") (365 : Nat)) (PySem.Value.str (.ofString "gateloom.design") (356 : Nat))), (PySem.DictEntry.mk (PySem.PyData.keyHash P (.ofString "__firstlineno__")) (PySem.Value.str (.ofString "__firstlineno__") (369 : Nat)) (PySem.Value.int 79 (368 : Nat))), (PySem.DictEntry.mk (PySem.PyData.keyHash P (.ofString "__init__")) (PySem.Value.str (.ofString "__init__") (383 : Nat)) (PySem.Value.ref (146 : Nat))), (PySem.DictEntry.mk (PySem.PyData.keyHash P (.ofString "is_net")) (PySem.Value.str (.ofString "is_net") (390 : Nat)) (PySem.Value.ref (153 : Nat))), (PySem.DictEntry.mk (PySem.PyData.keyHash P (.ofString "is_memory")) (PySem.Value.str (.ofString "is_memory") (397 : Nat)) (PySem.Value.ref (160 : Nat))), (PySem.DictEntry.mk (PySem.PyData.keyHash P (.ofString "words")) (PySem.Value.str (.ofString "words") (404 : Nat)) (PySem.Value.ref (167 : Nat))), (PySem.DictEntry.mk (PySem.PyData.keyHash P (.ofString "offset")) (PySem.Value.str (.ofString "offset") (413 : Nat)) (PySem.Value.ref (174 : Nat))), (PySem.DictEntry.mk (PySem.PyData.keyHash P (.ofString "place")) (PySem.Value.str (.ofString "place") (422 : Nat)) (PySem.Value.ref (181 : Nat))), (PySem.DictEntry.mk (PySem.PyData.keyHash P (.ofString "__static_attributes__")) (PySem.Value.str (.ofString "__static_attributes__") (435 : Nat)) (PySem.Value.ref (182 : Nat))), (PySem.DictEntry.mk (PySem.PyData.keyHash P (.ofString "__dict__")) (PySem.Value.str (.ofString "__dict__") (437 : Nat)) (PySem.Value.ref (185 : Nat))), (PySem.DictEntry.mk (PySem.PyData.keyHash P (.ofString "__weakref__")) (PySem.Value.str (.ofString "__weakref__") (439 : Nat)) (PySem.Value.ref (186 : Nat))), (PySem.DictEntry.mk (PySem.PyData.keyHash P (.ofString "__doc__")) (PySem.Value.str (.ofString "__doc__") (440 : Nat)) PySem.Value.none)] (4 : Nat)) #[])) (
    List.cons (nat_lit 184, (PySem.Obj.mk (PySem.Value.type "type") (none : Option Nat) (PySem.Data.cls (PySem.ClassData.mk (.ofString "Signal") [(PySem.Value.type "object")] [(PySem.Value.ref (184 : Nat)), (PySem.Value.type "object")] (183 : Nat) (.ofString "Signal") Bool.true [] [] Bool.false none Bool.false)) #[none, none, (Option.some (PySem.Value.str (.ofString "Signal") (358 : Nat))), (Option.some (PySem.Value.str (.ofString "Signal") (366 : Nat))), (Option.some (PySem.Value.builtin "object.__new__")), (Option.some (PySem.Value.bool Bool.true))])) (
    List.cons (nat_lit 185, (PySem.Obj.mk (PySem.Value.type "getset_descriptor") (none : Option Nat) (PySem.Data.fields #[(PySem.Value.str (.ofString "__dict__") (436 : Nat)), (PySem.Value.ref (184 : Nat)), (PySem.Value.builtin "function.__dict__"), (PySem.Value.builtin "function.__dict__#set")]) #[])) (
    List.cons (nat_lit 186, (PySem.Obj.mk (PySem.Value.type "getset_descriptor") (none : Option Nat) (PySem.Data.fields #[(PySem.Value.str (.ofString "__weakref__") (438 : Nat)), (PySem.Value.ref (184 : Nat)), (PySem.Value.builtin "ExceptionGroup.__weakref__"), PySem.Value.none]) #[])) (
    List.cons (nat_lit 196, (PySem.Obj.mk (PySem.Value.type "tuple") (none : Option Nat) (PySem.Data.seq #[] (0 : Nat)) #[])) (
    List.cons (nat_lit 198, (PySem.Obj.mk (PySem.Value.type "tuple") (none : Option Nat) (PySem.Data.seq #[(PySem.Value.str (.ofString "self") (458 : Nat))] (0 : Nat)) #[])) (
    List.cons (nat_lit 199, (PySem.Obj.mk (PySem.Value.type "tuple") (none : Option Nat) (PySem.Data.seq #[] (0 : Nat)) #[])) (
    List.cons (nat_lit 201, (PySem.Obj.mk (PySem.Value.type "code") (none : Option Nat) (PySem.Data.fields (List.toArray (List.cons (PySem.Value.str (.ofString "__init__") (455 : Nat)) (List.cons (PySem.Value.str (.ofString "Design.__init__") (456 : Nat)) (List.cons (PySem.Value.str (.ofString "/claim/cut.py") (457 : Nat)) (List.cons (PySem.Value.int 127 (0 : Nat)) (List.cons (PySem.Value.int 1 (0 : Nat)) (List.cons (PySem.Value.int 0 (0 : Nat)) (List.cons (PySem.Value.int 0 (0 : Nat)) (List.cons (PySem.Value.int 3 (0 : Nat)) (List.cons (PySem.Value.ref (196 : Nat)) (List.cons (PySem.Value.bool Bool.true) (List.cons (PySem.Value.int 181 (0 : Nat)) (List.cons (PySem.Value.ref (197 : Nat)) (List.cons PySem.Value.none (List.cons (PySem.Value.ref (198 : Nat)) (List.cons (PySem.Value.ref (199 : Nat)) (List.cons (PySem.Value.ref (200 : Nat)) (List.cons (PySem.Value.int 459 (0 : Nat)) (List.cons (PySem.Value.int 127 (0 : Nat)) (List.cons (PySem.Value.str (.ofString "/claim/cut.py") (460 : Nat)) (List.nil)))))))))))))))))))))) #[])) (
    List.cons (nat_lit 202, .mk (PySem.Value.type "function") (none : Option Nat) (.func (.mk (.ofString "__init__") (.ofString "Design.__init__") a19 (.stmts b19) s19 (3 : Nat) ([] : List (PySem.Str × Nat)) PySem.Value.none PySem.Value.none PySem.Value.none (PySem.Value.str (.ofString "gateloom.design") (356 : Nat)) (none : Option Nat) (PySem.Value.ref (201 : Nat)) PySem.Value.none (0 : Nat))) #[]) (
    List.cons (nat_lit 203, (PySem.Obj.mk (PySem.Value.type "tuple") (none : Option Nat) (PySem.Data.seq #[] (0 : Nat)) #[])) (
    List.cons (nat_lit 205, (PySem.Obj.mk (PySem.Value.type "tuple") (none : Option Nat) (PySem.Data.seq #[(PySem.Value.str (.ofString "self") (465 : Nat)), (PySem.Value.str (.ofString "path") (466 : Nat)), (PySem.Value.str (.ofString "kind") (467 : Nat)), (PySem.Value.str (.ofString "width") (468 : Nat)), (PySem.Value.str (.ofString "signed") (469 : Nat)), (PySem.Value.str (.ofString "msb") (470 : Nat)), (PySem.Value.str (.ofString "lsb") (471 : Nat)), (PySem.Value.str (.ofString "at") (472 : Nat)), (PySem.Value.str (.ofString "signal") (473 : Nat))] (0 : Nat)) #[])) (
    List.cons (nat_lit 206, (PySem.Obj.mk (PySem.Value.type "tuple") (none : Option Nat) (PySem.Data.seq #[] (0 : Nat)) #[])) (
    List.cons (nat_lit 208, (PySem.Obj.mk (PySem.Value.type "code") (none : Option Nat) (PySem.Data.fields (List.toArray (List.cons (PySem.Value.str (.ofString "add_signal") (462 : Nat)) (List.cons (PySem.Value.str (.ofString "Design.add_signal") (463 : Nat)) (List.cons (PySem.Value.str (.ofString "/claim/cut.py") (464 : Nat)) (List.cons (PySem.Value.int 141 (0 : Nat)) (List.cons (PySem.Value.int 8 (0 : Nat)) (List.cons (PySem.Value.int 0 (0 : Nat)) (List.cons (PySem.Value.int 0 (0 : Nat)) (List.cons (PySem.Value.int 3 (0 : Nat)) (List.cons (PySem.Value.ref (203 : Nat)) (List.cons (PySem.Value.bool Bool.true) (List.cons (PySem.Value.int 181 (0 : Nat)) (List.cons (PySem.Value.ref (204 : Nat)) (List.cons PySem.Value.none (List.cons (PySem.Value.ref (205 : Nat)) (List.cons (PySem.Value.ref (206 : Nat)) (List.cons (PySem.Value.ref (207 : Nat)) (List.cons (PySem.Value.int 474 (0 : Nat)) (List.cons (PySem.Value.int 141 (0 : Nat)) (List.cons (PySem.Value.str (.ofString "/claim/cut.py") (475 : Nat)) (List.nil)))))))))))))))))))))) #[])) (
    List.cons (nat_lit 209, .mk (PySem.Value.type "function") (none : Option Nat) (.func (.mk (.ofString "add_signal") (.ofString "Design.add_signal") a20 (.stmts b20) s20 (3 : Nat) ([] : List (PySem.Str × Nat)) PySem.Value.none PySem.Value.none PySem.Value.none (PySem.Value.str (.ofString "gateloom.design") (356 : Nat)) (none : Option Nat) (PySem.Value.ref (208 : Nat)) PySem.Value.none (0 : Nat))) #[]) (
    List.cons (nat_lit 210, (PySem.Obj.mk (PySem.Value.type "tuple") (none : Option Nat) (PySem.Data.seq #[] (0 : Nat)) #[])) (
    List.cons (nat_lit 212, (PySem.Obj.mk (PySem.Value.type "tuple") (none : Option Nat) (PySem.Data.seq #[(PySem.Value.str (.ofString "self") (480 : Nat)), (PySem.Value.str (.ofString "path") (481 : Nat))] (0 : Nat)) #[])) (
    List.cons (nat_lit 213, (PySem.Obj.mk (PySem.Value.type "tuple") (none : Option Nat) (PySem.Data.seq #[] (0 : Nat)) #[])) (
    List.cons (nat_lit 215, (PySem.Obj.mk (PySem.Value.type "code") (none : Option Nat) (PySem.Data.fields (List.toArray (List.cons (PySem.Value.str (.ofString "add_scope") (477 : Nat)) (List.cons (PySem.Value.str (.ofString "Design.add_scope") (478 : Nat)) (List.cons (PySem.Value.str (.ofString "/claim/cut.py") (479 : Nat)) (List.cons (PySem.Value.int 148 (0 : Nat)) (List.cons (PySem.Value.int 2 (0 : Nat)) (List.cons (PySem.Value.int 0 (0 : Nat)) (List.cons (PySem.Value.int 0 (0 : Nat)) (List.cons (PySem.Value.int 3 (0 : Nat)) (List.cons (PySem.Value.ref (210 : Nat)) (List.cons (PySem.Value.bool Bool.true) (List.cons (PySem.Value.int 181 (0 : Nat)) (List.cons (PySem.Value.ref (211 : Nat)) (List.cons PySem.Value.none (List.cons (PySem.Value.ref (212 : Nat)) (List.cons (PySem.Value.ref (213 : Nat)) (List.cons (PySem.Value.ref (214 : Nat)) (List.cons (PySem.Value.int 482 (0 : Nat)) (List.cons (PySem.Value.int 148 (0 : Nat)) (List.cons (PySem.Value.str (.ofString "/claim/cut.py") (483 : Nat)) (List.nil)))))))))))))))))))))) #[])) (
    List.cons (nat_lit 216, .mk (PySem.Value.type "function") (none : Option Nat) (.func (.mk (.ofString "add_scope") (.ofString "Design.add_scope") a21 (.stmts b21) s21 (3 : Nat) ([] : List (PySem.Str × Nat)) PySem.Value.none PySem.Value.none PySem.Value.none (PySem.Value.str (.ofString "gateloom.design") (356 : Nat)) (none : Option Nat) (PySem.Value.ref (215 : Nat)) PySem.Value.none (0 : Nat))) #[]) (
    List.cons (nat_lit 217, (PySem.Obj.mk (PySem.Value.type "tuple") (none : Option Nat) (PySem.Data.seq #[] (0 : Nat)) #[])) (
    List.cons (nat_lit 219, (PySem.Obj.mk (PySem.Value.type "tuple") (none : Option Nat) (PySem.Data.seq #[(PySem.Value.str (.ofString "self") (488 : Nat)), (PySem.Value.str (.ofString "path") (489 : Nat)), (PySem.Value.str (.ofString "is_function") (490 : Nat)), (PySem.Value.str (.ofString "automatic") (491 : Nat)), (PySem.Value.str (.ofString "at") (492 : Nat))] (0 : Nat)) #[])) (
    List.cons (nat_lit 220, (PySem.Obj.mk (PySem.Value.type "tuple") (none : Option Nat) (PySem.Data.seq #[] (0 : Nat)) #[])) (
    List.cons (nat_lit 222, (PySem.Obj.mk (PySem.Value.type "code") (none : Option Nat) (PySem.Data.fields (List.toArray (List.cons (PySem.Value.str (.ofString "add_routine") (485 : Nat)) (List.cons (PySem.Value.str (.ofString "Design.add_routine") (486 : Nat)) (List.cons (PySem.Value.str (.ofString "/claim/cut.py") (487 : Nat)) (List.cons (PySem.Value.int 152 (0 : Nat)) (List.cons (PySem.Value.int 5 (0 : Nat)) (List.cons (PySem.Value.int 0 (0 : Nat)) (List.cons (PySem.Value.int 0 (0 : Nat)) (List.cons (PySem.Value.int 3 (0 : Nat)) (List.cons (PySem.Value.ref (217 : Nat)) (List.cons (PySem.Value.bool Bool.true) (List.cons (PySem.Value.int 181 (0 : Nat)) (List.cons (PySem.Value.ref (218 : Nat)) (List.cons PySem.Value.none (List.cons (PySem.Value.ref (219 : Nat)) (List.cons (PySem.Value.ref (220 : Nat)) (List.cons (PySem.Value.ref (221 : Nat)) (List.cons (PySem.Value.int 493 (0 : Nat)) (List.cons (PySem.Value.int 152 (0 : Nat)) (List.cons (PySem.Value.str (.ofString "/claim/cut.py") (494 : Nat)) (List.nil)))))))))))))))))))))) #[])) (
    List.cons (nat_lit 223, .mk (PySem.Value.type "function") (none : Option Nat) (.func (.mk (.ofString "add_routine") (.ofString "Design.add_routine") a22 (.stmts b22) s22 (3 : Nat) ([] : List (PySem.Str × Nat)) PySem.Value.none PySem.Value.none PySem.Value.none (PySem.Value.str (.ofString "gateloom.design") (356 : Nat)) (none : Option Nat) (PySem.Value.ref (222 : Nat)) PySem.Value.none (0 : Nat))) #[]) (
    List.cons (nat_lit 224, (PySem.Obj.mk (PySem.Value.type "tuple") (none : Option Nat) (PySem.Data.seq #[] (0 : Nat)) #[])) (
    List.cons (nat_lit 226, (PySem.Obj.mk (PySem.Value.type "tuple") (none : Option Nat) (PySem.Data.seq #[(PySem.Value.str (.ofString "self") (499 : Nat)), (PySem.Value.str (.ofString "kind") (500 : Nat)), (PySem.Value.str (.ofString "body") (501 : Nat)), (PySem.Value.str (.ofString "path") (502 : Nat)), (PySem.Value.str (.ofString "at") (503 : Nat))] (0 : Nat)) #[])) (
    List.cons (nat_lit 227, (PySem.Obj.mk (PySem.Value.type "tuple") (none : Option Nat) (PySem.Data.seq #[] (0 : Nat)) #[])) (
    List.cons (nat_lit 229, (PySem.Obj.mk (PySem.Value.type "code") (none : Option Nat) (PySem.Data.fields (List.toArray (List.cons (PySem.Value.str (.ofString "add_process") (496 : Nat)) (List.cons (PySem.Value.str (.ofString "Design.add_process") (497 : Nat)) (List.cons (PySem.Value.str (.ofString "/claim/cut.py") (498 : Nat)) (List.cons (PySem.Value.int 155 (0 : Nat)) (List.cons (PySem.Value.int 5 (0 : Nat)) (List.cons (PySem.Value.int 0 (0 : Nat)) (List.cons (PySem.Value.int 0 (0 : Nat)) (List.cons (PySem.Value.int 3 (0 : Nat)) (List.cons (PySem.Value.ref (224 : Nat)) (List.cons (PySem.Value.bool Bool.true) (List.cons (PySem.Value.int 181 (0 : Nat)) (List.cons (PySem.Value.ref (225 : Nat)) (List.cons PySem.Value.none (List.cons (PySem.Value.ref (226 : Nat)) (List.cons (PySem.Value.ref (227 : Nat)) (List.cons (PySem.Value.ref (228 : Nat)) (List.cons (PySem.Value.int 504 (0 : Nat)) (List.cons (PySem.Value.int 155 (0 : Nat)) (List.cons (PySem.Value.str (.ofString "/claim/cut.py") (505 : Nat)) (List.nil)))))))))))))))))))))) #[])) (
    List.cons (nat_lit 230, .mk (PySem.Value.type "function") (none : Option Nat) (.func (.mk (.ofString "add_process") (.ofString "Design.add_process") a23 (.stmts b23) s23 (3 : Nat) ([] : List (PySem.Str × Nat)) PySem.Value.none PySem.Value.none PySem.Value.none (PySem.Value.str (.ofString "gateloom.design") (356 : Nat)) (none : Option Nat) (PySem.Value.ref (229 : Nat)) PySem.Value.none (0 : Nat))) #[]) (
    List.cons (nat_lit 231, (PySem.Obj.mk (PySem.Value.type "tuple") (none : Option Nat) (PySem.Data.seq #[] (0 : Nat)) #[])) (
    List.cons (nat_lit 233, (PySem.Obj.mk (PySem.Value.type "tuple") (none : Option Nat) (PySem.Data.seq #[(PySem.Value.str (.ofString "self") (510 : Nat)), (PySem.Value.str (.ofString "path") (511 : Nat))] (0 : Nat)) #[])) (
    List.cons (nat_lit 234, (PySem.Obj.mk (PySem.Value.type "tuple") (none : Option Nat) (PySem.Data.seq #[] (0 : Nat)) #[])) (
    List.cons (nat_lit 236, (PySem.Obj.mk (PySem.Value.type "code") (none : Option Nat) (PySem.Data.fields (List.toArray (List.cons (PySem.Value.str (.ofString "find") (507 : Nat)) (List.cons (PySem.Value.str (.ofString "Design.find") (508 : Nat)) (List.cons (PySem.Value.str (.ofString "/claim/cut.py") (509 : Nat)) (List.cons (PySem.Value.int 158 (0 : Nat)) (List.cons (PySem.Value.int 2 (0 : Nat)) (List.cons (PySem.Value.int 0 (0 : Nat)) (List.cons (PySem.Value.int 0 (0 : Nat)) (List.cons (PySem.Value.int 3 (0 : Nat)) (List.cons (PySem.Value.ref (231 : Nat)) (List.cons (PySem.Value.bool Bool.true) (List.cons (PySem.Value.int 181 (0 : Nat)) (List.cons (PySem.Value.ref (232 : Nat)) (List.cons PySem.Value.none (List.cons (PySem.Value.ref (233 : Nat)) (List.cons (PySem.Value.ref (234 : Nat)) (List.cons (PySem.Value.ref (235 : Nat)) (List.cons (PySem.Value.int 512 (0 : Nat)) (List.cons (PySem.Value.int 158 (0 : Nat)) (List.cons (PySem.Value.str (.ofString "/claim/cut.py") (513 : Nat)) (List.nil)))))))))))))))))))))) #[])) (
    List.cons (nat_lit 237, .mk (PySem.Value.type "function") (none : Option Nat) (.func (.mk (.ofString "find") (.ofString "Design.find") a24 (.stmts b24) s24 (3 : Nat) ([] : List (PySem.Str × Nat)) PySem.Value.none PySem.Value.none PySem.Value.none (PySem.Value.str (.ofString "gateloom.design") (356 : Nat)) (none : Option Nat) (PySem.Value.ref (236 : Nat)) PySem.Value.none (0 : Nat))) #[]) (
    List.cons (nat_lit 238, (PySem.Obj.mk (PySem.Value.type "tuple") (none : Option Nat) (PySem.Data.seq #[] (0 : Nat)) #[])) (
    List.cons (nat_lit 240, (PySem.Obj.mk (PySem.Value.type "tuple") (none : Option Nat) (PySem.Data.seq #[(PySem.Value.str (.ofString "self") (518 : Nat)), (PySem.Value.str (.ofString "n") (519 : Nat)), (PySem.Value.str (.ofString "routine") (520 : Nat))] (0 : Nat)) #[])) (
    List.cons (nat_lit 241, (PySem.Obj.mk (PySem.Value.type "tuple") (none : Option Nat) (PySem.Data.seq #[] (0 : Nat)) #[])) (
    List.cons (nat_lit 243, (PySem.Obj.mk (PySem.Value.type "code") (none : Option Nat) (PySem.Data.fields (List.toArray (List.cons (PySem.Value.str (.ofString "routine") (515 : Nat)) (List.cons (PySem.Value.str (.ofString "Design.routine") (516 : Nat)) (List.cons (PySem.Value.str (.ofString "/claim/cut.py") (517 : Nat)) (List.cons (PySem.Value.int 161 (0 : Nat)) (List.cons (PySem.Value.int 2 (0 : Nat)) (List.cons (PySem.Value.int 0 (0 : Nat)) (List.cons (PySem.Value.int 0 (0 : Nat)) (List.cons (PySem.Value.int 3 (0 : Nat)) (List.cons (PySem.Value.ref (238 : Nat)) (List.cons (PySem.Value.bool Bool.true) (List.cons (PySem.Value.int 181 (0 : Nat)) (List.cons (PySem.Value.ref (239 : Nat)) (List.cons PySem.Value.none (List.cons (PySem.Value.ref (240 : Nat)) (List.cons (PySem.Value.ref (241 : Nat)) (List.cons (PySem.Value.ref (242 : Nat)) (List.cons (PySem.Value.int 521 (0 : Nat)) (List.cons (PySem.Value.int 161 (0 : Nat)) (List.cons (PySem.Value.str (.ofString "/claim/cut.py") (522 : Nat)) (List.nil)))))))))))))))))))))) #[])) (
    List.cons (nat_lit 244, .mk (PySem.Value.type "function") (none : Option Nat) (.func (.mk (.ofString "routine") (.ofString "Design.routine") a25 (.stmts b25) s25 (3 : Nat) ([] : List (PySem.Str × Nat)) PySem.Value.none PySem.Value.none PySem.Value.none (PySem.Value.str (.ofString "gateloom.design") (356 : Nat)) (none : Option Nat) (PySem.Value.ref (243 : Nat)) PySem.Value.none (0 : Nat))) #[]) (
    List.cons (nat_lit 245, (PySem.Obj.mk (PySem.Value.type "tuple") (none : Option Nat) (PySem.Data.seq #[(PySem.Value.str (.ofString "assigns") (524 : Nat)), (PySem.Value.str (.ofString "by_path") (525 : Nat)), (PySem.Value.str (.ofString "gates") (526 : Nat)), (PySem.Value.str (.ofString "maker") (527 : Nat)), (PySem.Value.str (.ofString "nesting") (528 : Nat)), (PySem.Value.str (.ofString "ports") (529 : Nat)), (PySem.Value.str (.ofString "processes") (530 : Nat)), (PySem.Value.str (.ofString "routines") (531 : Nat)), (PySem.Value.str (.ofString "scopes") (532 : Nat)), (PySem.Value.str (.ofString "signals") (533 : Nat)), (PySem.Value.str (.ofString "tops") (534 : Nat)), (PySem.Value.str (.ofString "udps") (535 : Nat))] (0 : Nat)) #[])) (
    List.cons (nat_lit 246, (PySem.Obj.mk (PySem.Value.type "dict") (none : Option Nat) (PySem.Data.dict (List.toArray (List.cons (PySem.DictEntry.mk (PySem.PyData.keyHash P (.ofString "__module__")) (PySem.Value.str (.ofString "__module__") (450 : Nat)) (PySem.Value.str (.ofString "gateloom.design") (356 : Nat))) (List.cons (PySem.DictEntry.mk (PySem.PyData.keyHash P (.ofString "__firstlineno__")) (PySem.Value.str (.ofString "__firstlineno__") (454 : Nat)) (PySem.Value.int 125 (453 : Nat))) (List.cons (PySem.DictEntry.mk (PySem.PyData.keyHash P (.ofString "__init__")) (PySem.Value.str (.ofString "__init__") (461 : Nat)) (PySem.Value.ref (202 : Nat))) (List.cons (PySem.DictEntry.mk (PySem.PyData.keyHash P (.ofString "add_signal")) (PySem.Value.str (.ofString "add_signal") (476 : Nat)) (PySem.Value.ref (209 : Nat))) (List.cons (PySem.DictEntry.mk (PySem.PyData.keyHash P (.ofString "add_scope")) (PySem.Value.str (.ofString "add_scope") (484 : Nat)) (PySem.Value.ref (216 : Nat))) (List.cons (PySem.DictEntry.mk (PySem.PyData.keyHash P (.ofString "add_routine")) (PySem.Value.str (.ofString "add_routine") (495 : Nat)) (PySem.Value.ref (223 : Nat))) (List.cons (PySem.DictEntry.mk (PySem.PyData.keyHash P (.ofString "add_process")) (PySem.Value.str (.ofString "add_process") (506 : Nat)) (PySem.Value.ref (230 : Nat))) (List.cons (PySem.DictEntry.mk (PySem.PyData.keyHash P (.ofString "find")) (PySem.Value.str (.ofString "find") (514 : Nat)) (PySem.Value.ref (237 : Nat))) (List.cons (PySem.DictEntry.mk (PySem.PyData.keyHash P (.ofString "routine")) (PySem.Value.str (.ofString "routine") (523 : Nat)) (PySem.Value.ref (244 : Nat))) (List.cons (PySem.DictEntry.mk (PySem.PyData.keyHash P (.ofString "__static_attributes__")) (PySem.Value.str (.ofString "__static_attributes__") (536 : Nat)) (PySem.Value.ref (245 : Nat))) (List.cons (PySem.DictEntry.mk (PySem.PyData.keyHash P (.ofString "__dict__")) (PySem.Value.str (.ofString "__dict__") (538 : Nat)) (PySem.Value.ref (248 : Nat))) (List.cons (PySem.DictEntry.mk (PySem.PyData.keyHash P (.ofString "__weakref__")) (PySem.Value.str (.ofString "__weakref__") (540 : Nat)) (PySem.Value.ref (249 : Nat))) (List.cons (PySem.DictEntry.mk (PySem.PyData.keyHash P (.ofString "__doc__")) (PySem.Value.str (.ofString "__doc__") (541 : Nat)) PySem.Value.none) (List.nil))))))))))))))) (4 : Nat)) #[])) (
    List.cons (nat_lit 247, (PySem.Obj.mk (PySem.Value.type "type") (none : Option Nat) (PySem.Data.cls (PySem.ClassData.mk (.ofString "Design") [(PySem.Value.type "object")] [(PySem.Value.ref (247 : Nat)), (PySem.Value.type "object")] (246 : Nat) (.ofString "Design") Bool.true [] [] Bool.false none Bool.false)) #[none, none, (Option.some (PySem.Value.str (.ofString "Design") (443 : Nat))), (Option.some (PySem.Value.str (.ofString "Design") (451 : Nat))), (Option.some (PySem.Value.builtin "object.__new__")), (Option.some (PySem.Value.bool Bool.true))])) (
    List.cons (nat_lit 248, (PySem.Obj.mk (PySem.Value.type "getset_descriptor") (none : Option Nat) (PySem.Data.fields #[(PySem.Value.str (.ofString "__dict__") (537 : Nat)), (PySem.Value.ref (247 : Nat)), (PySem.Value.builtin "function.__dict__"), (PySem.Value.builtin "function.__dict__#set")]) #[])) (
    List.cons (nat_lit 249, (PySem.Obj.mk (PySem.Value.type "getset_descriptor") (none : Option Nat) (PySem.Data.fields #[(PySem.Value.str (.ofString "__weakref__") (539 : Nat)), (PySem.Value.ref (247 : Nat)), (PySem.Value.builtin "ExceptionGroup.__weakref__"), PySem.Value.none]) #[])) (
    List.cons (nat_lit 259, (PySem.Obj.mk (PySem.Value.type "tuple") (none : Option Nat) (PySem.Data.seq #[] (0 : Nat)) #[])) (
    List.cons (nat_lit 261, (PySem.Obj.mk (PySem.Value.type "tuple") (none : Option Nat) (PySem.Data.seq #[(PySem.Value.str (.ofString "self") (561 : Nat)), (PySem.Value.str (.ofString "design") (562 : Nat)), (PySem.Value.str (.ofString "name") (563 : Nat)), (PySem.Value.str (.ofString "parent") (564 : Nat)), (PySem.Value.str (.ofString "kind") (565 : Nat))] (0 : Nat)) #[])) (
    List.cons (nat_lit 262, (PySem.Obj.mk (PySem.Value.type "tuple") (none : Option Nat) (PySem.Data.seq #[] (0 : Nat)) #[])) (
    List.cons (nat_lit 264, (PySem.Obj.mk (PySem.Value.type "code") (none : Option Nat) (PySem.Data.fields (List.toArray (List.cons (PySem.Value.str (.ofString "__init__") (558 : Nat)) (List.cons (PySem.Value.str (.ofString "Scope.__init__") (559 : Nat)) (List.cons (PySem.Value.str (.ofString "/claim/cut.py") (560 : Nat)) (List.cons (PySem.Value.int 171 (0 : Nat)) (List.cons (PySem.Value.int 5 (0 : Nat)) (List.cons (PySem.Value.int 0 (0 : Nat)) (List.cons (PySem.Value.int 0 (0 : Nat)) (List.cons (PySem.Value.int 3 (0 : Nat)) (List.cons (PySem.Value.ref (259 : Nat)) (List.cons (PySem.Value.bool Bool.true) (List.cons (PySem.Value.int 181 (0 : Nat)) (List.cons (PySem.Value.ref (260 : Nat)) (List.cons PySem.Value.none (List.cons (PySem.Value.ref (261 : Nat)) (List.cons (PySem.Value.ref (262 : Nat)) (List.cons (PySem.Value.ref (263 : Nat)) (List.cons (PySem.Value.int 566 (0 : Nat)) (List.cons (PySem.Value.int 171 (0 : Nat)) (List.cons (PySem.Value.str (.ofString "/claim/cut.py") (567 : Nat)) (List.nil)))))))))))))))))))))) #[])) (
    List.cons (nat_lit 265, .mk (PySem.Value.type "function") (none : Option Nat) (.func (.mk (.ofString "__init__") (.ofString "Scope.__init__") a26 (.stmts b26) s26 (3 : Nat) ([] : List (PySem.Str × Nat)) PySem.Value.none PySem.Value.none PySem.Value.none (PySem.Value.str (.ofString "gateloom.scopes") (544 : Nat)) (none : Option Nat) (PySem.Value.ref (264 : Nat)) PySem.Value.none (0 : Nat))) #[]) (
    List.cons (nat_lit 266, (PySem.Obj.mk (PySem.Value.type "tuple") (none : Option Nat) (PySem.Data.seq #[] (0 : Nat)) #[])) (
    List.cons (nat_lit 268, (PySem.Obj.mk (PySem.Value.type "tuple") (none : Option Nat) (PySem.Data.seq #[(PySem.Value.str (.ofString "self") (572 : Nat)), (PySem.Value.str (.ofString "name") (573 : Nat)), (PySem.Value.str (.ofString "kind") (574 : Nat)), (PySem.Value.str (.ofString "at") (575 : Nat)), (PySem.Value.str (.ofString "inner") (576 : Nat))] (0 : Nat)) #[])) (
    List.cons (nat_lit 269, (PySem.Obj.mk (PySem.Value.type "tuple") (none : Option Nat) (PySem.Data.seq #[] (0 : Nat)) #[])) (
    List.cons (nat_lit 271, (PySem.Obj.mk (PySem.Value.type "code") (none : Option Nat) (PySem.Data.fields (List.toArray (List.cons (PySem.Value.str (.ofString "child") (569 : Nat)) (List.cons (PySem.Value.str (.ofString "Scope.child") (570 : Nat)) (List.cons (PySem.Value.str (.ofString "/claim/cut.py") (571 : Nat)) (List.cons (PySem.Value.int 185 (0 : Nat)) (List.cons (PySem.Value.int 4 (0 : Nat)) (List.cons (PySem.Value.int 0 (0 : Nat)) (List.cons (PySem.Value.int 0 (0 : Nat)) (List.cons (PySem.Value.int 3 (0 : Nat)) (List.cons (PySem.Value.ref (266 : Nat)) (List.cons (PySem.Value.bool Bool.true) (List.cons (PySem.Value.int 181 (0 : Nat)) (List.cons (PySem.Value.ref (267 : Nat)) (List.cons PySem.Value.none (List.cons (PySem.Value.ref (268 : Nat)) (List.cons (PySem.Value.ref (269 : Nat)) (List.cons (PySem.Value.ref (270 : Nat)) (List.cons (PySem.Value.int 577 (0 : Nat)) (List.cons (PySem.Value.int 185 (0 : Nat)) (List.cons (PySem.Value.str (.ofString "/claim/cut.py") (578 : Nat)) (List.nil)))))))))))))))))))))) #[])) (
    List.cons (nat_lit 272, .mk (PySem.Value.type "function") (none : Option Nat) (.func (.mk (.ofString "child") (.ofString "Scope.child") a27 (.stmts b27) s27 (3 : Nat) ([] : List (PySem.Str × Nat)) PySem.Value.none PySem.Value.none PySem.Value.none (PySem.Value.str (.ofString "gateloom.scopes") (544 : Nat)) (none : Option Nat) (PySem.Value.ref (271 : Nat)) PySem.Value.none (0 : Nat))) #[]) (
    List.cons (nat_lit 273, (PySem.Obj.mk (PySem.Value.type "tuple") (none : Option Nat) (PySem.Data.seq #[] (0 : Nat)) #[])) (
    List.cons (nat_lit 275, (PySem.Obj.mk (PySem.Value.type "tuple") (none : Option Nat) (PySem.Data.seq #[(PySem.Value.str (.ofString "self") (583 : Nat)), (PySem.Value.str (.ofString "name") (584 : Nat)), (PySem.Value.str (.ofString "entry") (585 : Nat)), (PySem.Value.str (.ofString "at") (586 : Nat))] (0 : Nat)) #[])) (
    List.cons (nat_lit 276, (PySem.Obj.mk (PySem.Value.type "tuple") (none : Option Nat) (PySem.Data.seq #[] (0 : Nat)) #[])) (
    List.cons (nat_lit 278, (PySem.Obj.mk (PySem.Value.type "code") (none : Option Nat) (PySem.Data.fields (List.toArray (List.cons (PySem.Value.str (.ofString "declare") (580 : Nat)) (List.cons (PySem.Value.str (.ofString "Scope.declare") (581 : Nat)) (List.cons (PySem.Value.str (.ofString "/claim/cut.py") (582 : Nat)) (List.cons (PySem.Value.int 190 (0 : Nat)) (List.cons (PySem.Value.int 4 (0 : Nat)) (List.cons (PySem.Value.int 0 (0 : Nat)) (List.cons (PySem.Value.int 0 (0 : Nat)) (List.cons (PySem.Value.int 3 (0 : Nat)) (List.cons (PySem.Value.ref (273 : Nat)) (List.cons (PySem.Value.bool Bool.true) (List.cons (PySem.Value.int 181 (0 : Nat)) (List.cons (PySem.Value.ref (274 : Nat)) (List.cons PySem.Value.none (List.cons (PySem.Value.ref (275 : Nat)) (List.cons (PySem.Value.ref (276 : Nat)) (List.cons (PySem.Value.ref (277 : Nat)) (List.cons (PySem.Value.int 587 (0 : Nat)) (List.cons (PySem.Value.int 190 (0 : Nat)) (List.cons (PySem.Value.str (.ofString "/claim/cut.py") (588 : Nat)) (List.nil)))))))))))))))))))))) #[])) (
    List.cons (nat_lit 279, .mk (PySem.Value.type "function") (none : Option Nat) (.func (.mk (.ofString "declare") (.ofString "Scope.declare") a28 (.stmts b28) s28 (3 : Nat) ([] : List (PySem.Str × Nat)) PySem.Value.none PySem.Value.none PySem.Value.none (PySem.Value.str (.ofString "gateloom.scopes") (544 : Nat)) (none : Option Nat) (PySem.Value.ref (278 : Nat)) PySem.Value.none (0 : Nat))) #[]) (
    List.cons (nat_lit 280, (PySem.Obj.mk (PySem.Value.type "tuple") (none : Option Nat) (PySem.Data.seq #[] (0 : Nat)) #[])) (
    List.cons (nat_lit 282, (PySem.Obj.mk (PySem.Value.type "tuple") (none : Option Nat) (PySem.Data.seq #[(PySem.Value.str (.ofString "self") (593 : Nat))] (0 : Nat)) #[])) (
    List.cons (nat_lit 283, (PySem.Obj.mk (PySem.Value.type "tuple") (none : Option Nat) (PySem.Data.seq #[] (0 : Nat)) #[])) (
    List.cons (nat_lit 285, (PySem.Obj.mk (PySem.Value.type "code") (none : Option Nat) (PySem.Data.fields (List.toArray (List.cons (PySem.Value.str (.ofString "module_scope") (590 : Nat)) (List.cons (PySem.Value.str (.ofString "Scope.module_scope") (591 : Nat)) (List.cons (PySem.Value.str (.ofString "/claim/cut.py") (592 : Nat)) (List.cons (PySem.Value.int 195 (0 : Nat)) (List.cons (PySem.Value.int 1 (0 : Nat)) (List.cons (PySem.Value.int 0 (0 : Nat)) (List.cons (PySem.Value.int 0 (0 : Nat)) (List.cons (PySem.Value.int 3 (0 : Nat)) (List.cons (PySem.Value.ref (280 : Nat)) (List.cons (PySem.Value.bool Bool.true) (List.cons (PySem.Value.int 181 (0 : Nat)) (List.cons (PySem.Value.ref (281 : Nat)) (List.cons PySem.Value.none (List.cons (PySem.Value.ref (282 : Nat)) (List.cons (PySem.Value.ref (283 : Nat)) (List.cons (PySem.Value.ref (284 : Nat)) (List.cons (PySem.Value.int 594 (0 : Nat)) (List.cons (PySem.Value.int 195 (0 : Nat)) (List.cons (PySem.Value.str (.ofString "/claim/cut.py") (595 : Nat)) (List.nil)))))))))))))))))))))) #[])) (
    List.cons (nat_lit 286, .mk (PySem.Value.type "function") (none : Option Nat) (.func (.mk (.ofString "module_scope") (.ofString "Scope.module_scope") a29 (.stmts b29) s29 (3 : Nat) ([] : List (PySem.Str × Nat)) PySem.Value.none PySem.Value.none PySem.Value.none (PySem.Value.str (.ofString "gateloom.scopes") (544 : Nat)) (none : Option Nat) (PySem.Value.ref (285 : Nat)) PySem.Value.none (0 : Nat))) #[]) (
    List.cons (nat_lit 287, (PySem.Obj.mk (PySem.Value.type "tuple") (none : Option Nat) (PySem.Data.seq #[] (0 : Nat)) #[])) (
    List.cons (nat_lit 289, (PySem.Obj.mk (PySem.Value.type "tuple") (none : Option Nat) (PySem.Data.seq #[(PySem.Value.str (.ofString "self") (600 : Nat)), (PySem.Value.str (.ofString "name") (601 : Nat))] (0 : Nat)) #[])) (
    List.cons (nat_lit 290, (PySem.Obj.mk (PySem.Value.type "tuple") (none : Option Nat) (PySem.Data.seq #[] (0 : Nat)) #[])) (
    List.cons (nat_lit 292, (PySem.Obj.mk (PySem.Value.type "code") (none : Option Nat) (PySem.Data.fields (List.toArray (List.cons (PySem.Value.str (.ofString "lookup") (597 : Nat)) (List.cons (PySem.Value.str (.ofString "Scope.lookup") (598 : Nat)) (List.cons (PySem.Value.str (.ofString "/claim/cut.py") (599 : Nat)) (List.cons (PySem.Value.int 198 (0 : Nat)) (List.cons (PySem.Value.int 2 (0 : Nat)) (List.cons (PySem.Value.int 0 (0 : Nat)) (List.cons (PySem.Value.int 0 (0 : Nat)) (List.cons (PySem.Value.int 3 (0 : Nat)) (List.cons (PySem.Value.ref (287 : Nat)) (List.cons (PySem.Value.bool Bool.true) (List.cons (PySem.Value.int 181 (0 : Nat)) (List.cons (PySem.Value.ref (288 : Nat)) (List.cons PySem.Value.none (List.cons (PySem.Value.ref (289 : Nat)) (List.cons (PySem.Value.ref (290 : Nat)) (List.cons (PySem.Value.ref (291 : Nat)) (List.cons (PySem.Value.int 602 (0 : Nat)) (List.cons (PySem.Value.int 198 (0 : Nat)) (List.cons (PySem.Value.str (.ofString "/claim/cut.py") (603 : Nat)) (List.nil)))))))))))))))))))))) #[])) (
    List.cons (nat_lit 293, .mk (PySem.Value.type "function") (none : Option Nat) (.func (.mk (.ofString "lookup") (.ofString "Scope.lookup") a30 (.stmts b30) s30 (3 : Nat) ([] : List (PySem.Str × Nat)) PySem.Value.none PySem.Value.none PySem.Value.none (PySem.Value.str (.ofString "gateloom.scopes") (544 : Nat)) (none : Option Nat) (PySem.Value.ref (292 : Nat)) PySem.Value.none (0 : Nat))) #[]) (
    List.cons (nat_lit 294, (PySem.Obj.mk (PySem.Value.type "tuple") (none : Option Nat) (PySem.Data.seq #[] (0 : Nat)) #[])) (
    List.cons (nat_lit 296, (PySem.Obj.mk (PySem.Value.type "tuple") (none : Option Nat) (PySem.Data.seq #[(PySem.Value.str (.ofString "self") (608 : Nat)), (PySem.Value.str (.ofString "name") (609 : Nat))] (0 : Nat)) #[])) (
    List.cons (nat_lit 297, (PySem.Obj.mk (PySem.Value.type "tuple") (none : Option Nat) (PySem.Data.seq #[] (0 : Nat)) #[])) (
    List.cons (nat_lit 299, (PySem.Obj.mk (PySem.Value.type "code") (none : Option Nat) (PySem.Data.fields (List.toArray (List.cons (PySem.Value.str (.ofString "lookup_routine") (605 : Nat)) (List.cons (PySem.Value.str (.ofString "Scope.lookup_routine") (606 : Nat)) (List.cons (PySem.Value.str (.ofString "/claim/cut.py") (607 : Nat)) (List.cons (PySem.Value.int 201 (0 : Nat)) (List.cons (PySem.Value.int 2 (0 : Nat)) (List.cons (PySem.Value.int 0 (0 : Nat)) (List.cons (PySem.Value.int 0 (0 : Nat)) (List.cons (PySem.Value.int 3 (0 : Nat)) (List.cons (PySem.Value.ref (294 : Nat)) (List.cons (PySem.Value.bool Bool.true) (List.cons (PySem.Value.int 181 (0 : Nat)) (List.cons (PySem.Value.ref (295 : Nat)) (List.cons PySem.Value.none (List.cons (PySem.Value.ref (296 : Nat)) (List.cons (PySem.Value.ref (297 : Nat)) (List.cons (PySem.Value.ref (298 : Nat)) (List.cons (PySem.Value.int 610 (0 : Nat)) (List.cons (PySem.Value.int 201 (0 : Nat)) (List.cons (PySem.Value.str (.ofString "/claim/cut.py") (611 : Nat)) (List.nil)))))))))))))))))))))) #[])) (
    List.cons (nat_lit 300, .mk (PySem.Value.type "function") (none : Option Nat) (.func (.mk (.ofString "lookup_routine") (.ofString "Scope.lookup_routine") a31 (.stmts b31) s31 (3 : Nat) ([] : List (PySem.Str × Nat)) PySem.Value.none PySem.Value.none PySem.Value.none (PySem.Value.str (.ofString "gateloom.scopes") (544 : Nat)) (none : Option Nat) (PySem.Value.ref (299 : Nat)) PySem.Value.none (0 : Nat))) #[]) (
    List.cons (nat_lit 301, (PySem.Obj.mk (PySem.Value.type "tuple") (none : Option Nat) (PySem.Data.seq #[] (0 : Nat)) #[])) (
    List.cons (nat_lit 303, (PySem.Obj.mk (PySem.Value.type "tuple") (none : Option Nat) (PySem.Data.seq #[(PySem.Value.str (.ofString "self") (616 : Nat)), (PySem.Value.str (.ofString "parts") (617 : Nat))] (0 : Nat)) #[])) (
    List.cons (nat_lit 304, (PySem.Obj.mk (PySem.Value.type "tuple") (none : Option Nat) (PySem.Data.seq #[] (0 : Nat)) #[])) (
    List.cons (nat_lit 306, (PySem.Obj.mk (PySem.Value.type "code") (none : Option Nat) (PySem.Data.fields (List.toArray (List.cons (PySem.Value.str (.ofString "descend") (613 : Nat)) (List.cons (PySem.Value.str (.ofString "Scope.descend") (614 : Nat)) (List.cons (PySem.Value.str (.ofString "/claim/cut.py") (615 : Nat)) (List.cons (PySem.Value.int 204 (0 : Nat)) (List.cons (PySem.Value.int 2 (0 : Nat)) (List.cons (PySem.Value.int 0 (0 : Nat)) (List.cons (PySem.Value.int 0 (0 : Nat)) (List.cons (PySem.Value.int 3 (0 : Nat)) (List.cons (PySem.Value.ref (301 : Nat)) (List.cons (PySem.Value.bool Bool.true) (List.cons (PySem.Value.int 181 (0 : Nat)) (List.cons (PySem.Value.ref (302 : Nat)) (List.cons PySem.Value.none (List.cons (PySem.Value.ref (303 : Nat)) (List.cons (PySem.Value.ref (304 : Nat)) (List.cons (PySem.Value.ref (305 : Nat)) (List.cons (PySem.Value.int 618 (0 : Nat)) (List.cons (PySem.Value.int 204 (0 : Nat)) (List.cons (PySem.Value.str (.ofString "/claim/cut.py") (619 : Nat)) (List.nil)))))))))))))))))))))) #[])) (
    List.cons (nat_lit 307, .mk (PySem.Value.type "function") (none : Option Nat) (.func (.mk (.ofString "descend") (.ofString "Scope.descend") a32 (.stmts b32) s32 (3 : Nat) ([] : List (PySem.Str × Nat)) PySem.Value.none PySem.Value.none PySem.Value.none (PySem.Value.str (.ofString "gateloom.scopes") (544 : Nat)) (none : Option Nat) (PySem.Value.ref (306 : Nat)) PySem.Value.none (0 : Nat))) #[]) (
    List.cons (nat_lit 308, (PySem.Obj.mk (PySem.Value.type "tuple") (none : Option Nat) (PySem.Data.seq #[] (0 : Nat)) #[])) (
    List.cons (nat_lit 310, (PySem.Obj.mk (PySem.Value.type "tuple") (none : Option Nat) (PySem.Data.seq #[(PySem.Value.str (.ofString "self") (624 : Nat)), (PySem.Value.str (.ofString "parts") (625 : Nat)), (PySem.Value.str (.ofString "at") (626 : Nat))] (0 : Nat)) #[])) (
    List.cons (nat_lit 311, (PySem.Obj.mk (PySem.Value.type "tuple") (none : Option Nat) (PySem.Data.seq #[] (0 : Nat)) #[])) (
    List.cons (nat_lit 313, (PySem.Obj.mk (PySem.Value.type "code") (none : Option Nat) (PySem.Data.fields (List.toArray (List.cons (PySem.Value.str (.ofString "resolve") (621 : Nat)) (List.cons (PySem.Value.str (.ofString "Scope.resolve") (622 : Nat)) (List.cons (PySem.Value.str (.ofString "/claim/cut.py") (623 : Nat)) (List.cons (PySem.Value.int 207 (0 : Nat)) (List.cons (PySem.Value.int 3 (0 : Nat)) (List.cons (PySem.Value.int 0 (0 : Nat)) (List.cons (PySem.Value.int 0 (0 : Nat)) (List.cons (PySem.Value.int 3 (0 : Nat)) (List.cons (PySem.Value.ref (308 : Nat)) (List.cons (PySem.Value.bool Bool.true) (List.cons (PySem.Value.int 181 (0 : Nat)) (List.cons (PySem.Value.ref (309 : Nat)) (List.cons PySem.Value.none (List.cons (PySem.Value.ref (310 : Nat)) (List.cons (PySem.Value.ref (311 : Nat)) (List.cons (PySem.Value.ref (312 : Nat)) (List.cons (PySem.Value.int 627 (0 : Nat)) (List.cons (PySem.Value.int 207 (0 : Nat)) (List.cons (PySem.Value.str (.ofString "/claim/cut.py") (628 : Nat)) (List.nil)))))))))))))))))))))) #[])) (
    List.cons (nat_lit 314, .mk (PySem.Value.type "function") (none : Option Nat) (.func (.mk (.ofString "resolve") (.ofString "Scope.resolve") a33 (.stmts b33) s33 (3 : Nat) ([] : List (PySem.Str × Nat)) PySem.Value.none PySem.Value.none PySem.Value.none (PySem.Value.str (.ofString "gateloom.scopes") (544 : Nat)) (none : Option Nat) (PySem.Value.ref (313 : Nat)) PySem.Value.none (0 : Nat))) #[]) (
    List.cons (nat_lit 315, (PySem.Obj.mk (PySem.Value.type "tuple") (none : Option Nat) (PySem.Data.seq #[] (0 : Nat)) #[])) (
    List.cons (nat_lit 317, (PySem.Obj.mk (PySem.Value.type "tuple") (none : Option Nat) (PySem.Data.seq #[(PySem.Value.str (.ofString "self") (633 : Nat)), (PySem.Value.str (.ofString "name") (634 : Nat))] (0 : Nat)) #[])) (
    List.cons (nat_lit 318, (PySem.Obj.mk (PySem.Value.type "tuple") (none : Option Nat) (PySem.Data.seq #[] (0 : Nat)) #[])) (
    List.cons (nat_lit 320, (PySem.Obj.mk (PySem.Value.type "code") (none : Option Nat) (PySem.Data.fields (List.toArray (List.cons (PySem.Value.str (.ofString "answers_to") (630 : Nat)) (List.cons (PySem.Value.str (.ofString "Scope.answers_to") (631 : Nat)) (List.cons (PySem.Value.str (.ofString "/claim/cut.py") (632 : Nat)) (List.cons (PySem.Value.int 210 (0 : Nat)) (List.cons (PySem.Value.int 2 (0 : Nat)) (List.cons (PySem.Value.int 0 (0 : Nat)) (List.cons (PySem.Value.int 0 (0 : Nat)) (List.cons (PySem.Value.int 3 (0 : Nat)) (List.cons (PySem.Value.ref (315 : Nat)) (List.cons (PySem.Value.bool Bool.true) (List.cons (PySem.Value.int 181 (0 : Nat)) (List.cons (PySem.Value.ref (316 : Nat)) (List.cons PySem.Value.none (List.cons (PySem.Value.ref (317 : Nat)) (List.cons (PySem.Value.ref (318 : Nat)) (List.cons (PySem.Value.ref (319 : Nat)) (List.cons (PySem.Value.int 635 (0 : Nat)) (List.cons (PySem.Value.int 210 (0 : Nat)) (List.cons (PySem.Value.str (.ofString "/claim/cut.py") (636 : Nat)) (List.nil)))))))))))))))))))))) #[])) (
    List.cons (nat_lit 321, .mk (PySem.Value.type "function") (none : Option Nat) (.func (.mk (.ofString "answers_to") (.ofString "Scope.answers_to") a34 (.stmts b34) s34 (3 : Nat) ([] : List (PySem.Str × Nat)) PySem.Value.none PySem.Value.none PySem.Value.none (PySem.Value.str (.ofString "gateloom.scopes") (544 : Nat)) (none : Option Nat) (PySem.Value.ref (320 : Nat)) PySem.Value.none (0 : Nat))) #[]) (
    List.cons (nat_lit 322, (PySem.Obj.mk (PySem.Value.type "tuple") (none : Option Nat) (PySem.Data.seq #[(PySem.Value.str (.ofString "design") (638 : Nat)), (PySem.Value.str (.ofString "entries") (639 : Nat)), (PySem.Value.str (.ofString "kind") (640 : Nat)), (PySem.Value.str (.ofString "module_name") (641 : Nat)), (PySem.Value.str (.ofString "name") (642 : Nat)), (PySem.Value.str (.ofString "nettype") (643 : Nat)), (PySem.Value.str (.ofString "number") (644 : Nat)), (PySem.Value.str (.ofString "parent") (645 : Nat)), (PySem.Value.str (.ofString "path") (646 : Nat))] (0 : Nat)) #[])) (
    List.cons (nat_lit 323, (PySem.Obj.mk (PySem.Value.type "dict") (none : Option Nat) (PySem.Data.dict (List.toArray (List.cons (PySem.DictEntry.mk (PySem.PyData.keyHash P (.ofString "__module__")) (PySem.Value.str (.ofString "__module__") (553 : Nat)) (PySem.Value.str (.ofString "gateloom.scopes") (544 : Nat))) (List.cons (PySem.DictEntry.mk (PySem.PyData.keyHash P (.ofString "__firstlineno__")) (PySem.Value.str (.ofString "__firstlineno__") (557 : Nat)) (PySem.Value.int 169 (556 : Nat))) (List.cons (PySem.DictEntry.mk (PySem.PyData.keyHash P (.ofString "__init__")) (PySem.Value.str (.ofString "__init__") (568 : Nat)) (PySem.Value.ref (265 : Nat))) (List.cons (PySem.DictEntry.mk (PySem.PyData.keyHash P (.ofString "child")) (PySem.Value.str (.ofString "child") (579 : Nat)) (PySem.Value.ref (272 : Nat))) (List.cons (PySem.DictEntry.mk (PySem.PyData.keyHash P (.ofString "declare")) (PySem.Value.str (.ofString "declare") (589 : Nat)) (PySem.Value.ref (279 : Nat))) (List.cons (PySem.DictEntry.mk (PySem.PyData.keyHash P (.ofString "module_scope")) (PySem.Value.str (.ofString "module_scope") (596 : Nat)) (PySem.Value.ref (286 : Nat))) (List.cons (PySem.DictEntry.mk (PySem.PyData.keyHash P (.ofString "lookup")) (PySem.Value.str (.ofString "lookup") (604 : Nat)) (PySem.Value.ref (293 : Nat))) (List.cons (PySem.DictEntry.mk (PySem.PyData.keyHash P (.ofString "lookup_routine")) (PySem.Value.str (.ofString "lookup_routine") (612 : Nat)) (PySem.Value.ref (300 : Nat))) (List.cons (PySem.DictEntry.mk (PySem.PyData.keyHash P (.ofString "descend")) (PySem.Value.str (.ofString "descend") (620 : Nat)) (PySem.Value.ref (307 : Nat))) (List.cons (PySem.DictEntry.mk (PySem.PyData.keyHash P (.ofString "resolve")) (PySem.Value.str (.ofString "resolve") (629 : Nat)) (PySem.Value.ref (314 : Nat))) (List.cons (PySem.DictEntry.mk (PySem.PyData.keyHash P (.ofString "answers_to")) (PySem.Value.str (.ofString "answers_to") (637 : Nat)) (PySem.Value.ref (321 : Nat))) (List.cons (PySem.DictEntry.mk (PySem.PyData.keyHash P (.ofString "__static_attributes__")) (PySem.Value.str (.ofString "__static_attributes__") (647 : Nat)) (PySem.Value.ref (322 : Nat))) (List.cons (PySem.DictEntry.mk (PySem.PyData.keyHash P (.ofString "__dict__")) (PySem.Value.str (.ofString "__dict__") (649 : Nat)) (PySem.Value.ref (325 : Nat))) (List.cons (PySem.DictEntry.mk (PySem.PyData.keyHash P (.ofString "__weakref__")) (PySem.Value.str (.ofString "__weakref__") (651 : Nat)) (PySem.Value.ref (326 : Nat))) (List.cons (PySem.DictEntry.mk (PySem.PyData.keyHash P (.ofString "__doc__")) (PySem.Value.str (.ofString "__doc__") (652 : Nat)) PySem.Value.none) (List.nil))))))))))))))))) (4 : Nat)) #[])) (
    List.cons (nat_lit 324, (PySem.Obj.mk (PySem.Value.type "type") (none : Option Nat) (PySem.Data.cls (PySem.ClassData.mk (.ofString "Scope") [(PySem.Value.type "object")] [(PySem.Value.ref (324 : Nat)), (PySem.Value.type "object")] (323 : Nat) (.ofString "Scope") Bool.true [] [] Bool.false none Bool.false)) #[none, none, (Option.some (PySem.Value.str (.ofString "Scope") (546 : Nat))), (Option.some (PySem.Value.str (.ofString "Scope") (554 : Nat))), (Option.some (PySem.Value.builtin "object.__new__")), (Option.some (PySem.Value.bool Bool.true))])) (
    List.cons (nat_lit 325, (PySem.Obj.mk (PySem.Value.type "getset_descriptor") (none : Option Nat) (PySem.Data.fields #[(PySem.Value.str (.ofString "__dict__") (648 : Nat)), (PySem.Value.ref (324 : Nat)), (PySem.Value.builtin "function.__dict__"), (PySem.Value.builtin "function.__dict__#set")]) #[])) (
    List.cons (nat_lit 326, (PySem.Obj.mk (PySem.Value.type "getset_descriptor") (none : Option Nat) (PySem.Data.fields #[(PySem.Value.str (.ofString "__weakref__") (650 : Nat)), (PySem.Value.ref (324 : Nat)), (PySem.Value.builtin "ExceptionGroup.__weakref__"), PySem.Value.none]) #[])) (
    List.cons (nat_lit 329, (PySem.Obj.mk (PySem.Value.type "tuple") (none : Option Nat) (PySem.Data.seq #[] (0 : Nat)) #[])) (
    List.cons (nat_lit 331, (PySem.Obj.mk (PySem.Value.type "tuple") (none : Option Nat) (PySem.Data.seq #[(PySem.Value.str (.ofString "script") (660 : Nat)), (PySem.Value.str (.ofString "spot") (661 : Nat)), (PySem.Value.str (.ofString "ways") (662 : Nat))] (0 : Nat)) #[])) (
    List.cons (nat_lit 332, (PySem.Obj.mk (PySem.Value.type "tuple") (none : Option Nat) (PySem.Data.seq #[] (0 : Nat)) #[])) (
    List.cons (nat_lit 334, (PySem.Obj.mk (PySem.Value.type "code") (none : Option Nat) (PySem.Data.fields (List.toArray (List.cons (PySem.Value.str (.ofString "_law_part") (657 : Nat)) (List.cons (PySem.Value.str (.ofString "_law_part") (658 : Nat)) (List.cons (PySem.Value.str (.ofString "/claim/cut.py") (659 : Nat)) (List.cons (PySem.Value.int 213 (0 : Nat)) (List.cons (PySem.Value.int 3 (0 : Nat)) (List.cons (PySem.Value.int 0 (0 : Nat)) (List.cons (PySem.Value.int 0 (0 : Nat)) (List.cons (PySem.Value.int 3 (0 : Nat)) (List.cons (PySem.Value.ref (329 : Nat)) (List.cons (PySem.Value.bool Bool.true) (List.cons (PySem.Value.int 181 (0 : Nat)) (List.cons (PySem.Value.ref (330 : Nat)) (List.cons PySem.Value.none (List.cons (PySem.Value.ref (331 : Nat)) (List.cons (PySem.Value.ref (332 : Nat)) (List.cons (PySem.Value.ref (333 : Nat)) (List.cons (PySem.Value.int 663 (0 : Nat)) (List.cons (PySem.Value.int 213 (0 : Nat)) (List.cons (PySem.Value.str (.ofString "/claim/cut.py") (664 : Nat)) (List.nil)))))))))))))))))))))) #[])) (
    List.cons (nat_lit 335, .mk (PySem.Value.type "function") (none : Option Nat) (.func (.mk (.ofString "_law_part") (.ofString "_law_part") a35 (.stmts b35) s35 (3 : Nat) ([] : List (PySem.Str × Nat)) PySem.Value.none PySem.Value.none PySem.Value.none (PySem.Value.str (.ofString "law_pq0461_01") (655 : Nat)) (none : Option Nat) (PySem.Value.ref (334 : Nat)) PySem.Value.none (0 : Nat))) #[]) (
    List.cons (nat_lit 336, (PySem.Obj.mk (PySem.Value.type "tuple") (none : Option Nat) (PySem.Data.seq #[] (0 : Nat)) #[])) (
    List.cons (nat_lit 338, (PySem.Obj.mk (PySem.Value.type "tuple") (none : Option Nat) (PySem.Data.seq #[(PySem.Value.str (.ofString "digits") (669 : Nat)), (PySem.Value.str (.ofString "a") (670 : Nat)), (PySem.Value.str (.ofString "b") (671 : Nat)), (PySem.Value.str (.ofString "digit") (672 : Nat))] (0 : Nat)) #[])) (
    List.cons (nat_lit 339, (PySem.Obj.mk (PySem.Value.type "tuple") (none : Option Nat) (PySem.Data.seq #[] (0 : Nat)) #[])) (
    List.cons (nat_lit 341, (PySem.Obj.mk (PySem.Value.type "code") (none : Option Nat) (PySem.Data.fields (List.toArray (List.cons (PySem.Value.str (.ofString "_law_bits") (666 : Nat)) (List.cons (PySem.Value.str (.ofString "_law_bits") (667 : Nat)) (List.cons (PySem.Value.str (.ofString "/claim/cut.py") (668 : Nat)) (List.cons (PySem.Value.int 217 (0 : Nat)) (List.cons (PySem.Value.int 1 (0 : Nat)) (List.cons (PySem.Value.int 0 (0 : Nat)) (List.cons (PySem.Value.int 0 (0 : Nat)) (List.cons (PySem.Value.int 3 (0 : Nat)) (List.cons (PySem.Value.ref (336 : Nat)) (List.cons (PySem.Value.bool Bool.true) (List.cons (PySem.Value.int 181 (0 : Nat)) (List.cons (PySem.Value.ref (337 : Nat)) (List.cons PySem.Value.none (List.cons (PySem.Value.ref (338 : Nat)) (List.cons (PySem.Value.ref (339 : Nat)) (List.cons (PySem.Value.ref (340 : Nat)) (List.cons (PySem.Value.int 673 (0 : Nat)) (List.cons (PySem.Value.int 217 (0 : Nat)) (List.cons (PySem.Value.str (.ofString "/claim/cut.py") (674 : Nat)) (List.nil)))))))))))))))))))))) #[])) (
    List.cons (nat_lit 342, .mk (PySem.Value.type "function") (none : Option Nat) (.func (.mk (.ofString "_law_bits") (.ofString "_law_bits") a36 (.stmts b36) s36 (3 : Nat) ([] : List (PySem.Str × Nat)) PySem.Value.none PySem.Value.none PySem.Value.none (PySem.Value.str (.ofString "law_pq0461_01") (655 : Nat)) (none : Option Nat) (PySem.Value.ref (341 : Nat)) PySem.Value.none (0 : Nat))) #[]) (
    List.cons (nat_lit 343, (PySem.Obj.mk (PySem.Value.type "tuple") (none : Option Nat) (PySem.Data.seq #[] (0 : Nat)) #[])) (
    List.cons (nat_lit 345, (PySem.Obj.mk (PySem.Value.type "tuple") (none : Option Nat) (PySem.Data.seq #[(PySem.Value.str (.ofString "ask") (679 : Nat)), (PySem.Value.str (.ofString "one") (680 : Nat)), (PySem.Value.str (.ofString "two") (681 : Nat)), (PySem.Value.str (.ofString "three") (682 : Nat)), (PySem.Value.str (.ofString "fault") (683 : Nat))] (0 : Nat)) #[])) (
    List.cons (nat_lit 346, (PySem.Obj.mk (PySem.Value.type "tuple") (none : Option Nat) (PySem.Data.seq #[] (0 : Nat)) #[])) (
    List.cons (nat_lit 348, (PySem.Obj.mk (PySem.Value.type "code") (none : Option Nat) (PySem.Data.fields (List.toArray (List.cons (PySem.Value.str (.ofString "_law_told") (676 : Nat)) (List.cons (PySem.Value.str (.ofString "_law_told") (677 : Nat)) (List.cons (PySem.Value.str (.ofString "/claim/cut.py") (678 : Nat)) (List.cons (PySem.Value.int 224 (0 : Nat)) (List.cons (PySem.Value.int 4 (0 : Nat)) (List.cons (PySem.Value.int 0 (0 : Nat)) (List.cons (PySem.Value.int 0 (0 : Nat)) (List.cons (PySem.Value.int 3 (0 : Nat)) (List.cons (PySem.Value.ref (343 : Nat)) (List.cons (PySem.Value.bool Bool.true) (List.cons (PySem.Value.int 181 (0 : Nat)) (List.cons (PySem.Value.ref (344 : Nat)) (List.cons PySem.Value.none (List.cons (PySem.Value.ref (345 : Nat)) (List.cons (PySem.Value.ref (346 : Nat)) (List.cons (PySem.Value.ref (347 : Nat)) (List.cons (PySem.Value.int 684 (0 : Nat)) (List.cons (PySem.Value.int 224 (0 : Nat)) (List.cons (PySem.Value.str (.ofString "/claim/cut.py") (685 : Nat)) (List.nil)))))))))))))))))))))) #[])) (
    List.cons (nat_lit 349, .mk (PySem.Value.type "function") (none : Option Nat) (.func (.mk (.ofString "_law_told") (.ofString "_law_told") a37 (.stmts b37) s37 (3 : Nat) ([] : List (PySem.Str × Nat)) PySem.Value.none PySem.Value.none PySem.Value.none (PySem.Value.str (.ofString "law_pq0461_01") (655 : Nat)) (none : Option Nat) (PySem.Value.ref (348 : Nat)) PySem.Value.none (0 : Nat))) #[]) (
    List.cons (nat_lit 350, (PySem.Obj.mk (PySem.Value.type "tuple") (none : Option Nat) (PySem.Data.seq #[] (0 : Nat)) #[])) (
    List.cons (nat_lit 352, (PySem.Obj.mk (PySem.Value.type "tuple") (none : Option Nat) (PySem.Data.seq #[(PySem.Value.str (.ofString "script") (690 : Nat)), (PySem.Value.str (.ofString "made") (691 : Nat)), (PySem.Value.str (.ofString "lap") (692 : Nat))] (0 : Nat)) #[])) (
    List.cons (nat_lit 353, (PySem.Obj.mk (PySem.Value.type "tuple") (none : Option Nat) (PySem.Data.seq #[] (0 : Nat)) #[])) (
    List.cons (nat_lit 355, (PySem.Obj.mk (PySem.Value.type "code") (none : Option Nat) (PySem.Data.fields (List.toArray (List.cons (PySem.Value.str (.ofString "_law_text") (687 : Nat)) (List.cons (PySem.Value.str (.ofString "_law_text") (688 : Nat)) (List.cons (PySem.Value.str (.ofString "/claim/cut.py") (689 : Nat)) (List.cons (PySem.Value.int 229 (0 : Nat)) (List.cons (PySem.Value.int 1 (0 : Nat)) (List.cons (PySem.Value.int 0 (0 : Nat)) (List.cons (PySem.Value.int 0 (0 : Nat)) (List.cons (PySem.Value.int 3 (0 : Nat)) (List.cons (PySem.Value.ref (350 : Nat)) (List.cons (PySem.Value.bool Bool.true) (List.cons (PySem.Value.int 181 (0 : Nat)) (List.cons (PySem.Value.ref (351 : Nat)) (List.cons PySem.Value.none (List.cons (PySem.Value.ref (352 : Nat)) (List.cons (PySem.Value.ref (353 : Nat)) (List.cons (PySem.Value.ref (354 : Nat)) (List.cons (PySem.Value.int 693 (0 : Nat)) (List.cons (PySem.Value.int 229 (0 : Nat)) (List.cons (PySem.Value.str (.ofString "/claim/cut.py") (694 : Nat)) (List.nil)))))))))))))))))))))) #[])) (
    List.cons (nat_lit 356, .mk (PySem.Value.type "function") (none : Option Nat) (.func (.mk (.ofString "_law_text") (.ofString "_law_text") a38 (.stmts b38) s38 (3 : Nat) ([] : List (PySem.Str × Nat)) PySem.Value.none PySem.Value.none PySem.Value.none (PySem.Value.str (.ofString "law_pq0461_01") (655 : Nat)) (none : Option Nat) (PySem.Value.ref (355 : Nat)) PySem.Value.none (0 : Nat))) #[]) (
    List.cons (nat_lit 357, (PySem.Obj.mk (PySem.Value.type "tuple") (none : Option Nat) (PySem.Data.seq #[] (0 : Nat)) #[])) (
    List.cons (nat_lit 360, (PySem.Obj.mk (PySem.Value.type "code") (none : Option Nat) (PySem.Data.fields (List.toArray (List.cons (PySem.Value.str (.ofString "_law_octets") (696 : Nat)) (List.cons (PySem.Value.str (.ofString "_law_octets") (697 : Nat)) (List.cons (PySem.Value.str (.ofString "/claim/cut.py") (698 : Nat)) (List.cons (PySem.Value.int 234 (0 : Nat)) (List.cons (PySem.Value.int 1 (0 : Nat)) (List.cons (PySem.Value.int 0 (0 : Nat)) (List.cons (PySem.Value.int 0 (0 : Nat)) (List.cons (PySem.Value.int 3 (0 : Nat)) (List.cons (PySem.Value.ref (357 : Nat)) (List.cons (PySem.Value.bool Bool.true) (List.cons (PySem.Value.int 181 (0 : Nat)) (List.cons (PySem.Value.ref (358 : Nat)) (List.cons PySem.Value.none (List.cons PySem.Value.none (List.cons PySem.Value.none (List.cons (PySem.Value.ref (359 : Nat)) (List.cons (PySem.Value.int 699 (0 : Nat)) (List.cons (PySem.Value.int 234 (0 : Nat)) (List.cons (PySem.Value.str (.ofString "/claim/cut.py") (700 : Nat)) (List.nil)))))))))))))))))))))) #[])) (
    List.cons (nat_lit 361, .mk (PySem.Value.type "function") (none : Option Nat) (.func (.mk (.ofString "_law_octets") (.ofString "_law_octets") a39 (.stmts b39) s39 (3 : Nat) ([] : List (PySem.Str × Nat)) PySem.Value.none PySem.Value.none PySem.Value.none (PySem.Value.str (.ofString "law_pq0461_01") (655 : Nat)) (none : Option Nat) (PySem.Value.ref (360 : Nat)) PySem.Value.none (0 : Nat))) #[]) (
    List.cons (nat_lit 362, (PySem.Obj.mk (PySem.Value.type "tuple") (none : Option Nat) (PySem.Data.seq #[] (0 : Nat)) #[])) (
    List.cons (nat_lit 365, (PySem.Obj.mk (PySem.Value.type "code") (none : Option Nat) (PySem.Data.fields (List.toArray (List.cons (PySem.Value.str (.ofString "_law_literal") (702 : Nat)) (List.cons (PySem.Value.str (.ofString "_law_literal") (703 : Nat)) (List.cons (PySem.Value.str (.ofString "/claim/cut.py") (704 : Nat)) (List.cons (PySem.Value.int 240 (0 : Nat)) (List.cons (PySem.Value.int 1 (0 : Nat)) (List.cons (PySem.Value.int 0 (0 : Nat)) (List.cons (PySem.Value.int 0 (0 : Nat)) (List.cons (PySem.Value.int 3 (0 : Nat)) (List.cons (PySem.Value.ref (362 : Nat)) (List.cons (PySem.Value.bool Bool.true) (List.cons (PySem.Value.int 181 (0 : Nat)) (List.cons (PySem.Value.ref (363 : Nat)) (List.cons PySem.Value.none (List.cons PySem.Value.none (List.cons PySem.Value.none (List.cons (PySem.Value.ref (364 : Nat)) (List.cons (PySem.Value.int 705 (0 : Nat)) (List.cons (PySem.Value.int 240 (0 : Nat)) (List.cons (PySem.Value.str (.ofString "/claim/cut.py") (706 : Nat)) (List.nil)))))))))))))))))))))) #[])) (
    List.cons (nat_lit 366, .mk (PySem.Value.type "function") (none : Option Nat) (.func (.mk (.ofString "_law_literal") (.ofString "_law_literal") a40 (.stmts b40) s40 (3 : Nat) ([] : List (PySem.Str × Nat)) PySem.Value.none PySem.Value.none PySem.Value.none (PySem.Value.str (.ofString "law_pq0461_01") (655 : Nat)) (none : Option Nat) (PySem.Value.ref (365 : Nat)) PySem.Value.none (0 : Nat))) #[]) (
    List.cons (nat_lit 367, (PySem.Obj.mk (PySem.Value.type "tuple") (none : Option Nat) (PySem.Data.seq #[] (0 : Nat)) #[])) (
    List.cons (nat_lit 370, (PySem.Obj.mk (PySem.Value.type "code") (none : Option Nat) (PySem.Data.fields (List.toArray (List.cons (PySem.Value.str (.ofString "law") (708 : Nat)) (List.cons (PySem.Value.str (.ofString "law") (709 : Nat)) (List.cons (PySem.Value.str (.ofString "/claim/cut.py") (710 : Nat)) (List.cons (PySem.Value.int 249 (0 : Nat)) (List.cons (PySem.Value.int 1 (0 : Nat)) (List.cons (PySem.Value.int 0 (0 : Nat)) (List.cons (PySem.Value.int 0 (0 : Nat)) (List.cons (PySem.Value.int 3 (0 : Nat)) (List.cons (PySem.Value.ref (367 : Nat)) (List.cons (PySem.Value.bool Bool.true) (List.cons (PySem.Value.int 181 (0 : Nat)) (List.cons (PySem.Value.ref (368 : Nat)) (List.cons PySem.Value.none (List.cons PySem.Value.none (List.cons PySem.Value.none (List.cons (PySem.Value.ref (369 : Nat)) (List.cons (PySem.Value.int 711 (0 : Nat)) (List.cons (PySem.Value.int 249 (0 : Nat)) (List.cons (PySem.Value.str (.ofString "/claim/cut.py") (712 : Nat)) (List.nil)))))))))))))))))))))) #[])) (
    List.cons (nat_lit 371, .mk (PySem.Value.type "function") (none : Option Nat) (.func (.mk (.ofString "law") (.ofString "law") a41 (.stmts b41) s41 (3 : Nat) ([] : List (PySem.Str × Nat)) PySem.Value.none PySem.Value.none PySem.Value.none (PySem.Value.str (.ofString "law_pq0461_01") (655 : Nat)) (none : Option Nat) (PySem.Value.ref (370 : Nat)) PySem.Value.none (0 : Nat))) #[]) (List.nil))))))))))))))))))))))))))))))))))))))))))))))))))))))))))))))))))))))))))))))))))))))))))))))))))))))))))))))))))))))))))))))))))))))))))))))))))))))))))))))))))))))))))))))))))))))))))))))))))))))))))))))))))))))))))))))))))))))))
noncomputable def vw : Program := by
  refine' (?f : ∀ (x0 x2 x3 x5 x7 x8 x9 x11 x12 x13 x14 x15 x16 x18 x19 x21 x23 x24 x25 x26 x27 x28 x29 : Stmt), (st 0 = x0 ∧ st 2 = x2 ∧ st 3 = x3 ∧ st 5 = x5 ∧ st 7 = x7 ∧ st 8 = x8 ∧ st 9 = x9 ∧ st 11 = x11 ∧ st 12 = x12 ∧ st 13 = x13 ∧ st 14 = x14 ∧ st 15 = x15 ∧ st 16 = x16 ∧ st 18 = x18 ∧ st 19 = x19 ∧ st 21 = x21 ∧ st 23 = x23 ∧ st 24 = x24 ∧ st 25 = x25 ∧ st 26 = x26 ∧ st 27 = x27 ∧ st 28 = x28 ∧ st 29 = x29) → Program) _ _ _ _ _ _ _ _ _ _ _ _ _ _ _ _ _ _ _ _ _ _ _ ?hE
  case hE => (refine ⟨?_, ?_, ?_, ?_, ?_, ?_, ?_, ?_, ?_, ?_, ?_, ?_, ?_, ?_, ?_, ?_, ?_, ?_, ?_, ?_, ?_, ?_, ?_⟩ <;> ((conv => lhs; whnf; (try dsimp +zeta +zetaHave only)); try exact rfl))
  case f => exact fun x0 x2 x3 x5 x7 x8 x9 x11 x12 x13 x14 x15 x16 x18 x19 x21 x23 x24 x25 x26 x27 x28 x29 _ => (PySem.Program.mk (PySem.Module.mk [x0, x2, x3, x5, x7, x8, x9, x11, x12, x13, x14, x15, x16, x18, x19, x21, x23, x24, x25, x26, x27, x28, x29] PySem.Challenge.rw_pq0461_01.row.toRowW.1.main.scope PySem.Challenge.rw_pq0461_01.row.toRowW.1.main.futureAnnotations PySem.Challenge.rw_pq0461_01.row.toRowW.1.main.file PySem.Challenge.rw_pq0461_01.row.toRowW.1.main.more) PySem.Challenge.rw_pq0461_01.row.toRowW.1.modules PySem.Challenge.rw_pq0461_01.row.toRowW.1.parses PySem.Challenge.rw_pq0461_01.row.toRowW.1.absent PySem.Challenge.rw_pq0461_01.row.toRowW.1.harvested PySem.Challenge.rw_pq0461_01.row.toRowW.1.given : Program)
noncomputable def as : List Addr := [2, 3, 15, 17, 18, 20, 21, 22, 29, 30, 32, 33, 35, 36, 37, 38, 39, 40, 43, 50, 51, 52, 55, 57, 58, 60, 61, 62, 63, 65, 66, 68, 69, 70, 72, 73, 75, 76, 77, 79, 80, 82, 83, 84, 86, 87, 89, 90, 91, 93, 94, 96, 97, 98, 100, 101, 103, 104, 105, 107, 108, 110, 111, 112, 114, 115, 117, 118, 119, 121, 122, 124, 125, 126, 128, 129, 131, 132, 140, 142, 143, 145, 146, 147, 149, 150, 152, 153, 154, 156, 157, 159, 160, 161, 163, 164, 166, 167, 168, 170, 171, 173, 174, 175, 177, 178, 180, 181, 182, 183, 184, 185, 186, 196, 198, 199, 201, 202, 203, 205, 206, 208, 209, 210, 212, 213, 215, 216, 217, 219, 220, 222, 223, 224, 226, 227, 229, 230, 231, 233, 234, 236, 237, 238, 240, 241, 243, 244, 245, 246, 247, 248, 249, 259, 261, 262, 264, 265, 266, 268, 269, 271, 272, 273, 275, 276, 278, 279, 280, 282, 283, 285, 286, 287, 289, 290, 292, 293, 294, 296, 297, 299, 300, 301, 303, 304, 306, 307, 308, 310, 311, 313, 314, 315, 317, 318, 320, 321, 322, 323, 324, 325, 326, 329, 331, 332, 334, 335, 336, 338, 339, 341, 342, 343, 345, 346, 348, 349, 350, 352, 353, 355, 356, 357, 360, 361, 362, 365, 366, 367, 370, 371]
/-- the top's run over a heap that is a tree -/
noncomputable def runT (tb : String → Option Builtin) (p : PySem.Program) (w : World) (n₀ : Nat) (ann : Option Value) : Nat → SharedT → Thread → Option SharedT
  | 0, _, _ => none
  | n + 1, s, t => match through t with
    | true => some s
    | false => match stepOk n₀ ann t with
      | false => none
      | true => match stepT (denote tb) p w s t with
        | some (s', t') => runT tb p w n₀ ann n s' t'
        | none => none
theorem runT_of {tb : String → Option Builtin} {p : PySem.Program} {w : World} {n₀ : Nat} {ann : Option Value} : ∀ {n : Nat} {s s' : SharedT} {t : Thread}, runT tb p w n₀ ann n s t = some s' → topRun tb p w n₀ ann n s.abs t = some s'.abs
  | 0, _, _, _, h => by cases h
  | n + 1, s, s', t, h => by
    unfold runT at h
    unfold topRun
    cases he : through t with
    | true => rw [he] at h; cases h; rfl
    | false =>
      rw [he] at h
      cases hk : stepOk n₀ ann t with
      | false => rw [hk] at h; cases h
      | true =>
        rw [hk] at h
        cases hs : stepT (denote tb) p w s t with
        | none => rw [hs] at h; cases h
        | some r => obtain ⟨s₂, t₂⟩ := r; rw [hs] at h; rw [stepT_spec hs]; exact runT_of h
/-- a heap's objects laid in a tree -/
noncomputable def layT : List Obj → BT → Nat → Option (BT × Nat)
  | [], t, n => some (t, n)
  | o :: r, t, n => match ((t.ins n o).get n).isSome with
    | true => layT r (t.ins n o) (n + 1)
    | false => none
theorem layT_abs {life : Life} : ∀ {l : List Obj} {t t' : BT} {n n' : Nat} {a : Array Obj}, layT l t n = some (t', n') → absHeap t n life = ⟨a, life⟩ → absHeap t' n' life = ⟨a ++ l.toArray, life⟩
  | [], t, t', n, n', a, h, e => by cases h; rw [e]; simp
  | o :: r, t, t', n, n', a, h, e => by
    unfold layT at h
    cases g : ((t.ins n o).get n).isSome with
    | false => rw [g] at h; cases h
    | true =>
      rw [g] at h
      have q := layT_abs h (a := a.push o) (by rw [absHeap_ins g, e]; rfl)
      rw [q]; simp
noncomputable def sharedT (s : Shared) : Option SharedT := (layT s.heap.objs.toList .nil 0).map fun r => ⟨r.1, r.2, s.heap.life, s.gens, s.drawn, s.toks, s.os⟩
theorem sharedT_abs {s : Shared} {x : SharedT} (h : sharedT s = some x) : x.abs = s := by
  obtain ⟨⟨objs, life⟩, gens, drawn, toks, os⟩ := s
  unfold sharedT at h
  obtain ⟨⟨t, n⟩, a, b⟩ := Option.map_eq_some_iff.mp h
  subst b
  show Shared.mk _ _ _ _ _ = Shared.mk _ _ _ _ _
  have q := layT_abs (life := life) a (a := #[]) rfl
  dsimp only at q ⊢
  rw [q]; simp
/-- the run over the tree, and the looks behind it -/
noncomputable def endT (tb : String → Option Builtin) (p : PySem.Program) (w : World) (N : Nat) (s₀ : Shared) : Option SharedT :=
  match s₀.heap.isNs mainGlobals && s₀.gens.size == 0 with
  | true => (sharedT s₀).bind fun x => (runT tb p w s₀.heap.objs.size (s₀.heap.nsMap mainGlobals "__annotations__") N x (topStub p)).bind fun s₁ =>
    match staticsOk (importedModules p.main.body) s₀.heap s₁.abs.heap && namesBound p s₁.abs.heap && gensDone s₁.abs && laidKept s₀.heap s₁.abs.heap with
    | true => some s₁
    | false => none
  | false => none
theorem endT_of {tb : String → Option Builtin} {p : PySem.Program} {w : World} {N : Nat} {s₀ : Shared} {s₁ : SharedT} (h : endT tb p w N s₀ = some s₁) : topFrom tb p w N s₀ = some s₁.abs := by
  unfold endT at h
  unfold topFrom
  cases hc : (s₀.heap.isNs mainGlobals && s₀.gens.size == 0) with
  | false => rw [hc] at h; cases h
  | true =>
    rw [hc] at h
    obtain ⟨x, hx, h⟩ := Option.bind_eq_some_iff.mp h
    obtain ⟨s₂, h2, h3⟩ := Option.bind_eq_some_iff.mp h
    have r := runT_of h2
    rw [sharedT_abs hx] at r
    show (topRun _ _ _ _ _ _ _ _).bind _ = _
    rw [r]
    show (match _ with | true => _ | false => _) = _
    cases hk : (staticsOk (importedModules p.main.body) s₀.heap s₂.abs.heap && namesBound p s₂.abs.heap && gensDone s₂.abs && laidKept s₀.heap s₂.abs.heap) with
    | false => rw [hk] at h3; cases h3
    | true => rw [hk] at h3; cases h3; rfl
theorem left_of_tree {p q : PySem.Program} {loose : List Str} {Xt : Shared → Bool} {α : Type} {Yf : Shared → α} {Ya : World → α} {N : Nat}
    (h : ∀ w, ((fencedOpening treeTable p w N).bind (endT treeTable p w N)).map (fun s => (openSeen q loose (importedModules p.main.body) Xt true s.abs, Yf s.abs)) = some (openGood q loose, Ya w)) : LeftO p q loose Xt Yf Ya N := fun w => by
  obtain ⟨s, a, b⟩ := Option.map_eq_some_iff.mp (h w)
  obtain ⟨s₀, c, d⟩ := Option.bind_eq_some_iff.mp a
  unfold openEnds
  rw [c]
  show (topFrom _ _ _ _ _).map _ = _
  rw [endT_of d]
  exact congrArg some b
/-- an address read in the tree -/
noncomputable def getT (s : SharedT) (a : Nat) : Option Obj := match Nat.blt a s.n with
  | true => match s.tree.get a with
    | some o => alive o
    | none => s.abs.heap.get? a
  | false => none
theorem getT_eq (s : SharedT) (a : Nat) : s.abs.heap.get? a = getT s a := by
  unfold getT
  cases h : Nat.blt a s.n with
  | true =>
    cases g : s.tree.get a with
    | none => rfl
    | some o => exact abs_get (Nat.blt_eq.mp h) g
  | false => exact abs_get_none fun g => Bool.false_ne_true (h.symm.trans (Nat.blt_eq.mpr g))
theorem left_of_treeK {p q : PySem.Program} {loose : List Str} {Xt : Shared → Bool} {K : Params → Frag} {as : List Addr} {e : ∀ P, as = (K P).map (·.1)} {N : Nat}
    (h : ∀ w, ((fencedOpening treeTable p w N).bind (endT treeTable p w N)).map (fun s => (openSeen q loose (importedModules p.main.body) Xt true s.abs, as.map (getT s))) = some (openGood q loose, (K w.params).map fun p => some p.2)) : LeftO p q loose Xt (Hook.obs (kHook K as e)) (Hook.val (kHook K as e)) N := left_of_tree fun w => by
  refine Eq.trans ?_ (h w)
  exact congrArg (fun f => Option.map f _) (funext fun s => congrArg (Prod.mk _) (List.map_congr_left fun a _ => getT_eq s a))
/-- the same run by the library's quick twins -/
noncomputable def runQ (tb : String → Option Builtin) (p : PySem.Program) (w : World) (n₀ : Nat) (ann : Option Value) : Nat → SharedT → Thread → Option SharedT
  | 0, _, _ => none
  | n + 1, s, t => match through t with
    | true => some s
    | false => match PySem.W.Fast.tw6613529449190102663 n₀ ann t with
      | false => none
      | true => match PySem.W.Fast.tw10156331382660048174 (PySem.W.Fast.tw11892475500146522536 tb) p w s t with
        | some (s', t') => runQ tb p w n₀ ann n s' t'
        | none => none
theorem runQ_eq {tb : String → Option Builtin} {p : PySem.Program} {w : World} {n₀ : Nat} {ann : Option Value} : ∀ (n : Nat) (s : SharedT) (t : Thread), runT tb p w n₀ ann n s t = runQ tb p w n₀ ann n s t
  | 0, _, _ => rfl
  | n + 1, s, t => by
    unfold runT runQ
    rw [← PySem.W.Fast.te6613529449190102663, ← PySem.W.Fast.te10156331382660048174, ← PySem.W.Fast.te11892475500146522536]
    cases through t with
    | true => rfl
    | false =>
      cases stepOk n₀ ann t with
      | false => rfl
      | true =>
        cases stepT (denote tb) p w s t with
        | none => rfl
        | some r => exact runQ_eq n r.1 r.2
noncomputable def endQ (tb : String → Option Builtin) (p : PySem.Program) (w : World) (N : Nat) (s₀ : Shared) : Option SharedT :=
  match s₀.heap.isNs mainGlobals && s₀.gens.size == 0 with
  | true => (sharedT s₀).bind fun x => (runQ tb p w s₀.heap.objs.size (s₀.heap.nsMap mainGlobals "__annotations__") N x (topStub p)).bind fun s₁ =>
    match staticsOk (importedModules p.main.body) s₀.heap s₁.abs.heap && namesBound p s₁.abs.heap && gensDone s₁.abs && laidKept s₀.heap s₁.abs.heap with
    | true => some s₁
    | false => none
  | false => none
theorem endQ_eq (tb : String → Option Builtin) (p : PySem.Program) (w : World) (N : Nat) : endT tb p w N = endQ tb p w N := by
  funext s₀
  unfold endT endQ
  simp only [runQ_eq]
theorem as_eq (P : Params) : as = (hp P).map (·.1) := by kernel_rfl
noncomputable abbrev hk : Hook := kHook hp as as_eq
theorem left : LeftO PySem.Challenge.rw_pq0461_01.row.prog vw [Str.ofString "GateloomError", Str.ofString "vec"] (fun s => xlAt vw [] s && recOk PySem.Challenge.rw_pq0461_01.row.records s) (Hook.obs hk) (Hook.val hk) 4962 := by
  refine left_of_treeK ?_
  intro w
  rw [show fencedOpening treeTable PySem.Challenge.rw_pq0461_01.row.prog w 4962 = (importEnds treeTable (opening PySem.Challenge.rw_pq0461_01.row.prog) w 4962 (start (opening PySem.Challenge.rw_pq0461_01.row.prog)).1 (start (opening PySem.Challenge.rw_pq0461_01.row.prog)).2).bind (fenceModules? PySem.Challenge.rw_pq0461_01.row.prog) from rfl]
  rw [endQ_eq, PySem.W.Fast.te10274390034422433532, PySem.W.Fast.te14364793385576792824, PySem.W.Fast.te4187177175401517315]
  kernel_rfl
theorem said_road : noRoadLSs { strict := !(importedModules PySem.Challenge.rw_pq0461_01.row.prog.main.body).all cThrough.contains, foot := none, bare := (["vars", "dir", "locals"] : List Str).filter (readsOut PySem.Challenge.rw_pq0461_01.row.prog PySem.Challenge.rw_pq0461_01.row.prog.main.body) } PySem.Challenge.rw_pq0461_01.row.prog.main.body = true := by
  rw [PySem.W.Fast.te8326940854005059898, PySem.W.Fast.te13343964577679436407]
  kernel_rfl
theorem said_res : namesResolve PySem.Challenge.rw_pq0461_01.row.prog = true := by
  rw [PySem.W.Fast.te8377067652309620493]
  kernel_rfl
theorem said_meet : (namesMeet PySem.Challenge.rw_pq0461_01.row.prog PySem.Challenge.rw_pq0461_01.row.prog.main.body fun _ n => attrL n) = true := by
  rw [PySem.W.Fast.te17119622794617984870, PySem.W.Fast.te17868728402115742887]
  kernel_rfl
theorem said_looks : looksOpen PySem.Challenge.rw_pq0461_01.row.prog = true := by
  unfold looksOpen
  rw [said_res, said_road, said_meet]
  kernel_rfl
theorem said_row : PySem.Challenge.rw_pq0461_01.row.wellSaid = true := by
  unfold OpenRow.wellSaid OpenRow.partSaid
  rw [said_looks]
  kernel_rfl
theorem said_foot : noRoadLSs { strict := true, foot := some PySem.Challenge.rw_pq0461_01.bound', writes := PySem.Challenge.rw_pq0461_01.writes, may := PySem.Challenge.rw_pq0461_01.may } PySem.Challenge.rw_pq0461_01.footing = true := by
  rw [PySem.W.Fast.te8326940854005059898]
  kernel_rfl
theorem said_own : PySem.Challenge.rw_pq0461_01.bound'.all (fun n => !builtinNamed n || PySem.Challenge.rw_pq0461_01.about == [n] || !PySem.Challenge.rw_pq0461_01.reads n) = true := by
  rw [PySem.W.Fast.named_eq]
  kernel_rfl
theorem said_ownN : PySem.Challenge.rw_pq0461_01.own.all (fun n => !builtinNamed n) = true := by
  rw [PySem.W.Fast.named_eq]
  kernel_rfl
theorem said_above : namesMeet PySem.Challenge.rw_pq0461_01.prog PySem.Challenge.rw_pq0461_01.above (fun _ n => !PySem.Challenge.rw_pq0461_01.own.contains n) = true := by
  rw [PySem.W.Fast.te17119622794617984870]
  kernel_rfl
theorem said_law : PySem.Challenge.rw_pq0461_01.wellSaid = true := by
  unfold OpenLaw.wellSaid
  rw [said_row, said_foot, said_own, said_ownN, said_above]
  rw [PySem.W.Fast.te17119622794617984870]
  kernel_rfl
theorem tables : PySem.Challenge.rw_pq0461_01.row.prog.tablesWhole = true := by
  unfold Program.tablesWhole TablesWhole.wProgram
  rw [PySem.W.Fast.te6116379765354995101]
  kernel_rfl
abbrev pr : PySem.Program := PySem.Challenge.rw_pq0461_01.row.prog
noncomputable abbrev lo : List Str := looseW vw [Str.ofString "GateloomError", Str.ofString "vec"]
@[irreducible] def part (ns : List Int) (i k : Int) : Int := if (ns.length : Int) ≤ i then 0 else (if ns.getD i.toNat 0 < 0 then -ns.getD i.toNat 0 else ns.getD i.toNat 0).fmod k
theorem part_out {ns : List Int} {i k : Int} (h : (ns.length : Int) ≤ i) : part ns i k = 0 := by unfold part; rw [if_pos h]
theorem part_in {ns : List Int} {i k : Int} (h : ¬ (ns.length : Int) ≤ i) : part ns i k = (if ns.getD i.toNat 0 < 0 then -ns.getD i.toNat 0 else ns.getD i.toNat 0).fmod k := by unfold part; rw [if_neg h]
theorem part_nn (ns : List Int) (i : Int) {k : Int} (h : 0 < k) : 0 ≤ part ns i k := by
  unfold part; split
  · omega
  · exact Int.fmod_nonneg_of_pos _ h
theorem part_lt (ns : List Int) (i : Int) {k : Int} (h : 0 < k) : part ns i k < k := by
  unfold part; split
  · omega
  · exact Int.fmod_lt_of_pos _ h
theorem part_use {w : World} {mean : ExcName → Option Value} {mg mb : Str → Option Value} {news : List (Addr × Obj)} {l : Addr} {vs : List Value} {ns : List Int} {i : Int} {ti : Tok} {k : Int} {tk : Tok}
  {dp un : Nat} {gd : Option (List Code)} {cn : Str} {cs : Scope} {a : Addr} {ccd : Value} {cl : List (Str × Addr)} {outer : List Env} {A₀ : Around} {base h₀ : Heap} {L : Addr} {m : Str → Option Value} {s : Shared} {Q E : Value → Shared → Prop}
  (B : Below A₀ base outer h₀) (F : Fr h₀ L s.heap m) (X : (hp w.params).In h₀) (N : News h₀ L s.heap news) (T : Top vw (looseW vw [Str.ofString "GateloomError", Str.ofString "vec"]) mean mg mb h₀) (hk : cs.kind = .function)
  (hl : base.IsList l vs.toArray) (hi : IntsAre vs ns) (hf : ns.length < 2 ^ 62) (h0 : 0 ≤ i) (h1 : 0 < k) (hdp : dp + 1 < recursionLimit) (hun : un + 8 < cLine)
  (hret : ∀ t h' tk', Fr h₀ L h' m → News h₀ L h' news → 0 ≤ part ns i k → part ns i k < k → Q (.int (part ns i k) t) { s with heap := h', toks := tk' }) :
  wpAny (model PySem.Challenge.rw_pq0461_01.row.prog w) (ktrTop dp un gd cn cs L a ccd cl outer) (call (.ref 335) [.ref l, .int i ti, .int k tk]) Q E s := by
  revert X; k_fill; intro X
  replace hret := fun t h' tk' a b => hret t h' tk' a b (part_nn ns i h1) (part_lt ns i h1)
  refine wpAny_call ?_
  k_dflt cell_enter
  k_steps
  · exact (part_out (by assumption) : part ns i k = 0) ▸ hret _ _ _ (by assumption) (by assumption)
  · exact (part_in (by assumption) : part ns i k = _) ▸ hret _ _ _ (by assumption) (by assumption)
local macro_rules | `(tactic| walk_at "mine enter") => `(tactic| first
  | (refine' code_def ?k1 ?k2 ?k3 ?k4 ?k5 ?kA ?kF ?kK ?k6 ?k7 ?k8 ?k9 ?kB ?_ ?c2 ?c3 ?c4 ?c5; (case kA => exact rfl); (case kF => exact rfl); (case kK => first | exact rfl | assumption); (case k1 => k_asm); (case k2 => k_asm); (case k3 => k_asm); (case k4 => k_asm); (case k5 => k_asm); (case k6 => k_is); (case k7 => k_is); (case k8 => ktr_room); (case k9 => first | exact BindsTo.of_eq rfl | exact binds_K (by k_in) rfl (by k_is) rfl rfl rfl); (case c5 => decide); (case kB => exact locs rfl); (case c2 => exact rfl); (case c3 => exact rfl); (case c4 => exact rfl); k_whole; intro g' L' h' FG' F' N' B' X' T'; (try dsimp only); (try k_lift B'); (try k_fold))
  | (refine' code_defC ?k1 ?k2 ?k3 ?k4 ?k5 ?kA ?kF ?kK ?k6 ?k7 ?k8 ?k9 ?kB ?kD ?_ ?c2 ?c3 ?c4; (case kA => exact rfl); (case kF => exact rfl); (case kK => first | exact rfl | assumption); (case k1 => k_asm); (case k2 => k_asm); (case k3 => k_asm); (case k4 => k_asm); (case k5 => k_asm); (case k6 => k_is); (case k7 => k_is); (case k8 => ktr_room); (case k9 => first | exact BindsTo.of_eq rfl | exact binds_K (by k_in) rfl (by k_is) rfl rfl rfl); (case kB => exact rfl); (case kD => decide +kernel); (case c2 => exact rfl); (case c3 => exact rfl); (case c4 => exact rfl); k_whole; intro g' L' h' tk' cells' FG' F' N' Y' B' X' T' l1; (try k_lt l1); k_cells Y'; (try simp only [List.cons_append, List.nil_append] at N'); (try dsimp only); (try k_lift B'); (try k_fold)))
local macro_rules | `(tactic| walk_at "call ref") => `(tactic| (k_here; k_dflt (refine wpAny_call ?_; walk_at "mine enter")))
local macro_rules | `(tactic| walk_at "call ref") => `(tactic| (k_here; (with_reducible show wpAny _ _ (call (Value.ref 335) _) _ _ _); k_dflt (
  refine' Mine.part_use (by k_asm) (by k_asm) (by k_asm) (by k_asm) (by k_asm) (by first | exact rfl | assumption) (by k_asm) (by l_ints) (by l_fit) (by first | decide | omega | l_idx) (by first | decide | omega) (by ktr_room) (by ktr_units) ?_
  intros
  walk_at "mine end")))
noncomputable def valA (ds : List Int) : Int := (ds.foldl (fun (σ : Int × Int × Unit) n => (σ.1 * 2 + n.fdiv 2, σ.2.1 * 2 + n.fmod 2, ())) (0, 0, ())).2.1
noncomputable def valB (ds : List Int) : Int := (ds.foldl (fun (σ : Int × Int × Unit) n => (σ.1 * 2 + n.fdiv 2, σ.2.1 * 2 + n.fmod 2, ())) (0, 0, ())).1
theorem bits_use {w : World} {mean : ExcName → Option Value} {mg mb : Str → Option Value} {news : List (Addr × Obj)} {D : Addr} {ys : List Value} {ds : List Int} {n : Nat}
  {dp un : Nat} {gd : Option (List Code)} {cn : Str} {cs : Scope} {a : Addr} {ccd : Value} {cl : List (Str × Addr)} {outer : List Env} {A₀ : Around} {base h₀ : Heap} {L : Addr} {m : Str → Option Value} {s : Shared} {Q E : Value → Shared → Prop}
  (B : Below A₀ base outer h₀) (F : Fr h₀ L s.heap m) (X : (hp w.params).In h₀) (N : News h₀ L s.heap ((D, listOf ys.toArray n) :: news)) (T : Top vw (looseW vw [Str.ofString "GateloomError", Str.ofString "vec"]) mean mg mb h₀) (hk : cs.kind = .function)
  (hi : IntsAre ys ds) (hf : ds.length < 2 ^ 62) (hdp : dp + 1 < recursionLimit) (hun : un + 8 < cLine)
  (hret : ∀ r t1 t2 t3 h' tk', Fr h₀ L h' m → News h₀ L h' ((r, { cls := .type "tuple", data := .seq #[.int ds.length t1, .int (valA ds) t2, .int (valB ds) t3] }) :: (D, listOf ys.toArray n) :: news) → D < r → AllLt r news → Q (.ref r) { s with heap := h', toks := tk' }) :
  wpAny (model PySem.Challenge.rw_pq0461_01.row.prog w) (ktrTop dp un gd cn cs L a ccd cl outer) (call (.ref 342) [.ref D]) Q E s := by
  revert X; k_fill; intro X
  have hlen : ys.length = ds.length := IntsAre.length hi
  refine wpAny_call ?_
  k_dflt walk_at "mine enter"
  k_steps
  obtain ⟨q1, q2⟩ := (by assumption : D < _ ∧ AllLt _ news)
  exact hret _ _ _ _ _ _ (by assumption) (by assumption) q1 q2
theorem led_dup {h₀ h : Heap} {L : Addr} {p : Addr × Obj} {news : List (Addr × Obj)} (N : News h₀ L h news) (hm : p ∈ news) : News h₀ L h (p :: news) := fun q hq => by
  rcases List.mem_cons.mp hq with rfl | hq
  · exact N _ hm
  · exact N _ hq
theorem led_drop2 {h₀ h : Heap} {L : Addr} {p q : Addr × Obj} {news : List (Addr × Obj)} (N : News h₀ L h (p :: q :: news)) : News h₀ L h (p :: news) := fun x hx => by
  rcases List.mem_cons.mp hx with rfl | hx
  · exact N _ (.head _)
  · exact N _ (.tail _ (.tail _ hx))
theorem bits_call {w : World} {mean : ExcName → Option Value} {mg mb : Str → Option Value} {news : List (Addr × Obj)} {D : Addr} {ys : List Value} {ds : List Int} {n : Nat}
  {dp un : Nat} {gd : Option (List Code)} {cn : Str} {cs : Scope} {a : Addr} {ccd : Value} {cl : List (Str × Addr)} {outer : List Env} {A₀ : Around} {base h₀ : Heap} {L : Addr} {m : Str → Option Value} {s : Shared} {Q E : Value → Shared → Prop}
  (B : Below A₀ base outer h₀) (F : Fr h₀ L s.heap m) (X : (hp w.params).In h₀) (N : News h₀ L s.heap news) (T : Top vw (looseW vw [Str.ofString "GateloomError", Str.ofString "vec"]) mean mg mb h₀) (hk : cs.kind = .function)
  (hm : (D, listOf ys.toArray n) ∈ news) (hi : IntsAre ys ds) (hf : ds.length < 2 ^ 62) (hdp : dp + 1 < recursionLimit) (hun : un + 8 < cLine)
  (hret : ∀ r t1 t2 t3 h' tk', Fr h₀ L h' m → News h₀ L h' ((r, { cls := .type "tuple", data := .seq #[.int ds.length t1, .int (valA ds) t2, .int (valB ds) t3] }) :: news) → AllLt r news → Q (.ref r) { s with heap := h', toks := tk' }) :
  wpAny (model PySem.Challenge.rw_pq0461_01.row.prog w) (ktrTop dp un gd cn cs L a ccd cl outer) (call (.ref 342) [.ref D]) Q E s :=
  bits_use B F X (led_dup N hm) T hk hi hf hdp hun fun r t1 t2 t3 h' tk' F' N' _ q => hret r t1 t2 t3 h' tk' F' (led_drop2 N') q
local macro_rules | `(tactic| units_room) => `(tactic| ktr_units)
section
noncomputable def nvC (a b n : Int) : Int := Builtin.bitAnd (a.fdiv (2 ^ (n - 1).toNat)) 1 + 2 * Builtin.bitAnd (b.fdiv (2 ^ (n - 1).toNat)) 1
noncomputable def nvFill (sg hs : Bool) (a b n : Int) : Bool := sg || (!hs && decide (2 ≤ nvC a b n))
noncomputable def nvX (x bit a b n w : Int) (sg hs : Bool) : Int := if w ≤ n then Builtin.bitAnd x (1 * 2 ^ w.toNat - 1) else if nvFill sg hs a b n = true then Builtin.bitOr x (if Builtin.bitAnd (nvC a b n) bit ≠ 0 then Builtin.bitXor (1 * 2 ^ w.toNat - 1) (1 * 2 ^ n.toNat - 1) else 0) else x
theorem nvX_cut (x bit a b n w : Int) (sg hs : Bool) (h : w ≤ n) : nvX x bit a b n w sg hs = Builtin.bitAnd x (1 * 2 ^ w.toNat - 1) := if_pos h
theorem nvX_one (x bit a b n w : Int) (sg hs : Bool) (h : ¬ w ≤ n) (hf : nvFill sg hs a b n = true) (hc : Builtin.bitAnd (nvC a b n) bit ≠ 0) : nvX x bit a b n w sg hs = Builtin.bitOr x (Builtin.bitXor (1 * 2 ^ w.toNat - 1) (1 * 2 ^ n.toNat - 1)) := by
  unfold nvX; rw [if_neg h, if_pos hf, if_pos hc]
theorem nvX_zero (x bit a b n w : Int) (sg hs : Bool) (h : ¬ w ≤ n) (hf : nvFill sg hs a b n = true) (hc : Builtin.bitAnd (nvC a b n) bit = 0) : nvX x bit a b n w sg hs = Builtin.bitOr x 0 := by
  unfold nvX; rw [if_neg h, if_pos hf, if_neg (fun q => q hc)]
theorem nvX_un (x bit a b n w : Int) (sg hs : Bool) (h : ¬ w ≤ n) (hf : ¬ nvFill sg hs a b n = true) : nvX x bit a b n w sg hs = x := by
  unfold nvX; rw [if_neg h, if_neg hf]
theorem nvFill_s {a b n : Int} {sg hs : Bool} (h : sg = true) : nvFill sg hs a b n = true := by unfold nvFill; rw [h]; rfl
theorem nvFill_u {a b n : Int} {sg hs : Bool} (h : hs = false) (h2 : 2 ≤ nvC a b n) : nvFill sg hs a b n = true := by unfold nvFill; rw [h, decide_eq_true h2]; cases sg <;> simp
theorem nvFill_n1 {a b n : Int} {sg hs : Bool} (h : sg = false) (h2 : hs = true) : ¬ nvFill sg hs a b n = true := by unfold nvFill; rw [h, h2]; simp
theorem nvFill_n2 {a b n : Int} {sg hs : Bool} (h : sg = false) (h2 : ¬ 2 ≤ nvC a b n) : ¬ nvFill sg hs a b n = true := by unfold nvFill; rw [h, decide_eq_false h2]; cases hs <;> simp
theorem led_mid {h₀ h : Heap} {L : Addr} {p : Addr × Obj} {l news : List (Addr × Obj)} (N : News h₀ L h (p :: l)) (hs : ∀ q ∈ news, q ∈ l) : News h₀ L h (p :: news) := fun x hx => by
  rcases List.mem_cons.mp hx with rfl | hx
  · exact N _ (.head _)
  · exact N _ (.tail _ (hs _ hx))
theorem code_use {w : World} {mean : ExcName → Option Value} {mg mb : Str → Option Value} {news : List (Addr × Obj)} {v : Addr} {t3 t4 t5 ti : Tok} {n a b : Int}
  {dp un : Nat} {gd : Option (List Code)} {cn : Str} {cs : Scope} {aa : Addr} {ccd : Value} {cl : List (Str × Addr)} {outer : List Env} {A₀ : Around} {base h₀ : Heap} {L : Addr} {m : Str → Option Value} {s : Shared} {Q E : Value → Shared → Prop}
  (B : Below A₀ base outer h₀) (F : Fr h₀ L s.heap m) (X : (hp w.params).In h₀) (N : News h₀ L s.heap news) (T : Top vw (looseW vw [Str.ofString "GateloomError", Str.ofString "vec"]) mean mg mb h₀) (hk : cs.kind = .function)
  (hm : (v, ({ cls := .type "tuple", data := .seq #[.int n t3, .int a t4, .int b t5] } : Obj)) ∈ news)
  (hn0 : 1 ≤ n) (hn1 : n ≤ 9) (hdp : dp + 1 < recursionLimit) (hun : un + 8 < cLine)
  (hret : ∀ t h' tk', Fr h₀ L h' m → News h₀ L h' news → Q (.int (nvC a b n) t) { s with heap := h', toks := tk' }) :
  wpAny (model PySem.Challenge.rw_pq0461_01.row.prog w) (ktrTop dp un gd cn cs L aa ccd cl outer) (call (.ref 83) [.ref v, .int (n - 1) ti]) Q E s := by
  have N1 := led_dup N hm
  clear N
  revert X; k_fill; intro X
  refine wpAny_call ?_
  k_dflt walk_at "mine enter"
  k_steps
  (rename News h₀ L _ _ => hN)
  exact hret _ _ _ (by assumption) (cb_drop hN fun q hq => .tail _ hq)
noncomputable def extX (x bit a b n w : Int) (fb : Bool) : Int := if w ≤ n then Builtin.bitAnd x (1 * 2 ^ w.toNat - 1) else if fb = true then Builtin.bitOr x (if Builtin.bitAnd (nvC a b n) bit ≠ 0 then Builtin.bitXor (1 * 2 ^ w.toNat - 1) (1 * 2 ^ n.toNat - 1) else 0) else x
theorem extX_cut (x bit a b n w : Int) (fb : Bool) (h : w ≤ n) : extX x bit a b n w fb = Builtin.bitAnd x (1 * 2 ^ w.toNat - 1) := if_pos h
theorem extX_one (x bit a b n w : Int) (fb : Bool) (h : ¬ w ≤ n) (hf : fb = true) (hc : Builtin.bitAnd (nvC a b n) bit ≠ 0) : extX x bit a b n w fb = Builtin.bitOr x (Builtin.bitXor (1 * 2 ^ w.toNat - 1) (1 * 2 ^ n.toNat - 1)) := by
  unfold extX; rw [if_neg h, if_pos hf, if_pos hc]
theorem extX_zero (x bit a b n w : Int) (fb : Bool) (h : ¬ w ≤ n) (hf : fb = true) (hc : Builtin.bitAnd (nvC a b n) bit = 0) : extX x bit a b n w fb = Builtin.bitOr x 0 := by
  unfold extX; rw [if_neg h, if_pos hf, if_neg (fun q => q hc)]
theorem extX_un (x bit a b n w : Int) (fb : Bool) (h : ¬ w ≤ n) (hf : fb = false) : extX x bit a b n w fb = x := by
  unfold extX; rw [if_neg h, hf]; rfl
local macro_rules | `(tactic| walk_at "call ref") => `(tactic| (k_here; (with_reducible show wpAny _ _ (call (Value.ref 83) _) _ _ _); k_dflt (
  refine' Mine.code_use (by k_asm) (by k_asm) (by k_asm) (by k_asm) (by k_asm) (by first | exact rfl | assumption) (by k_mem) (by assumption) (by assumption) (by ktr_room) (by ktr_units) ?_
  intros
  (try dsimp only)
  (try k_fold))))
theorem ext_use {w : World} {mean : ExcName → Option Value} {mg mb : Str → Option Value} {news : List (Addr × Obj)} {v : Addr} {t3 t4 t5 tw : Tok} {n a b wd : Int} {fb : Bool}
  {dp un : Nat} {gd : Option (List Code)} {cn : Str} {cs : Scope} {aa : Addr} {ccd : Value} {cl : List (Str × Addr)} {outer : List Env} {A₀ : Around} {base h₀ : Heap} {L : Addr} {m : Str → Option Value} {s : Shared} {Q E : Value → Shared → Prop}
  (B : Below A₀ base outer h₀) (F : Fr h₀ L s.heap m) (X : (hp w.params).In h₀) (N : News h₀ L s.heap news) (T : Top vw (looseW vw [Str.ofString "GateloomError", Str.ofString "vec"]) mean mg mb h₀) (hk : cs.kind = .function)
  (hm : (v, ({ cls := .type "tuple", data := .seq #[.int n t3, .int a t4, .int b t5] } : Obj)) ∈ news)
  (hn0 : 1 ≤ n) (hn1 : n ≤ 9) (hw0 : 1 ≤ wd) (hw1 : wd ≤ 40) (hdp : dp + 2 < recursionLimit) (hun : un + 16 < cLine)
  (hret : ∀ r t1 t2 t3 h' tk', Fr h₀ L h' m → News h₀ L h' ((r, { cls := .type "tuple", data := .seq #[.int wd t1, .int (extX a 1 a b n wd fb) t2, .int (extX b 2 a b n wd fb) t3] }) :: news) → AllLt r news → Q (.ref r) { s with heap := h', toks := tk' }) :
  wpAny (model PySem.Challenge.rw_pq0461_01.row.prog w) (ktrTop dp un gd cn cs L aa ccd cl outer) (call (.ref 90) [.ref v, .int wd tw, .bool fb]) Q E s := by
  have N1 := led_dup N hm
  clear N
  revert X; k_fill; intro X
  refine wpAny_call ?_
  k_dflt walk_at "mine enter"
  k_steps
  all_goals (
    (first
      | rw [extX_cut a 1 a b n wd fb (by assumption), extX_cut b 2 a b n wd fb (by assumption)] at hret
      | rw [extX_un a 1 a b n wd fb (by assumption) (by first | assumption | simpa using (by assumption : ¬ fb = true)), extX_un b 2 a b n wd fb (by assumption) (by first | assumption | simpa using (by assumption : ¬ fb = true))] at hret
      | ((first | rw [extX_one a 1 a b n wd fb (by assumption) (by assumption) (by assumption)] at hret | rw [extX_zero a 1 a b n wd fb (by assumption) (by assumption) (by assumption)] at hret)
         (first | rw [extX_one b 2 a b n wd fb (by assumption) (by assumption) (by assumption)] at hret | rw [extX_zero b 2 a b n wd fb (by assumption) (by assumption) (by assumption)] at hret))))
  all_goals (
    refine hret _ _ _ _ _ _ (by assumption) (led_mid (by assumption) (fun q hq => ?_)) ?_
    · repeat (first | exact hq | apply List.Mem.tail)
    · first
      | exact And.right (by assumption)
      | exact And.right (And.right (by assumption))
      | exact And.right (And.right (And.right (by assumption)))
      | exact And.right (And.right (And.right (And.right (by assumption)))))
local macro_rules | `(tactic| walk_at "call ref") => `(tactic| (k_here; (with_reducible show wpAny _ _ (call (Value.ref 90) _) _ _ _); k_dflt (
  refine' Mine.ext_use (by k_asm) (by k_asm) (by k_asm) (by k_asm) (by k_asm) (by first | exact rfl | assumption) (by k_mem) (by assumption) (by assumption) (by assumption) (by assumption) (by ktr_room) (by ktr_units) ?_
  intros
  (try (rename AllLt _ _ => l9; simp only [AllLt, and_true] at l9))
  (try dsimp only)
  (try k_fold))))
theorem nvX_ext (x bit : Int) {a b n w : Int} {sg hs : Bool} : nvX x bit a b n w sg hs = extX x bit a b n w (nvFill sg hs a b n) := rfl
theorem nvF_1 {a b n : Int} {sg hs : Bool} (h : sg = true) : nvFill sg hs a b n = sg := by unfold nvFill; rw [h]; rfl
theorem nvF_2 {a b n : Int} {sg hs : Bool} (h : sg = false) (h2 : hs = true) : nvFill sg hs a b n = !hs := by unfold nvFill; rw [h, h2]; rfl
theorem nvF_3 {a b n : Int} {sg hs : Bool} (h : sg = false) (h2 : hs = false) : nvFill sg hs a b n = decide (2 ≤ nvC a b n) := by unfold nvFill; rw [h, h2]; simp
theorem nv_use {w : World} {mean : ExcName → Option Value} {mg mb : Str → Option Value} {news : List (Addr × Obj)} {e v : Addr} {t1 t2 t3 t4 t5 tw : Tok} {n a b wd : Int} {sg hs : Bool}
  {dp un : Nat} {gd : Option (List Code)} {cn : Str} {cs : Scope} {aa : Addr} {ccd : Value} {cl : List (Str × Addr)} {outer : List Env} {A₀ : Around} {base h₀ : Heap} {L : Addr} {m : Str → Option Value} {s : Shared} {Q E : Value → Shared → Prop}
  (B : Below A₀ base outer h₀) (F : Fr h₀ L s.heap m) (X : (hp w.params).In h₀)
  (N : News h₀ L s.heap ((e, { cls := .type "tuple", data := .seq #[.str (Str.ofString "num") t1, .int 5 t2, .ref v, .bool sg, .bool hs] }) :: (v, { cls := .type "tuple", data := .seq #[.int n t3, .int a t4, .int b t5] }) :: news))
  (T : Top vw (looseW vw [Str.ofString "GateloomError", Str.ofString "vec"]) mean mg mb h₀) (hk : cs.kind = .function)
  (hn0 : 1 ≤ n) (hn1 : n ≤ 9) (hw0 : 1 ≤ wd) (hw1 : wd ≤ 40) (hdp : dp + 3 < recursionLimit) (hun : un + 24 < cLine)
  (hret : ∀ r t1 t2 t3 t4 h' tk', Fr h₀ L h' m → News h₀ L h' ((r, { cls := .type "tuple", data := .seq #[.str (Str.ofString "const") t1, .int wd t2, .int (nvX a 1 a b n wd sg hs) t3, .int (nvX b 2 a b n wd sg hs) t4] }) :: news) → AllLt r news → Q (.ref r) { s with heap := h', toks := tk' }) :
  wpAny (model PySem.Challenge.rw_pq0461_01.row.prog w) (ktrTop dp un gd cn cs L aa ccd cl outer) (call (.ref 132) [.ref e, .int wd tw, .bool sg]) Q E s := by
  revert X; k_fill; intro X
  refine wpAny_call ?_
  k_dflt walk_at "mine enter"
  k_steps
  all_goals (
    rw [nvX_ext a, nvX_ext b] at hret
    (first | rw [nvF_1 (by assumption)] at hret | rw [nvF_2 (by assumption) (by assumption)] at hret | rw [nvF_3 (by assumption) (by assumption)] at hret)
    refine hret _ _ _ _ _ _ _ (by assumption) (led_mid (by assumption) (fun q hq => ?_)) ?_
    · repeat (first | exact hq | apply List.Mem.tail)
    · exact And.right (And.right (And.right (And.right (by assumption)))))
theorem nv_call {w : World} {mean : ExcName → Option Value} {mg mb : Str → Option Value} {news : List (Addr × Obj)} {e v : Addr} {t1 t2 t3 t4 t5 tw : Tok} {n a b wd : Int} {sg hs : Bool}
  {dp un : Nat} {gd : Option (List Code)} {cn : Str} {cs : Scope} {aa : Addr} {ccd : Value} {cl : List (Str × Addr)} {outer : List Env} {A₀ : Around} {base h₀ : Heap} {L : Addr} {m : Str → Option Value} {s : Shared} {Q E : Value → Shared → Prop}
  (B : Below A₀ base outer h₀) (F : Fr h₀ L s.heap m) (X : (hp w.params).In h₀) (N : News h₀ L s.heap news)
  (T : Top vw (looseW vw [Str.ofString "GateloomError", Str.ofString "vec"]) mean mg mb h₀) (hk : cs.kind = .function)
  (hm1 : (e, ({ cls := .type "tuple", data := .seq #[.str (Str.ofString "num") t1, .int 5 t2, .ref v, .bool sg, .bool hs] } : Obj)) ∈ news) (hm2 : (v, ({ cls := .type "tuple", data := .seq #[.int n t3, .int a t4, .int b t5] } : Obj)) ∈ news)
  (hn0 : 1 ≤ n) (hn1 : n ≤ 9) (hw0 : 1 ≤ wd) (hw1 : wd ≤ 40) (hdp : dp + 3 < recursionLimit) (hun : un + 24 < cLine)
  (hret : ∀ r t1 t2 t3 t4 h' tk', Fr h₀ L h' m → News h₀ L h' ((r, { cls := .type "tuple", data := .seq #[.str (Str.ofString "const") t1, .int wd t2, .int (nvX a 1 a b n wd sg hs) t3, .int (nvX b 2 a b n wd sg hs) t4] }) :: news) → AllLt r news → Q (.ref r) { s with heap := h', toks := tk' }) :
  wpAny (model PySem.Challenge.rw_pq0461_01.row.prog w) (ktrTop dp un gd cn cs L aa ccd cl outer) (call (.ref 132) [.ref e, .int wd tw, .bool sg]) Q E s :=
  nv_use B F X (led_dup (led_dup N hm2) (.tail _ hm1)) T hk hn0 hn1 hw0 hw1 hdp hun hret
end
noncomputable def pol (g : Int → Int) (ds : List Int) : Int := ds.foldl (fun a d => a * 2 + g d) 0
theorem fold_ab (ds : List Int) : ∀ x y : Int, ds.foldl (fun (σ : Int × Int × Unit) n => (σ.1 * 2 + n.fdiv 2, σ.2.1 * 2 + n.fmod 2, ())) (x, y, ()) = (ds.foldl (fun b d => b * 2 + d.fdiv 2) x, ds.foldl (fun a d => a * 2 + d.fmod 2) y, ()) := by
  induction ds with
  | nil => intro x y; rfl
  | cons d r ih => intro x y; rw [List.foldl_cons, ih]; rfl
theorem valA_pol (ds : List Int) : valA ds = pol (fun d => d.fmod 2) ds := by unfold valA pol; rw [fold_ab]
theorem valB_pol (ds : List Int) : valB ds = pol (fun d => d.fdiv 2) ds := by unfold valB pol; rw [fold_ab]
theorem pol_from (g : Int → Int) (ds : List Int) : ∀ x : Int, ds.foldl (fun a d => a * 2 + g d) x = x * 2 ^ ds.length + pol g ds := by
  induction ds with
  | nil => intro x; show x = x * 2 ^ 0 + 0; omega
  | cons d r ih =>
    intro x
    show List.foldl _ (x * 2 + g d) r = x * 2 ^ (r.length + 1) + List.foldl _ (0 * 2 + g d) r
    rw [ih, ih, Int.pow_succ, Int.add_mul, Int.add_mul, Int.mul_assoc x 2, Int.mul_comm 2 (2 ^ r.length)]
    omega
theorem pol_append (g : Int → Int) (xs ys : List Int) : pol g (xs ++ ys) = pol g xs * 2 ^ ys.length + pol g ys := by
  show List.foldl _ 0 (xs ++ ys) = _
  rw [List.foldl_append, pol_from]; rfl
theorem pol_cons (g : Int → Int) (d : Int) (r : List Int) : pol g (d :: r) = g d * 2 ^ r.length + pol g r := by
  show List.foldl _ (0 * 2 + g d) r = _
  rw [pol_from, Int.zero_mul, Int.zero_add]
theorem two_pos (k : Nat) : (0 : Int) < 2 ^ k := kbt_pos k
theorem pol_bound (g : Int → Int) (ds : List Int) (h : ∀ d ∈ ds, 0 ≤ g d ∧ g d ≤ 1) : 0 ≤ pol g ds ∧ pol g ds < 2 ^ ds.length := by
  induction ds with
  | nil => exact ⟨Int.le_refl _, by show (0 : Int) < 2 ^ 0; decide⟩
  | cons d r ih =>
    obtain ⟨i0, i1⟩ := ih fun x hx => h x (.tail _ hx)
    obtain ⟨d0, d1⟩ := h d (.head _)
    rw [pol_cons, List.length_cons, Int.pow_succ]
    have hp := two_pos r.length
    have hc : g d = 0 ∨ g d = 1 := by omega
    rcases hc with e | e <;> rw [e] <;> constructor <;> omega
theorem pol_replicate (g : Int → Int) (f : Int) : ∀ k : Nat, pol g (List.replicate k f) = g f * (2 ^ k - 1)
  | 0 => by show (0 : Int) = g f * (2 ^ 0 - 1); simp
  | k + 1 => by
    rw [List.replicate_succ, pol_cons, pol_replicate g f k, List.length_replicate, Int.pow_succ, Int.mul_sub, Int.mul_sub, Int.mul_comm (2 ^ k) 2, ← Int.mul_assoc, Int.mul_comm (g f) 2, Int.mul_assoc]
    omega
theorem bitAnd_nat {x y : Int} (hx : 0 ≤ x) (hy : 0 ≤ y) : Builtin.bitAnd x y = ((x.toNat &&& y.toNat : Nat) : Int) := by
  unfold Builtin.bitAnd
  rw [decide_eq_true hx, decide_eq_true hy]
theorem bitOr_and (x y : Int) : Builtin.bitOr x y = x + y - Builtin.bitAnd x y := by
  have h : Builtin.bitXor x y = Builtin.bitOr x y - Builtin.bitAnd x y := rfl
  have h2 := bitXor_and x y
  omega
theorem bitAnd_apart {x q : Int} {n : Nat} (hx : 0 ≤ x) (hl : x < 2 ^ n) (hq : 0 ≤ q) : Builtin.bitAnd x (2 ^ n * q) = 0 := by
  have hp := two_pos n
  have hy : 0 ≤ 2 ^ n * q := Int.mul_nonneg (Int.le_of_lt hp) hq
  rw [bitAnd_nat hx hy]
  obtain ⟨a, rfl⟩ := Int.eq_ofNat_of_zero_le hx
  obtain ⟨b, rfl⟩ := Int.eq_ofNat_of_zero_le hq
  have e : ((2 : Int) ^ n * (b : Int)).toNat = 2 ^ n * b := by
    rw [show ((2 : Int) ^ n * (b : Int)) = ((2 ^ n * b : Nat) : Int) by push_cast; rfl]
    exact Int.toNat_natCast _
  have hl' : a < 2 ^ n := by
    have : ((a : Nat) : Int) < ((2 ^ n : Nat) : Int) := by rw [kbt_cast]; exact hl
    omega
  rw [e, Int.toNat_natCast]
  have z : a &&& 2 ^ n * b = 0 := by
    apply Nat.eq_of_testBit_eq
    intro i
    rw [Nat.testBit_and, Nat.zero_testBit, Nat.testBit_two_pow_mul]
    by_cases hi : n ≤ i
    · rw [Nat.testBit_lt_two_pow (Nat.lt_of_lt_of_le hl' (Nat.pow_le_pow_right (by decide) hi))]; simp
    · simp [hi]
  rw [z]; rfl
theorem bitAnd_zero' (x : Int) (hx : 0 ≤ x) : Builtin.bitAnd x 0 = 0 := by
  rw [bitAnd_nat hx (Int.le_refl _)]
  show ((x.toNat &&& 0 : Nat) : Int) = 0
  rw [Nat.and_zero]; rfl
theorem bitOr_zero' (x : Int) (hx : 0 ≤ x) : Builtin.bitOr x 0 = x := by
  rw [bitOr_and, bitAnd_zero' x hx]; omega
theorem mask_xor {w n : Nat} (h : n ≤ w) : Builtin.bitXor (1 * 2 ^ w - 1) (1 * 2 ^ n - 1) = 2 ^ n * (2 ^ (w - n) - 1) := by
  rw [Int.one_mul, Int.one_mul, bitXor_and, kbt_mask]
  have e : (2 : Int) ^ w = 2 ^ n * 2 ^ (w - n) := by rw [← Int.pow_add]; congr 1; omega
  have hp := two_pos n
  have hr : ((2 : Int) ^ w - 1) % 2 ^ n = 2 ^ n - 1 := by
    rw [show (2 : Int) ^ w - 1 = (2 ^ n - 1) + 2 ^ n * (2 ^ (w - n) - 1) by rw [Int.mul_sub, ← e]; omega, Int.add_mul_emod_self_left]
    exact Int.emod_eq_of_lt (by omega) (by omega)
  rw [hr, show (2 : Int) ^ n * (2 ^ (w - n) - 1) = 2 ^ w - 2 ^ n by rw [Int.mul_sub, ← e]; omega]
  omega
theorem or_mask {x : Int} {w n : Nat} (h : n ≤ w) (hx : 0 ≤ x) (hl : x < 2 ^ n) : Builtin.bitOr x (Builtin.bitXor (1 * 2 ^ w - 1) (1 * 2 ^ n - 1)) = 2 ^ n * (2 ^ (w - n) - 1) + x := by
  have hp := two_pos (w - n)
  rw [mask_xor h, bitOr_and, bitAnd_apart hx hl (by omega)]
  omega
theorem cut_mask (g : Int → Int) (ds : List Int) (hb : ∀ d ∈ ds, 0 ≤ g d ∧ g d ≤ 1) (k : Nat) (h : k ≤ ds.length) : Builtin.bitAnd (pol g ds) (1 * 2 ^ k - 1) = pol g (ds.drop (ds.length - k)) := by
  rw [Int.one_mul, kbt_mask]
  have e := pol_append g (ds.take (ds.length - k)) (ds.drop (ds.length - k))
  rw [List.take_append_drop] at e
  have hl : (ds.drop (ds.length - k)).length = k := by rw [List.length_drop]; omega
  obtain ⟨b0, b1⟩ := pol_bound g (ds.drop (ds.length - k)) fun d hd => hb d (List.mem_of_mem_drop hd)
  rw [hl] at e b1
  rw [e, Int.add_comm, Int.mul_comm, Int.add_mul_emod_self_left]
  exact Int.emod_eq_of_lt b0 b1
theorem top_bit (g : Int → Int) (d : Int) (r : List Int) (hb : ∀ x ∈ d :: r, 0 ≤ g x ∧ g x ≤ 1) : Builtin.bitAnd ((pol g (d :: r)).fdiv (2 ^ (((d :: r).length : Int) - 1).toNat)) 1 = g d := by
  have hn : ((((d :: r).length : Nat) : Int) - 1).toNat = r.length := by rw [List.length_cons]; omega
  obtain ⟨b0, b1⟩ := pol_bound g r fun x hx => hb x (.tail _ hx)
  rw [hn, pol_cons, kbt_qL, bitAnd_m1]
  have z : (pol g r).fdiv (2 ^ r.length) = 0 := by
    rw [Int.fdiv_eq_ediv_of_nonneg _ (Int.le_of_lt (two_pos _))]
    exact Int.ediv_eq_zero_of_lt b0 b1
  have := hb d (.head _)
  rw [z]
  omega
theorem digA {d : Int} (h : 0 ≤ d ∧ d < 4) : 0 ≤ d.fmod 2 ∧ d.fmod 2 ≤ 1 := by
  have : d = 0 ∨ d = 1 ∨ d = 2 ∨ d = 3 := by omega
  rcases this with e | e | e | e <;> rw [e] <;> decide
theorem digB {d : Int} (h : 0 ≤ d ∧ d < 4) : 0 ≤ d.fdiv 2 ∧ d.fdiv 2 ≤ 1 := by
  have : d = 0 ∨ d = 1 ∨ d = 2 ∨ d = 3 := by omega
  rcases this with e | e | e | e <;> rw [e] <;> decide
theorem dig_sum {d : Int} (h : 0 ≤ d ∧ d < 4) : d.fmod 2 + 2 * d.fdiv 2 = d := by
  have : d = 0 ∨ d = 1 ∨ d = 2 ∨ d = 3 := by omega
  rcases this with e | e | e | e <;> rw [e] <;> decide
theorem dig_a {d : Int} (h : 0 ≤ d ∧ d < 4) : (Builtin.bitAnd d 1 ≠ 0 ∧ d.fmod 2 = 1) ∨ (¬ Builtin.bitAnd d 1 ≠ 0 ∧ d.fmod 2 = 0) := by
  have : d = 0 ∨ d = 1 ∨ d = 2 ∨ d = 3 := by omega
  rcases this with e | e | e | e <;> rw [e] <;> decide
theorem dig_b {d : Int} (h : 0 ≤ d ∧ d < 4) : (Builtin.bitAnd d 2 ≠ 0 ∧ d.fdiv 2 = 1) ∨ (¬ Builtin.bitAnd d 2 ≠ 0 ∧ d.fdiv 2 = 0) := by
  have : d = 0 ∨ d = 1 ∨ d = 2 ∨ d = 3 := by omega
  rcases this with e | e | e | e <;> rw [e] <;> decide
theorem nvC_eq (d : Int) (r : List Int) (hd : ∀ x ∈ d :: r, 0 ≤ x ∧ x < 4) : nvC (valA (d :: r)) (valB (d :: r)) ((d :: r).length : Int) = d := by
  unfold nvC
  rw [valA_pol, valB_pol, top_bit _ d r fun x hx => digA (hd x hx), top_bit _ d r fun x hx => digB (hd x hx)]
  exact dig_sum (hd d (.head _))
/-- the last w of the filled digits -/
noncomputable def dueOf (fill : Int) (w : Nat) (ds : List Int) : List Int := if w ≤ ds.length then ds.drop (ds.length - w) else List.replicate (w - ds.length) fill ++ ds
theorem due_len (fill : Int) (w : Nat) (ds : List Int) : (dueOf fill w ds).length = w := by
  unfold dueOf; split
  · rw [List.length_drop]; omega
  · rw [List.length_append, List.length_replicate]; omega
theorem due_eq (fill : Int) (w : Int) (hw : 0 ≤ w) (ds : List Int) : ((List.replicate w.toNat [fill]).flatten ++ ds).drop (((List.replicate w.toNat [fill]).flatten ++ ds).length - (- -w).toNat) = dueOf fill w.toNat ds := by
  rw [List.flatten_replicate_singleton, Int.neg_neg, List.length_append, List.length_replicate, List.drop_append, List.drop_replicate, List.length_replicate]
  unfold dueOf
  split
  · rw [show w.toNat - (w.toNat + ds.length - w.toNat) = 0 by omega, List.replicate_zero, List.nil_append]; congr 1; omega
  · rw [show w.toNat + ds.length - w.toNat - w.toNat = 0 by omega, List.drop_zero]; congr 2; omega
theorem nvX_due (g : Int → Int) (bit : Int) (d : Int) (r : List Int) (w : Int) (hw : 1 ≤ w) (sg hs : Bool) (fill : Int) (hd : ∀ x ∈ d :: r, 0 ≤ x ∧ x < 4)
    (hg : ∀ x, 0 ≤ x ∧ x < 4 → 0 ≤ g x ∧ g x ≤ 1) (hz : g 0 = 0) (hbit : ∀ x, 0 ≤ x ∧ x < 4 → (Builtin.bitAnd x bit ≠ 0 ∧ g x = 1) ∨ (¬ Builtin.bitAnd x bit ≠ 0 ∧ g x = 0))
    (hfill : fill = if sg = true ∨ (hs = false ∧ 1 < d) then d else 0) :
    nvX (pol g (d :: r)) bit (valA (d :: r)) (valB (d :: r)) ((d :: r).length : Int) w sg hs = pol g (dueOf fill w.toNat (d :: r)) := by
  have hb : ∀ x ∈ d :: r, 0 ≤ g x ∧ g x ≤ 1 := fun x hx => hg x (hd x hx)
  have hdd := hd d (.head _)
  obtain ⟨p0, p1⟩ := pol_bound g (d :: r) hb
  generalize hL : d :: r = L at *
  by_cases hc : w ≤ (L.length : Int)
  · rw [nvX_cut _ _ _ _ _ _ _ _ hc, cut_mask g L hb w.toNat (by omega)]
    unfold dueOf
    rw [if_pos (by omega)]
  · have hC : nvC (valA L) (valB L) (L.length : Int) = d := by subst hL; exact nvC_eq d r hd
    have hdue : pol g (dueOf fill w.toNat L) = g fill * (2 ^ (w.toNat - L.length) - 1) * 2 ^ L.length + pol g L := by
      unfold dueOf
      rw [if_neg (by omega), pol_append, pol_replicate]
    rw [hdue]
    have hlt : L.length ≤ w.toNat := by omega
    have hLt : ((L.length : Nat) : Int).toNat = L.length := Int.toNat_natCast _
    by_cases hf : nvFill sg hs (valA L) (valB L) (L.length : Int) = true
    · have hfd : fill = d := by
        rw [hfill, if_pos]
        unfold nvFill at hf
        rw [hC] at hf
        cases sg
        · cases hs
          · exact .inr ⟨rfl, by have := of_decide_eq_true (by simpa using hf : decide (2 ≤ d) = true); omega⟩
          · simp at hf
        · exact .inl rfl
      rcases hbit d hdd with ⟨q, e⟩ | ⟨q, e⟩
      · rw [nvX_one _ _ _ _ _ _ _ _ hc hf (by rw [hC]; exact q), hLt, or_mask hlt p0 p1, hfd, e, Int.one_mul, Int.mul_comm]
      · rw [nvX_zero _ _ _ _ _ _ _ _ hc hf (by rw [hC]; exact Decidable.not_not.mp q), bitOr_zero' _ p0, hfd, e, Int.zero_mul, Int.zero_mul, Int.zero_add]
    · have hfd : fill = 0 := by
        rw [hfill, if_neg]
        rintro (q | ⟨q, q2⟩)
        · exact hf (nvFill_s q)
        · exact hf (nvFill_u q (by rw [hC]; omega))
      rw [nvX_un _ _ _ _ _ _ _ _ hc hf, hfd, hz, Int.zero_mul, Int.zero_mul, Int.zero_add]
theorem lit_law (d : Int) (r ds : List Int) (hds : ds = d :: r) (w : Int) (hw : 1 ≤ w) (sg hs : Bool) (fill : Int) (hd : ∀ x ∈ ds, 0 ≤ x ∧ x < 4)
    (hfill : fill = if sg = true ∨ (hs = false ∧ 1 < d) then d else 0) {l : List Int} (hl : l = ((List.replicate w.toNat [fill]).flatten ++ ds).drop (((List.replicate w.toNat [fill]).flatten ++ ds).length - (- -w).toNat)) :
    (w == (l.length : Int) && (nvX (valA ds) 1 (valA ds) (valB ds) (ds.length : Int) w sg hs == valA l && nvX (valB ds) 2 (valA ds) (valB ds) (ds.length : Int) w sg hs == valB l)) = true := by
  subst hds
  rw [due_eq fill w (by omega)] at hl
  subst hl
  have ea := nvX_due (fun x => x.fmod 2) 1 d r w hw sg hs fill hd (fun x hx => digA hx) rfl (fun x hx => dig_a hx) hfill
  have eb := nvX_due (fun x => x.fdiv 2) 2 d r w hw sg hs fill hd (fun x hx => digB hx) rfl (fun x hx => dig_b hx) hfill
  rw [← valA_pol, ← valA_pol] at ea
  rw [← valB_pol, ← valB_pol] at eb
  rw [ea, eb, due_len]
  simp only [beq_self_eq_true, Bool.and_true, beq_iff_eq]
  omega
local macro_rules | `(tactic| walk_at "call ref") => `(tactic| (k_here; (with_reducible show wpAny _ _ (call (Value.ref 342) _) _ _ _); k_dflt (
  refine' Mine.bits_call (by k_asm) (by k_asm) (by k_asm) (by k_asm) (by k_asm) (by first | exact rfl | assumption) (by k_mem) (by first | l_ints | l_intsW) (by first | l_fitC | l_fit | (simp only [List.length_drop, List.length_append, List.length_map, rangeKs_length]; omega)) (by ktr_room) (by ktr_units) ?_
  intros
  walk_at "mine lt"
  walk_at "mine end")))
local macro_rules | `(tactic| walk_at "call ref") => `(tactic| (k_here; (with_reducible show wpAny _ _ (call (Value.ref 132) _) _ _ _); k_dflt (
  refine' Mine.nv_call (by k_asm) (by k_asm) (by k_asm) (by k_asm) (by k_asm) (by first | exact rfl | assumption) (by k_mem) (by k_mem) (by first | assumption | omega | (simp only [List.length_map, rangeKs_length]; omega)) (by first | assumption | omega | (simp only [List.length_map, rangeKs_length]; omega)) (by first | assumption | omega) (by first | assumption | omega) (by ktr_room) (by ktr_units) ?_
  intros
  walk_at "mine lt"
  walk_at "mine end")))
local macro_rules | `(tactic| walk_at "subscriptTail Name Slice ref ref") => `(tactic| (k_here; (with_reducible show wpAny _ _ (subscriptTail _ (PySem.Expr.Slice (some (PySem.Expr.UnaryOp _ (PySem.Expr.Name _ _) _)) none none _) (Value.ref _) (Value.ref _)) _ _ _); k_dflt (refine' kmk_slice_ints (by k_asm) (by k_asm) (by kmk_list) (by kmk_part) (by kmk_part) (by l_ints) (by (refine' kmk_from_neg ?zj ?zk; (case zj => l_ints); (case zk => omega))) (by exact List.length_drop ..) ?_ (by with_unfolding_all rfl) (by kmk_pure) (by (refine' kmk_sz ?zzI ?zzL; (case zzI => assumption); (case zzL => (simp only [sizeLine_eq, List.length_append, List.length_map, rangeKs_length]; omega))))); intro D' ws' h' F' N' l1 hI' hC' hL'; (try k_lt l1); (try k_sweep)))
theorem lit_end {Q : Value → Shared → Prop} {s' : Shared} {ds l : List Int} {w fill : Int} {sg hs : Bool} (d : Int) (hQ : Q (.bool true) s') (h1 : 1 ≤ ds.length) (h0 : ds.getD 0 0 = d) (hw : 1 ≤ w) (hd : ∀ x ∈ ds, 0 ≤ x ∧ x < 4)
    (hfill : fill = if sg = true ∨ (hs = false ∧ 1 < d) then d else 0) (hl : l = ((List.replicate w.toNat [fill]).flatten ++ ds).drop (((List.replicate w.toNat [fill]).flatten ++ ds).length - (- -w).toNat)) :
    Q (.bool (w == (l.length : Int) && (nvX (valA ds) 1 (valA ds) (valB ds) (ds.length : Int) w sg hs == valA l && nvX (valB ds) 2 (valA ds) (valB ds) (ds.length : Int) w sg hs == valB l))) s' := by
  cases ds with
  | nil => exact absurd h1 (by decide)
  | cons d' r =>
    have e : d' = d := h0
    subst e
    rw [lit_law d' r _ rfl w hw sg hs fill hd hfill hl]
    exact hQ
theorem dig_mem (ns : List Int) (n : Nat) : ∀ x ∈ List.map (fun k' => if 0 ≤ part ns (7 + k') 4 ∧ part ns (7 + k') 4 < 4 then part ns (7 + k') 4 else k') (rangeKs 0 n), 0 ≤ x ∧ x < 4 := by
  intro x hx
  obtain ⟨k, _, rfl⟩ := List.mem_map.mp hx
  have a := part_nn ns (7 + k) (k := 4) (by decide)
  have b := part_lt ns (7 + k) (k := 4) (by decide)
  rw [if_pos ⟨a, b⟩]
  exact ⟨a, b⟩
theorem dig_len (ns : List Int) (n : Nat) : (List.map (fun k' => if 0 ≤ part ns (7 + k') 4 ∧ part ns (7 + k') 4 < 4 then part ns (7 + k') 4 else k') (rangeKs 0 n)).length = n := by rw [List.length_map, rangeKs_length]
noncomputable def q0 : Stmt := by
  refine' (?f : ∀ x : Stmt, nth (fB (st 28)) 0 = x → Stmt) _ ?hE
  case hE => ((conv => lhs; whnf; (try dsimp +zeta +zetaHave only)); try exact rfl)
  case f => exact fun x _ => x
noncomputable def q1 : Stmt := by
  refine' (?f : ∀ x : Stmt, nth (fB (st 28)) 1 = x → Stmt) _ ?hE
  case hE => ((conv => lhs; whnf; (try dsimp +zeta +zetaHave only)); try exact rfl)
  case f => exact fun x _ => x
noncomputable def q2 : Stmt := by
  refine' (?f : ∀ x : Stmt, nth (fB (st 28)) 2 = x → Stmt) _ ?hE
  case hE => ((conv => lhs; whnf; (try dsimp +zeta +zetaHave only)); try exact rfl)
  case f => exact fun x _ => x
noncomputable def q3 : Stmt := by
  refine' (?f : ∀ x : Stmt, nth (fB (st 28)) 3 = x → Stmt) _ ?hE
  case hE => ((conv => lhs; whnf; (try dsimp +zeta +zetaHave only)); try exact rfl)
  case f => exact fun x _ => x
noncomputable def q4 : Stmt := by
  refine' (?f : ∀ x : Stmt, nth (fB (st 28)) 4 = x → Stmt) _ ?hE
  case hE => ((conv => lhs; whnf; (try dsimp +zeta +zetaHave only)); try exact rfl)
  case f => exact fun x _ => x
noncomputable def q5 : Stmt := by
  refine' (?f : ∀ x : Stmt, nth (fB (st 28)) 5 = x → Stmt) _ ?hE
  case hE => ((conv => lhs; whnf; (try dsimp +zeta +zetaHave only)); try exact rfl)
  case f => exact fun x _ => x
noncomputable def q6 : Stmt := by
  refine' (?f : ∀ x : Stmt, nth (fB (st 28)) 6 = x → Stmt) _ ?hE
  case hE => ((conv => lhs; whnf; (try dsimp +zeta +zetaHave only)); try exact rfl)
  case f => exact fun x _ => x
noncomputable def q7 : Stmt := by
  refine' (?f : ∀ x : Stmt, nth (fB (st 28)) 7 = x → Stmt) _ ?hE
  case hE => ((conv => lhs; whnf; (try dsimp +zeta +zetaHave only)); try exact rfl)
  case f => exact fun x _ => x
noncomputable def sQ : PySem.Scope := by
  refine' (?f : ∀ x : PySem.Scope, fS (st 28) = x → PySem.Scope) _ ?hE
  case hE => ((conv => lhs; whnf; (try dsimp +zeta +zetaHave only)); try exact rfl)
  case f => exact fun x _ => x
noncomputable abbrev litE (L a : Addr) (ccd : Value) : Env := envOfC (Str.ofString "_law_literal") sQ L a ccd
theorem nameIn {m : Str → Option Value} {x : Str} {v : Value} (h : m x = some v) : (fun y => if y = x then some v else m y) = m := by
  funext y
  by_cases q : y = x
  · rw [if_pos q, q, h]
  · rw [if_neg q]
theorem lit_tail {w : World} {mean : ExcName → Option Value} {mg mb : Str → Option Value} {news : List (Addr × Obj)} {ds : List Int} {ys : List Value} {D r : Addr} {wd fill x1 x2 : Int} {td tc tw tx ty tf : Tok}
  {dp un : Nat} {gd : Option (List Code)} {cn : Str} {cs : Scope} {K aa ea : Addr} {ccd ecd : Value} {cl : List (Str × Addr)} {outer : List Env} {base g : Heap} {L : Addr} {m : Str → Option Value} {s : Shared} {Q : Flow → Shared → Prop} {E : Value → Shared → Prop}
  (B : Below (ktrTop dp un gd cn cs K aa ccd cl outer) base (envX cn cs K aa ccd cl :: outer) g) (F : Fr g L s.heap m) (X : (hp w.params).In g) (N : News g L s.heap news) (T : Top vw (looseW vw [Str.ofString "GateloomError", Str.ofString "vec"]) mean mg mb g)
  (hmD : (D, LCg.lst ys) ∈ news) (hi : IntsAre ys ds) (hmr : (r, ({ cls := .type "tuple", data := .seq #[.str (Str.ofString "const") tc, .int wd tw, .int x1 tx, .int x2 ty] } : Obj)) ∈ news)
  (h1 : m (Str.ofString "fill") = some (.int fill tf)) (h2 : m (Str.ofString "wide") = some (.int wd td)) (h3 : m (Str.ofString "digits") = some (.ref D)) (h4 : m (Str.ofString "told") = some (.ref r))
  (hd0 : 1 ≤ ds.length) (hd9 : ds.length ≤ 9) (hw0 : 1 ≤ wd) (hw1 : wd ≤ 40) (hdp : dp + 5 < recursionLimit) (hun : un + 200 < cLine)
  (hQ : ∀ l h' tk' m', l = ((List.replicate wd.toNat [fill]).flatten ++ ds).drop (((List.replicate wd.toNat [fill]).flatten ++ ds).length - (- -wd).toNat) → Fr g L h' m' → News g L h' news →
    Q (.ret (.bool (wd == (l.length : Int) && (x1 == valA l && x2 == valB l)))) { s with heap := h', toks := tk' }) :
  wpAny (model PySem.Challenge.rw_pq0461_01.row.prog w) ((ktrTop dp un gd cn cs K aa ccd cl outer).deeper (litE L ea ecd)) (execs [q6, q7] (litE L ea ecd)) Q E s := by
  rw [← nameIn h1, ← nameIn h2, ← nameIn h3, ← nameIn h4] at F; (try dsimp only at F)
  have N1 := led_dup (led_dup N hmr) (.tail _ hmD)
  clear N
  revert X; k_fill; intro X
  delta q6 q7
  (try k_fold)
  k_steps
  exact hQ _ _ _ _ rfl (by assumption) (cb_drop (by assumption) fun q hq => by repeat (first | exact hq | apply List.Mem.tail))
theorem lit_mid {w : World} {mean : ExcName → Option Value} {mg mb : Str → Option Value} {news : List (Addr × Obj)} {oS : Obj} {l : Addr} {vs : List Value} {ns ds : List Int} {ys : List Value} {D : Addr} {rest : List Stmt}
  {dp un : Nat} {gd : Option (List Code)} {cn : Str} {cs : Scope} {K aa ea : Addr} {ccd ecd : Value} {cl : List (Str × Addr)} {outer : List Env} {base g : Heap} {L : Addr} {m : Str → Option Value} {s : Shared} {Q : Flow → Shared → Prop} {E : Value → Shared → Prop}
  (B : Below (ktrTop dp un gd cn cs K aa ccd cl outer) base (envX cn cs K aa ccd cl :: outer) g) (F : Fr g L s.heap m) (X : (hp w.params).In g) (N : News g L s.heap ((D, LCg.lst ys) :: (L + 1, oS) :: news)) (T : Top vw (looseW vw [Str.ofString "GateloomError", Str.ofString "vec"]) mean mg mb g)
  (hS : oS.data = .cell (some (.ref l))) (hl : base.IsList l vs.toArray) (hn : IntsAre vs ns) (hf : ns.length < 2 ^ 62) (hi : IntsAre ys ds) (h3 : m (Str.ofString "digits") = some (.ref D))
  (hd0 : 1 ≤ ds.length) (hd9 : ds.length ≤ 9) (hdp : dp + 5 < recursionLimit) (hun : un + 200 < cLine)
  (hnext : ∀ fill tf td r tc tw tx ty R' h' tk' m', fill = (if (part ns 8 3 == 2) = true ∨ ((part ns 9 2 == 1) = false ∧ 1 < ds.getD 0 0) then ds.getD 0 0 else 0) → 0 ≤ part ns 10 40 → part ns 10 40 < 40 → Fr g L h' m' → News g L h' R' → (∀ p ∈ news, p ∈ R') → (D, LCg.lst ys) ∈ R' →
    (r, ({ cls := .type "tuple", data := .seq #[.str (Str.ofString "const") tc, .int (1 + part ns 10 40) tw, .int (nvX (valA ds) 1 (valA ds) (valB ds) (ds.length : Int) (1 + part ns 10 40) (part ns 8 3 == 2) (part ns 9 2 == 1)) tx, .int (nvX (valB ds) 2 (valA ds) (valB ds) (ds.length : Int) (1 + part ns 10 40) (part ns 8 3 == 2) (part ns 9 2 == 1)) ty] } : Obj)) ∈ R' →
    m' (Str.ofString "fill") = some (.int fill tf) → m' (Str.ofString "wide") = some (.int (1 + part ns 10 40) td) → m' (Str.ofString "digits") = some (.ref D) → m' (Str.ofString "told") = some (.ref r) →
    wpAny (model PySem.Challenge.rw_pq0461_01.row.prog w) ((ktrTop dp un gd cn cs K aa ccd cl outer).deeper (litE L ea ecd)) (execs rest (litE L ea ecd)) Q E { s with heap := h', toks := tk' }) :
  wpAny (model PySem.Challenge.rw_pq0461_01.row.prog w) ((ktrTop dp un gd cn cs K aa ccd cl outer).deeper (litE L ea ecd)) (execs (q1 :: q2 :: q3 :: q4 :: q5 :: rest) (litE L ea ecd)) Q E s := by
  rw [← nameIn h3] at F; (try dsimp only at F)
  revert X; k_fill; intro X
  delta q1 q2 q3 q4 q5
  (try k_fold)
  k_steps
  all_goals (
    refine hnext _ _ _ _ _ _ _ _ _ _ _ _ ?_ (by assumption) (by assumption) (by assumption) (by assumption) (fun p hp => by repeat (first | exact hp | apply List.Mem.tail)) (by k_mem) (by k_mem) rfl rfl rfl rfl
    first
      | exact (if_pos (.inl (by simpa using (by assumption : part ns 8 3 = 2)))).symm
      | exact (if_pos (.inr ⟨by simpa using (by assumption : part ns 9 2 ≠ 1), by assumption⟩)).symm
      | (refine (if_neg ?_).symm
         rintro (q | ⟨q, q2⟩)
         · exact absurd (by simpa using q) (by assumption : part ns 8 3 ≠ 2)
         · first | exact absurd (by assumption : part ns 9 2 = 1) (by simpa using q) | exact absurd q2 (by assumption)))
theorem lit_use {w : World} {mean : ExcName → Option Value} {mg mb : Str → Option Value} {news : List (Addr × Obj)} {l : Addr} {vs : List Value} {ns : List Int}
  {dp un : Nat} {gd : Option (List Code)} {cn : Str} {cs : Scope} {a : Addr} {ccd : Value} {cl : List (Str × Addr)} {outer : List Env} {A₀ : Around} {base h₀ : Heap} {L : Addr} {m : Str → Option Value} {s : Shared} {Q E : Value → Shared → Prop}
  (B : Below A₀ base outer h₀) (F : Fr h₀ L s.heap m) (X : (hp w.params).In h₀) (N : News h₀ L s.heap news) (T : Top vw (looseW vw [Str.ofString "GateloomError", Str.ofString "vec"]) mean mg mb h₀) (hk : cs.kind = .function)
  (hl : base.IsList l vs.toArray) (hi : IntsAre vs ns) (hf : ns.length < 2 ^ 62) (hdp : dp + 5 < recursionLimit) (hun : un + 200 < cLine)
  (hret : ∀ h' tk', Fr h₀ L h' m → News h₀ L h' news → Q (.bool true) { s with heap := h', toks := tk' }) :
  wpAny (model PySem.Challenge.rw_pq0461_01.row.prog w) (ktrTop dp un gd cn cs L a ccd cl outer) (call (.ref 366) [.ref l]) Q E s := by
  revert X; k_fill; intro X
  refine wpAny_call ?_
  k_dflt walk_at "mine enter"
  show wpAny (model _ _) ((ktrTop _ _ _ _ _ _ _ _ _ _).deeper (litE _ _ _)) (execs (q0 :: [q1, q2, q3, q4, q5, q6, q7]) (litE _ _ _)) _ _ _
  generalize hrest : [q1, q2, q3, q4, q5, q6, q7] = rest
  delta q0
  (try k_fold)
  k_steps
  subst hrest
  (rename Obj.data _ = _ => d1)
  (rename IntsAre _ (List.map _ _) => hI)
  obtain ⟨ds, hI, hd, hz⟩ : ∃ ds, IntsAre _ ds ∧ (∀ x ∈ ds, 0 ≤ x ∧ x < 4) ∧ ds.length = (1 + part ns 6 9 - 0).toNat := ⟨_, hI, dig_mem _ _, dig_len _ _⟩
  have hz0 : 1 ≤ ds.length := by omega
  have hz9 : ds.length ≤ 9 := by omega
  refine lit_mid (rest := [q6, q7]) (by assumption) (by assumption) (by assumption) (by assumption) (by assumption) d1 hl hi hf hI rfl hz0 hz9 hdp hun ?_
  intro fill tf td r tc tw tx ty R' h' tk' m' hfill b c F' N' hsub hD hr h1 h2 h3 h4
  refine lit_tail (by assumption) F' (by assumption) N' (by assumption) hD hI hr h1 h2 h3 h4 hz0 hz9 (by omega) (by omega) hdp hun ?_
  intro l' h' tk' m' hl' F' N'
  k_steps
  exact lit_end (Q := Q) _ (hret _ _ (by assumption) (cb_drop (by assumption) fun q hq => hsub q hq)) hz0 rfl (by omega) hd hfill hl'
section
theorem tab_bd (i : Nat) : 0 ≤ ([65, 0, 255, 300, 48, 10, 8364] : List Int).getD i 0 ∧ ([65, 0, 255, 300, 48, 10, 8364] : List Int).getD i 0 ≤ 1114111 := by
  match i with
  | 0 | 1 | 2 | 3 | 4 | 5 | 6 => decide
  | n + 7 => exact ⟨Int.le_refl 0, by show (0 : Int) ≤ 1114111; decide⟩
local macro_rules | `(tactic| walk_at "call builtin:chr") => `(tactic| (k_here; refine chr_of_range (Mine.tab_bd _).1 (Mine.tab_bd _).2 ?_))
local macro_rules | `(tactic| walk_at "pyIter ref") => `(tactic| k_state (fun pre made => (made.length : Int) = pre.length) "made")
theorem len_step {a : Str} {n k : Int} {c : Nat} {pre : List Int} (h : (a.length : Int) = pre.length) : ((a ++ (⟨#[c]⟩ : Str)).length : Int) = (pre ++ [k]).length := by
  rw [Str.length_append, List.length_append]
  show ((a.length + 1 : Nat) : Int) = ((pre.length + 1 : Nat) : Int)
  omega
local macro_rules | `(tactic| walk_at "InvEndN") => `(tactic| ((rename News _ _ _ _ => nE'); k_dflt (refine' kst_end ⟨_, _⟩ (by assumption) nE' ?y1 ?y2 ?y3 ?y4 ?y5 ?y6 ?y7; (case y5 => kst_all); (case y1 => first | kst_in | kst_inAny); (case y2 => first | (intro p hp; kst_mem) | kst_anyIn); (case y3 => rfl); (case y4 => kst_facts); (case y6 => kst_same); (case y7 => exact Mine.len_step (n := 0) (by assumption)))))
theorem text_use {w : World} {mean : ExcName → Option Value} {mg mb : Str → Option Value} {news : List (Addr × Obj)} {l : Addr} {vs : List Value} {ns : List Int}
  {dp un : Nat} {gd : Option (List Code)} {cn : Str} {cs : Scope} {a : Addr} {ccd : Value} {cl : List (Str × Addr)} {outer : List Env} {A₀ : Around} {base h₀ : Heap} {L : Addr} {m : Str → Option Value} {s : Shared} {Q E : Value → Shared → Prop}
  (B : Below A₀ base outer h₀) (F : Fr h₀ L s.heap m) (X : (hp w.params).In h₀) (N : News h₀ L s.heap news) (T : Top vw (looseW vw [Str.ofString "GateloomError", Str.ofString "vec"]) mean mg mb h₀) (hk : cs.kind = .function)
  (hl : base.IsList l vs.toArray) (hi : IntsAre vs ns) (hf : ns.length < 2 ^ 62) (hdp : dp + 3 < recursionLimit) (hun : un + 100 < cLine)
  (hret : ∀ T t h' tk', Fr h₀ L h' m → News h₀ L h' news → T.length ≤ 6 → Q (.str T t) { s with heap := h', toks := tk' }) :
  wpAny (model PySem.Challenge.rw_pq0461_01.row.prog w) (ktrTop dp un gd cn cs L a ccd cl outer) (call (.ref 356) [.ref l]) Q E s := by
  revert X; k_fill; intro X
  refine wpAny_call ?_
  k_dflt walk_at "mine enter"
  k_steps
  refine hret _ _ _ _ (by assumption) (by assumption) ?_
  rename _ = ((rangeKs _ _).length : Int) => kI
  rw [rangeKs_length] at kI
  have p0 := part_nn ns 5 (k := 7) (by decide)
  have p1 := part_lt ns 5 (k := 7) (by decide)
  rw [if_pos ⟨p0, p1⟩] at kI
  omega
end
section
noncomputable def octVal (cs : List Int) : Int := cs.foldl (fun v c => v * 256 + c.fmod 256) 0
theorem oct_step {v k : Int} {pre : List Int} (h : v = octVal pre) (h0 : 0 ≤ v) : v * 256 + k.fmod 256 = octVal (pre ++ [k]) ∧ 0 ≤ v * 256 + k.fmod 256 := by
  refine ⟨?_, ?_⟩
  · unfold octVal
    rw [List.foldl_append]
    show _ = octVal pre * 256 + k.fmod 256
    rw [h]
  · have := Int.fmod_nonneg_of_pos k (b := 256) (by decide)
    omega
theorem oct_lt (cs : List Int) : 0 ≤ octVal cs ∧ octVal cs < 256 ^ cs.length := by
  unfold octVal
  suffices h : ∀ (l : List Int) (v : Int) (n : Nat), 0 ≤ v → v < 256 ^ n → 0 ≤ l.foldl (fun v c => v * 256 + c.fmod 256) v ∧ l.foldl (fun v c => v * 256 + c.fmod 256) v < 256 ^ (n + l.length) by
    have := h cs 0 0 (Int.le_refl 0) (by decide)
    simpa using this
  intro l
  induction l with
  | nil => intro v n h0 h1; exact ⟨h0, by simpa using h1⟩
  | cons c l ih =>
    intro v n h0 h1
    have a := Int.fmod_nonneg_of_pos c (b := 256) (by decide)
    have b := Int.fmod_lt_of_pos c (b := 256) (by decide)
    have := ih (v * 256 + c.fmod 256) (n + 1) (by omega) (by rw [Int.pow_succ]; omega)
    rw [List.foldl_cons, List.length_cons, show n + (l.length + 1) = n + 1 + l.length by omega]
    exact this
theorem oct_mask {S : Str} {v : Int} (h : v = octVal (KStt.codes S)) : Builtin.bitAnd v (1 * 2 ^ (8 * if (S.length : Int) > 1 then (S.length : Int) else 1).toNat - 1) = octVal (KStt.codes S) := by
  rw [Int.one_mul, kbt_maskF, h]
  obtain ⟨a, b⟩ := oct_lt (KStt.codes S)
  refine Int.fmod_eq_of_lt a ?_
  have e : (KStt.codes S).length = S.length := by simp [KStt.codes, Str.length]
  rw [e, show (256 : Int) = 2 ^ 8 by decide, ← Int.pow_mul] at b
  refine Int.lt_of_lt_of_le b ?_
  have q : 8 * S.length ≤ (8 * if (S.length : Int) > 1 then (S.length : Int) else 1).toNat := by split <;> omega
  have := Nat.pow_le_pow_right (n := 2) (by decide) q
  exact_mod_cast this
theorem zero_mask (k : Nat) : Builtin.bitAnd 0 (1 * 2 ^ k - 1) = 0 := by
  rw [Int.one_mul, kbt_maskF]; simp
local macro_rules | `(tactic| walk_at "InvEndN") => `(tactic| ((rename News _ _ _ _ => nE'); k_dflt (refine' kst_end ⟨_, _⟩ (by assumption) nE' ?y1 ?y2 ?y3 ?y4 ?y5 ?y6 ?y7; (case y5 => kst_all); (case y1 => first | kst_in | kst_inAny); (case y2 => first | (intro p hp; kst_mem) | kst_anyIn); (case y3 => rfl); (case y4 => kst_facts); (case y6 => kst_same); (case y7 => exact Mine.oct_step (by assumption) (by assumption)))))
theorem tv_use {w : World} {mean : ExcName → Option Value} {mg mb : Str → Option Value} {news : List (Addr × Obj)} {S : Str} {ts : Tok}
  {dp un : Nat} {gd : Option (List Code)} {cn : Str} {cs : Scope} {a : Addr} {ccd : Value} {cl : List (Str × Addr)} {outer : List Env} {A₀ : Around} {base h₀ : Heap} {L : Addr} {m : Str → Option Value} {s : Shared} {Q E : Value → Shared → Prop}
  (B : Below A₀ base outer h₀) (F : Fr h₀ L s.heap m) (X : (hp w.params).In h₀) (N : News h₀ L s.heap news) (T : Top vw (looseW vw [Str.ofString "GateloomError", Str.ofString "vec"]) mean mg mb h₀) (hk : cs.kind = .function)
  (hS : S.length ≤ 6) (hdp : dp + 3 < recursionLimit) (hun : un + 100 < cLine)
  (hret : ∀ r t1 t2 t3 h' tk', Fr h₀ L h' m → News h₀ L h' ((r, { cls := .type "tuple", data := .seq #[.int (8 * if (S.length : Int) > 1 then (S.length : Int) else 1) t1, .int (octVal (KStt.codes S)) t2, .int 0 t3] }) :: news) → AllLt r news → Q (.ref r) { s with heap := h', toks := tk' }) :
  wpAny (model PySem.Challenge.rw_pq0461_01.row.prog w) (ktrTop dp un gd cn cs L a ccd cl outer) (call (.ref 125) [.str S ts]) Q E s := by
  revert X; k_fill; intro X
  refine wpAny_call ?_
  k_dflt walk_at "mine enter"
  k_with "pyIter str" => k_state (fun pre value => value = Mine.octVal pre ∧ 0 ≤ value) "value"
  k_steps
  rename _ = octVal (KStt.codes S) => hv
  rename News h₀ _ _ _ => hN
  rename ∀ p ∈ news, p.1 < _ => hlt
  rw [oct_mask hv, zero_mask] at hN
  exact hret _ _ _ _ _ _ (by assumption) hN (allLt_of hlt)
end
section
open PySem.Calls
local macro_rules | `(tactic| walk_at "mine pad") => `(tactic| skip)
noncomputable def DnSrc (prog : PySem.Program) (w : World) (A : Around) (h₀ : Heap) (L : Addr) (m : Str → Option Value) (env : Env) (elt : Expr) (x : Str) (scope : PySem.Scope) (cl : List (Str × Addr)) (Fin : Shared → List Value → List (Addr × Obj) → Prop) (xv : Value) (s₁ : Shared) : Prop :=
  ∃ r a b t u v n news, xv = .ref r ∧ A.handled = none ∧ Fr h₀ L s₁.heap m ∧ News h₀ L s₁.heap news ∧ IsRange s₁.heap r a b (-1) t u v ∧ Builtin.Range.small a b (-1) = true ∧ Builtin.Range.rangeSize a b (-1) = ((n : Nat) : Int) ∧ n ≤ sizeLine ∧
    ∀ s₂ : Shared, (∃ h, s₂ = { s₁ with heap := h }) → LCg.CompRest prog w A h₀ L m env elt x scope cl s₂ (fun _ => True) (fun i v => ∃ t, v = .int (a + (i : Int) * (-1)) t) (Fin s₂) n 0 [] news
section
variable {prog : PySem.Program} {w : World} {A : Around} {E : Value → Shared → Prop} {s : Shared} {h₀ : Heap} {L : Addr} {m : Str → Option Value} {env : Env}
theorem DnSrc.intro {elt : Expr} {x : Str} {scope : PySem.Scope} {cl : List (Str × Addr)} {Fin : Shared → List Value → List (Addr × Obj) → Prop} {r : Addr} {a b : Int} {t u v : Tok} {n : Nat} {news : List (Addr × Obj)} {s₁ : Shared}
    (hh : A.handled = none) (F : Fr h₀ L s₁.heap m) (N : News h₀ L s₁.heap news) (hr : IsRange s₁.heap r a b (-1) t u v) (hsm : Builtin.Range.small a b (-1) = true) (hn : Builtin.Range.rangeSize a b (-1) = ((n : Nat) : Int)) (hsz : n ≤ sizeLine)
    (h : ∀ g, LCg.CompRest prog w A h₀ L m env elt x scope cl { s₁ with heap := g } (fun _ => True) (fun i v => ∃ t, v = .int (a + (i : Int) * (-1)) t) (Fin { s₁ with heap := g }) n 0 [] news) :
    DnSrc prog w A h₀ L m env elt x scope cl Fin (.ref r) s₁ := ⟨r, a, b, t, u, v, n, news, rfl, hh, F, N, hr, hsm, hn, hsz, fun _ ⟨g, e⟩ => e ▸ h g⟩
theorem dn_st {I : Addr} {a : Int} {n : Nat} : ∀ i (h h' : Heap) (o : Obj) (nw : List (Addr × Obj)), IsRangeIter h I (a + (i : Nat) * (-1)) ((n : Int) - (i : Nat)) (-1) → h.get? I = some o → h'.get? I = some o → (∀ b o, h₀.get? b = some o → h'.get? b = some o) → News h₀ L h' nw → True → IsRangeIter h' I (a + (i : Nat) * (-1)) ((n : Int) - (i : Nat)) (-1) :=
  fun i h h' o nw st e e' _ _ _ => by
    have st' : h.get? I = some _ := st
    show h'.get? I = some _
    rw [e', ← e]; exact st'
theorem ListComp_dn {elt iter : Expr} {x : Str} {px : Pos} {scope : PySem.Scope} {cl : List (Str × Addr)} {pos : Pos} {Q : Value → Shared → Prop} (_F₀ : Fr h₀ L s.heap m)
    (hclos : closureFor scope env = pure cl) (hcell : ∀ y ∈ scope.names, y.2 ≠ .cell) (hkind : scope.kind = .function)
    (hnames : ∀ y ∈ scope.names, y.2 = .local → scope.names.lookup y.1 = some .local) (hx : scope.names.lookup x = some .local)
    (h : wpAny (model prog w) A (eval iter env) (DnSrc prog w A h₀ L m env elt x scope cl (fun s₂ => LCg.FinE h₀ L m s₂ Q)) E s)
    (hs : ∀ x, foldedSetIterable iter env x = pure x := by intro _; rfl) :
    wpAny (model prog w) A (eval (.ListComp elt [⟨.Name x px, iter, [], 0⟩] scope pos) env) Q E s := by
  rw [eval_ListComp]
  refine wpAny_comprehension_free (use := none) rfl hs hclos hkind hnames (wpAny_mono h (fun xv s₁ h₁ => ?_) fun _ _ e => e)
  obtain ⟨r, a, b, t, u, v, n, news, rfl, hh, F, N, hr, hsm, hn, hsz, R⟩ := h₁
  refine wpAny_pyIter_range hr hsm ?_
  refine LCg.block_U (Walks.range hh _ a (-1) n) hsz (fun i h st => ⟨_, st⟩) dn_st hcell hkind hx (by show IsRangeIter _ _ _ _ _; rw [hn]; simpa using Heap.get?_push_size _ rfl) (fun b hb => ?_)
    (F.keeps fun _ _ e => Heap.get?_push_of_some _ e) (N.grown fun _ _ e => Heap.get?_push_of_some _ e) (Nat.ne_of_lt F.ns.lt) (next_is_new F) (fun p hp => Nat.ne_of_lt (Heap.lt_size (N p hp).1)) trivial (R _ ⟨_, rfl⟩) ?_
  · rw [List.mem_singleton.mp hb]
    show s₁.heap.objs.size < (s₁.heap.push _).objs.size
    rw [Heap.size_push]; exact Nat.lt_succ_self _
  · intro D C h tk m' ys news' F' N' o1 hn hC₀ hD₀ hCL hDL hCD offC fin
    refine ⟨m', hn, fun h'' hs'' => fin D h'' tk (F'.change hs'' hCL hC₀) (fun p hp => ?_) o1⟩
    refine ⟨hs''.extBut _ _ ?_ (N' p hp).1, (N' p hp).2⟩
    rcases List.mem_cons.mp hp with rfl | hp
    · exact Ne.symm hCD
    · exact offC p hp
end
section
variable {prog : PySem.Program} {w : World} {A : Around} {E : Value → Shared → Prop} {s : Shared} {h₀ : Heap} {L : Addr} {m : Str → Option Value} {news news' : List (Addr × Obj)}
theorem iadd_K {D b : Addr} {ys ws : List Value} {n n2 : Nat} {Q : Value → Shared → Prop} (F : Fr h₀ L s.heap m) (N : News h₀ L s.heap news) (hb : (b, { cls := .type "list", data := .seq ws.toArray n2 }) ∈ news)
    (U : Upd D (listOf ys.toArray n) (listOf (ys ++ ws).toArray (if (ys ++ ws).toArray.size == ys.toArray.size then n else n + 1)) news news')
    (h : ∀ h', Fr h₀ L h' m → News h₀ L h' news' → Q (.ref D) { s with heap := h' }) (hsz : ys.length + ws.length ≤ sizeLine) : wpAny (model prog w) A (inplaceOp .Add (.ref D) (.ref b)) Q E s := by
  have zb := N _ hb
  obtain ⟨pre, post, rfl, rfl, a, b'⟩ := U.split
  have z := N (D, listOf ys.toArray n) (List.mem_append.mpr (.inr (.head _)))
  have ha : s.TypeIs (.ref D) "list" := ⟨_, z.1, rfl⟩
  have hb' : s.TypeIs (.ref b) "list" := ⟨_, zb.1, rfl⟩
  have hsz' : ys.toArray.size + ws.toArray.size ≤ sizeLine := by simpa using hsz
  have hfi : fillsInplaceSlot (.type "list") "add" (Operator.Add == .Add) = pure false := by
    unfold fillsInplaceSlot
    show (typeLookup (.type "list") (dunderI "add") >>= fun fi => pure (fi.isSome && !isSeqSlot fi)) = pure false
    rw [PySem.F.slot_list_iadd.lookup]
    show (pure (true && !isSeqSlot (some (.builtin "list.__iadd__"))) : Sem Bool) = pure false
    rw [show isSeqSlot (some (.builtin "list.__iadd__")) = true by decide +kernel]
    rfl
  have hsi : seqSlot? (.type "list") (dunderI "add") = pure (some (.builtin "list.__iadd__")) := PySem.seqSlot_of PySem.F.slot_list_iadd.lookup (by decide +kernel)
  unfold inplaceOp
  refine wpAny_holding ?_
  refine wpAny_bind (wpAny_typeOf ha (wpAny_bind (wpAny_of_eq hfi ?_)))
  show wpAny _ A (if false = true then _ else _) Q E s
  rw [if_neg Bool.false_ne_true]
  refine wpAny_bind (binaryOp1_none (nm := "add") ha hb' noFill_list_add ?_)
  refine wpAny_bind (wpAny_of_eq hsi ?_)
  refine wpAny_bind (wpAny_rule (call_meets PySem.F.slot_list_iadd ha PySem.F.entry_list_iadd (PySem.F.args_list_iadd_2 _ _) (AutoSeq1.list___iadd___list_list_0 D ys.toArray n b ws.toArray n2 (extend_door hsz') (Nat.le_trans (Nat.le_add_right _ _) hsz') (Nat.le_succ_of_le hsz')) ⟨z.1, zb.1, ?_⟩))
  have e : ys.toArray ++ ws.toArray = (ys ++ ws).toArray := by simp
  have ho' : (s.heap.update D (Obj.mapSeq fun x => x ++ ws.toArray)).get? D = some (listOf (ys ++ ws).toArray (if (ys ++ ws).toArray.size == ys.toArray.size then n else n + 1)) := by
    rw [Heap.get?_update_self _ z.1 (by rw [mapSeq_app]; rfl), mapSeq_app, e]
  exact h _ (F.change (Heap.SameBut.update ..) z.2.1 z.2.2) (news_set N a b' (Heap.SameBut.update ..) ho')
end
local macro_rules | `(tactic| walk_at "inplaceOp Add ref ref") => `(tactic| (k_here; k_dflt (refine' Mine.iadd_K (by k_asm) (by k_asm) (by k_mem) (by k_upd) ?_ (by (simp only [List.length_cons, List.length_nil, List.length_append, sizeLine_eq]; omega))); intro h' F' N'; (try dsimp only at N')))
noncomputable def octBit (c : Int) : List Int := [((c.fmod 256).fdiv (2 ^ (7 + ((0 : Nat) : Int) * -1).toNat)).fmod 2, ((c.fmod 256).fdiv (2 ^ (7 + (((0 + 1) : Nat) : Int) * -1).toNat)).fmod 2, ((c.fmod 256).fdiv (2 ^ (7 + (((0 + 1 + 1) : Nat) : Int) * -1).toNat)).fmod 2, ((c.fmod 256).fdiv (2 ^ (7 + (((0 + 1 + 1 + 1) : Nat) : Int) * -1).toNat)).fmod 2, ((c.fmod 256).fdiv (2 ^ (7 + (((0 + 1 + 1 + 1 + 1) : Nat) : Int) * -1).toNat)).fmod 2, ((c.fmod 256).fdiv (2 ^ (7 + (((0 + 1 + 1 + 1 + 1 + 1) : Nat) : Int) * -1).toNat)).fmod 2, ((c.fmod 256).fdiv (2 ^ (7 + (((0 + 1 + 1 + 1 + 1 + 1 + 1) : Nat) : Int) * -1).toNat)).fmod 2, ((c.fmod 256).fdiv (2 ^ (7 + (((0 + 1 + 1 + 1 + 1 + 1 + 1 + 1) : Nat) : Int) * -1).toNat)).fmod 2]
noncomputable def octBits (cs : List Int) : List Int := cs.flatMap octBit
theorem octBits_len (cs : List Int) : (octBits cs).length = 8 * cs.length := by
  unfold octBits
  induction cs with
  | nil => rfl
  | cons c l ih => rw [List.flatMap_cons, List.length_append, ih, List.length_cons]; show 8 + _ = _; omega
theorem octBits_snoc (cs : List Int) (k : Int) : octBits (cs ++ [k]) = octBits cs ++ octBit k := by
  unfold octBits
  rw [List.flatMap_append]
  simp
theorem allLt_lt {d : Addr} : ∀ {l : List (Addr × Obj)}, AllLt d l → ∀ p ∈ l, @LT.lt Nat _ p.1 d
  | [], _, _, hp => nomatch hp
  | _ :: _, h, p, hp => by
    rcases List.mem_cons.mp hp with rfl | hp
    · exact h.1
    · exact allLt_lt h.2 p hp
theorem oct_room {S : Str} {pre post : List Int} {n : Nat} {vs : List Value} {ds : List Int} (hS : S.length ≤ 6) (hc : KStt.codes S = pre ++ (n : Int) :: post) (hI : IntsAre vs ds) (hP : ds = octBits pre) : vs.length ≤ 48 := by
  have a := congrArg List.length hc
  rw [KStt.codes_length, List.length_append, List.length_cons] at a
  rw [IntsAre.length hI, hP, octBits_len]
  omega
theorem kst_b_nil {u f : Str → Option Value} {v : Option Value} {z : Str} (hz : ¬ z = Str.ofString "digits") :
    kstB (fun z => if ([] : List Str).contains z = true then u z else if z = Str.ofString "digits" then v else f z) [] z = f z := by
  show (if ([] : List Str).contains z = true then u z else if z = Str.ofString "digits" then v else f z) = f z
  rw [if_neg (by simp), if_neg hz]
noncomputable def oB : List Stmt := by
  refine' (?f : ∀ (tg it : PySem.Expr) (b els : List Stmt) (p : Pos), nth (fB (st 27)) 1 = Stmt.For tg it b els p → List Stmt) _ _ _ _ _ ?hE
  case hE => ((conv => lhs; whnf; (try dsimp +zeta +zetaHave only)); try exact rfl)
  case f => exact fun _ _ b _ _ _ => b
noncomputable def oElt : PySem.Expr := by
  refine' (?f : ∀ (t : PySem.Expr) (o : Operator) (e : PySem.Expr) (gs : List Comprehension) (c : PySem.Scope) (q p : Pos), nth oB 1 = Stmt.AugAssign t o (.ListComp e gs c q) p → PySem.Expr) _ _ _ _ _ _ _ ?hE
  case hE => (delta oB; exact rfl)
  case f => exact fun _ _ e _ _ _ _ _ => e
noncomputable def oCsc : PySem.Scope := by
  refine' (?f : ∀ (t : PySem.Expr) (o : Operator) (e : PySem.Expr) (gs : List Comprehension) (c : PySem.Scope) (q p : Pos), nth oB 1 = Stmt.AugAssign t o (.ListComp e gs c q) p → PySem.Scope) _ _ _ _ _ _ _ ?hE
  case hE => (delta oB; exact rfl)
  case f => exact fun _ _ _ _ c _ _ _ => c
noncomputable def sO : PySem.Scope := by
  refine' (?f : ∀ x : PySem.Scope, fS (st 27) = x → PySem.Scope) _ ?hE
  case hE => ((conv => lhs; whnf; (try dsimp +zeta +zetaHave only)); try exact rfl)
  case f => exact fun x _ => x
noncomputable abbrev octE (L a : Addr) (ccd : Value) : Env := envOfC (Str.ofString "_law_octets") sO L a ccd
noncomputable def bitAt (r : Int) (i : Nat) : Int := (r.fdiv (2 ^ (7 + (i : Int) * -1).toNat)).fmod 2
theorem octBit_range (c : Int) : octBit c = (List.range 8).map (bitAt (c.fmod 256)) := rfl
theorem oct_elt {w : World} {mean : ExcName → Option Value} {mg mb : Str → Option Value}
  {dp un : Nat} {gd : Option (List Code)} {cn : Str} {cs : Scope} {K aa ea : Addr} {ccd ecd : Value} {cl : List (Str × Addr)} {outer : List Env} {base g : Heap} {L : Addr} {m : Str → Option Value} {s : Shared} {Q E : Value → Shared → Prop} {led : List (Addr × Obj)} {oC oR : Obj} {C : Addr} {r : Int} {tr t : Tok} {i : Nat} {m₂ : Str → Option Value}
  (B : Below (ktrTop dp un gd cn cs K aa ccd cl outer) base (envX cn cs K aa ccd cl :: outer) g) (F : Fr g L s.heap m) (X : (hp w.params).In g) (N : News g L s.heap led) (T : Top vw (looseW vw [Str.ofString "GateloomError", Str.ofString "vec"]) mean mg mb g)
  (mC : (C, oC) ∈ led) (mR : (L + 1, oR) ∈ led) (hR : oR.data = .cell (some (.int r tr))) (hC : LCg.NsObj oC m₂) (hm : m₂ (Str.ofString "at_bit") = some (.int (7 + (i : Int) * (-1)) t)) (hi : i < 8)
  (hret : ∀ tv h' tk', Fr g L h' m → News g L h' led → Q (.int (bitAt r i) tv) { s with heap := h', toks := tk' }) :
  wpAny (model PySem.Challenge.rw_pq0461_01.row.prog w) ((ktrTop dp un gd cn cs K aa ccd cl outer).deeper (octE L ea ecd)) (eval oElt (compEnvC oCsc [(Str.ofString "rest", L + 1)] C (octE L ea ecd))) Q E s := by
  have N1 := led_dup (led_dup N mR) (.tail _ mC)
  clear N
  revert X; k_fill; intro X
  delta oElt oCsc
  (try dsimp only)
  k_steps
  (try dsimp only)
  exact hret _ _ _ (by assumption) (cb_drop (by assumption) fun q hq => .tail _ (.tail _ hq))
theorem oct_rest {w : World} {mean : ExcName → Option Value} {mg mb : Str → Option Value}
  {dp un : Nat} {gd : Option (List Code)} {cn : Str} {cs : Scope} {K aa ea : Addr} {ccd ecd : Value} {cl : List (Str × Addr)} {outer : List Env} {base g : Heap} {L : Addr} {m : Str → Option Value} {s : Shared} {led : List (Addr × Obj)} {oR : Obj} {r : Int} {tr : Tok} {Fin : List Value → List (Addr × Obj) → Prop}
  (B : Below (ktrTop dp un gd cn cs K aa ccd cl outer) base (envX cn cs K aa ccd cl :: outer) g) (X : (hp w.params).In g) (T : Top vw (looseW vw [Str.ofString "GateloomError", Str.ofString "vec"]) mean mg mb g)
  (mR : (L + 1, oR) ∈ led) (hR : oR.data = .cell (some (.int r tr))) (fin : ∀ zs, IntsAre zs ((List.range 8).map (bitAt r)) → Fin zs led) :
  ∀ (k i : Nat) (zs : List Value), i + k = 8 → IntsAre zs ((List.range i).map (bitAt r)) →
    LCg.CompRest PySem.Challenge.rw_pq0461_01.row.prog w ((ktrTop dp un gd cn cs K aa ccd cl outer).deeper (octE L ea ecd)) g L m (octE L ea ecd) oElt (Str.ofString "at_bit") oCsc [(Str.ofString "rest", L + 1)] s (fun _ => True) (fun i v => ∃ t, v = .int (7 + (i : Int) * (-1)) t) Fin k i zs led
  | 0, i, zs, e, hz => LCg.CompRest.zero (fin zs (by rwa [show i = 8 by omega] at hz))
  | k + 1, i, zs, e, hz => by
    refine LCg.CompRest.succ fun v I oI C oC D m₂ h tk E' hv hC hx F N off ne => ?_
    obtain ⟨t, rfl⟩ := hv
    refine oct_elt B F X N T (.tail _ (.head _)) (.tail _ (.tail _ (.tail _ mR))) hR hC hx (by omega) fun tv h' tk' F' N' => ?_
    exact ⟨h', tk', led, rfl, F', N', off, trivial, oct_rest B X T mR hR fin k (i + 1) (zs ++ [.int (bitAt r i) tv]) (by omega) (by rw [List.range_succ, List.map_append]; exact hz.append (.cons _ _ .nil))⟩
theorem frame_two {m : Str → Option Value} {x y : Str} {u v : Value} (h1 : m x = some v) (h2 : m y = some u) : (fun z => if z = y then some u else if z = x then some v else if z = y then some u else m z) = m := by
  funext z
  by_cases q : z = y
  · rw [if_pos q, q, h2]
  · rw [if_neg q]
    by_cases q2 : z = x
    · rw [if_pos q2, q2, h1]
    · rw [if_neg q2, if_neg q]
local macro_rules | `(tactic| walk_at "eval ListComp") => `(tactic| (k_here; k_dflt (refine Mine.ListComp_dn (_F₀ := by k_asm) (by with_unfolding_all rfl) (by decide) (by rfl) (by decide) (by rfl) ?_)))
local macro_rules | `(tactic| walk_at "DnSrc") => `(tactic| (k_here; k_dflt (refine Mine.DnSrc.intro (by rfl) (by k_asm) (by k_asm) (by assumption) (by first | decide | rfl) (by first | rfl | decide) (by first | size_fits | exact Nat.le_of_ble_eq_true rfl) ?_; intro g'; refine' Mine.oct_rest (oR := _) (by k_asm) (by k_asm) (by k_asm) (by k_mem) (by assumption) ?_ 8 0 [] rfl IntsAre.nil; intro z9 hz9; (have hl9 := IntsAre.length hz9); (simp only [List.length_map, List.length_range] at hl9); (try dsimp only))))
theorem oct_body {w : World} {mean : ExcName → Option Value} {mg mb : Str → Option Value}
  {dp un : Nat} {gd : Option (List Code)} {cn : Str} {cs : Scope} {K aa ea : Addr} {ccd ecd : Value} {cl : List (Str × Addr)} {outer : List Env} {base g : Heap} {L : Addr} {m : Str → Option Value} {s : Shared} {Q : Flow → Shared → Prop} {E : Value → Shared → Prop} {news : List (Addr × Obj)} {oc : Obj} {vc : Option Value} {D : Addr} {n9 n : Nat} {vs : List Value} {ds : List Int} {t : Tok}
  (B : Below (ktrTop dp un gd cn cs K aa ccd cl outer) base (envX cn cs K aa ccd cl :: outer) g) (F : Fr g L s.heap m) (X : (hp w.params).In g) (N : News g L s.heap ((D, listOf vs.toArray n9) :: (L + 1, oc) :: news)) (T : Top vw (looseW vw [Str.ofString "GateloomError", Str.ofString "vec"]) mean mg mb g)
  (hc : oc.data = .cell vc) (h1 : m (Str.ofString "letter") = some (.str { cps := #[n] } t)) (h2 : m (Str.ofString "digits") = some (.ref D)) (hI : IntsAre vs ds) (hroom : vs.length ≤ 48) (hDL : @LT.lt Nat _ (L + 1) D) (hoff : OwnOff news [D, L + 1])
  (hnext : ∀ vs' n9' oc' h' tk', Fr g L h' m → News g L h' ((D, listOf vs'.toArray n9') :: (L + 1, oc') :: news) → IntsAre vs' (ds ++ octBit (n : Int)) → (∃ v, oc'.data = .cell v) → Q .next { s with heap := h', toks := tk' }) :
  wpAny (model PySem.Challenge.rw_pq0461_01.row.prog w) ((ktrTop dp un gd cn cs K aa ccd cl outer).deeper (octE L ea ecd)) (execs oB (octE L ea ecd)) Q E s := by
  rw [← nameIn h1, ← nameIn h2] at F; (try dsimp only at F)
  revert X; k_fill; intro X

  delta oB
  (try dsimp only)
  (try k_fold)
  k_steps
  (rename News _ _ _ _ => hN)
  (rename Fr _ _ _ _ => hF)
  (rename IntsAre _ (List.map _ _) => hz)
  rw [frame_two h1 h2] at hF
  exact hnext _ _ _ _ _ hF (cb_drop hN fun q hq => .tail _ hq) (by rw [octBit_range]; exact hI.append hz) ⟨_, by assumption⟩
theorem oc_use {w : World} {mean : ExcName → Option Value} {mg mb : Str → Option Value} {news : List (Addr × Obj)} {S : Str} {ts : Tok}
  {dp un : Nat} {gd : Option (List Code)} {cn : Str} {cs : Scope} {a : Addr} {ccd : Value} {cl : List (Str × Addr)} {outer : List Env} {A₀ : Around} {base h₀ : Heap} {L : Addr} {m : Str → Option Value} {s : Shared} {Q E : Value → Shared → Prop}
  (B : Below A₀ base outer h₀) (F : Fr h₀ L s.heap m) (X : (hp w.params).In h₀) (N : News h₀ L s.heap news) (T : Top vw (looseW vw [Str.ofString "GateloomError", Str.ofString "vec"]) mean mg mb h₀) (hk : cs.kind = .function)
  (hS : S.length ≤ 6) (hdp : dp + 3 < recursionLimit) (hun : un + 100 < cLine)
  (hret : ∀ r t1 t2 t3 ds h' tk', Fr h₀ L h' m → News h₀ L h' ((r, { cls := .type "tuple", data := .seq #[.int (ds.length : Int) t1, .int (valA ds) t2, .int (valB ds) t3] }) :: news) → AllLt r news → ds = (if octBits (KStt.codes S) = [] then [0, 0, 0, 0, 0, 0, 0, 0] else octBits (KStt.codes S)) → Q (.ref r) { s with heap := h', toks := tk' }) :
  wpAny (model PySem.Challenge.rw_pq0461_01.row.prog w) (ktrTop dp un gd cn cs L a ccd cl outer) (call (.ref 361) [.str S ts]) Q E s := by
  revert X; k_fill; intro X
  refine wpAny_call ?_
  k_dflt walk_at "mine enter"
  k_with "pyIter str" => skip
  iterate 10 (first | (k_unfold; (try dsimp only)) | walk1 | (dsimp only; walk1) | (leave1; try dsimp only))
  (rename News _ _ _ _ => nN)
  (rename Fr _ _ _ _ => nF)
  k_dflt (refine' KStt.kst_text (fun c : List Value × List Int × Nat × Obj => (_, listOf c.1.toArray c.2.2.1) :: (_, c.2.2.2) :: news) (fun _ => []) (fun c => IntsAre c.1 c.2.1 ∧ ∃ v, c.2.2.2.data = .cell v) [] (fun pre c => c.2.1 = Mine.octBits pre) ⟨[], [], 0, _⟩ ?hh nF nN ?kf ?kk ?kp ?turn ?done)
  case hh => rfl
  case kf => exact ⟨.nil, _, by assumption⟩
  case kk => exact List.forall_mem_nil _
  case kp => rfl
  case turn =>
    rintro ⟨vs, ds, n9, oc⟩ pre post n t u h tk own hcod hoff ⟨hI, vc, hc⟩ hP kFr kNews
    (try dsimp only at hoff hI hc hP kFr kNews)
    (try simp only [List.cons_append] at kNews)
    (simp only [List.map_cons] at hoff)
    (rename ∀ p ∈ news, p.1 < _ => l9)
    have l10 := allLt_of (fun p (hp : p ∈ news) => Nat.lt_add_one_of_lt (l9 p hp))
    have hroom := oct_room hS hcod hI hP
    have kMark := kstMark
    (rename _ ∧ AllLt _ news => l1)
    have l2 := allLt_lt l1.2
    have l11 := allLt_lt l10
    show wpAny (model _ _) ((ktrTop _ _ _ _ _ _ _ _ _ _).deeper (octE _ _ _)) (execs oB (octE _ _ _)) _ _ _
    refine oct_body (by assumption) kFr (by assumption) kNews (by assumption) hc rfl rfl hI hroom l1.1 ?_ fun vs' n9' oc' h' tk' F' N' hI' hc' => ?_
    · intro p hp b hb
      rcases List.mem_append.mp hp with h | h
      · have h1 := l2 p h
        have h2 := l11 p h
        simp only [List.mem_cons, List.not_mem_nil, or_false] at hb
        (show @Ne Nat _ _)
        rcases hb with rfl | rfl <;> omega
      · refine hoff p h b ?_
        simp only [List.mem_cons, List.not_mem_nil, or_false] at hb
        rcases hb with rfl | rfl
        · exact .head _
        · exact .tail _ (.head _)
    k_dflt (refine' kst_end ⟨vs', ds ++ Mine.octBit (n : Int), n9', oc'⟩ F' N' ?y1 ?y2 ?y3 ?y4 ?y5 ?y6 ?y7)
    case y1 => first | kst_in | kst_inAny
    case y2 => first | (intro p hp; kst_mem) | kst_anyIn
    case y3 => rfl
    case y4 => exact ⟨hI', hc'⟩
    case y5 => exact List.forall_mem_nil _
    case y6 =>
      intro z h1 h2 h3
      by_cases hz : z = Str.ofString "digits"
      · subst hz; rfl
      · simp only [if_neg hz, if_neg h1]
        exact (kst_b_nil hz).trans rfl
    case y7 =>
      show ds ++ _ = octBits (pre ++ [(n : Int)])
      rw [octBits_snoc, hP]
  case done =>
    rintro ⟨vs, ds, n9, oc⟩ u h tk ⟨hI, vc, hc⟩ hP kFr kNews
    (try dsimp only at hI hc hP kFr kNews)
    (try dsimp only)
    (try k_fold)
    have hlen : ds.length ≤ 48 := by rw [hP, octBits_len, KStt.codes_length]; omega
    have hlen2 : vs.length = ds.length := IntsAre.length hI
    k_steps
    · rename decide (ds = []) = true => hd
      have e0 : octBits (KStt.codes S) = [] := hP ▸ of_decide_eq_true hd
      (rename News h₀ _ _ _ => hN)
      refine hret _ _ _ _ _ _ _ (by assumption) (cb_drop hN (List.forall_mem_cons.mpr ⟨.head _, fun p hp => .tail _ (.tail _ (.tail _ (.tail _ (.tail _ (.tail _ hp)))))⟩)) ?_ (by rw [if_pos e0]; rfl)
      · (rename _ ∧ _ ∧ _ ∧ _ ∧ _ ∧ AllLt _ news => hlt)
        exact hlt.2.2.2.2.2
    · rename decide (ds = []) = false => hd
      have e0 : ¬ octBits (KStt.codes S) = [] := hP ▸ of_decide_eq_false hd
      (rename News h₀ _ _ _ => hN)
      refine hret _ _ _ _ _ _ _ (by assumption) (cb_drop hN (List.forall_mem_cons.mpr ⟨.head _, fun p hp => .tail _ (.tail _ (.tail _ (.tail _ hp)))⟩)) ?_ (by rw [if_neg e0]; exact hP)
      · (rename _ ∧ _ ∧ _ ∧ AllLt _ news => hlt)
        exact hlt.2.2.2
end
theorem octBit_eq (c : Int) : octBit c = [((c.fmod 256).fdiv 128).fmod 2, ((c.fmod 256).fdiv 64).fmod 2, ((c.fmod 256).fdiv 32).fmod 2, ((c.fmod 256).fdiv 16).fmod 2, ((c.fmod 256).fdiv 8).fmod 2, ((c.fmod 256).fdiv 4).fmod 2, ((c.fmod 256).fdiv 2).fmod 2, ((c.fmod 256).fdiv 1).fmod 2] := rfl
theorem bit_small {e : Int} (h : e = 0 ∨ e = 1) : e.fdiv 2 = 0 ∧ e.fmod 2 = e := by rcases h with rfl | rfl <;> decide
theorem bit_of (x k : Int) : (x.fdiv k).fmod 2 = 0 ∨ (x.fdiv k).fmod 2 = 1 := by
  have a := Int.fmod_nonneg_of_pos (x.fdiv k) (b := 2) (by decide)
  have b := Int.fmod_lt_of_pos (x.fdiv k) (b := 2) (by decide)
  omega
theorem bits_sum (x : Int) (h0 : 0 ≤ x) (h1 : x < 256) : (x.fdiv 128).fmod 2 * 128 + (x.fdiv 64).fmod 2 * 64 + (x.fdiv 32).fmod 2 * 32 + (x.fdiv 16).fmod 2 * 16 + (x.fdiv 8).fmod 2 * 8 + (x.fdiv 4).fmod 2 * 4 + (x.fdiv 2).fmod 2 * 2 + (x.fdiv 1).fmod 2 = x := by
  obtain ⟨n, rfl⟩ := Int.eq_ofNat_of_zero_le h0
  have hn : n < 256 := Int.ofNat_lt.mp h1
  exact (show ∀ n : Fin 256, (((n.val : Int)).fdiv 128).fmod 2 * 128 + (((n.val : Int)).fdiv 64).fmod 2 * 64 + (((n.val : Int)).fdiv 32).fmod 2 * 32 + (((n.val : Int)).fdiv 16).fmod 2 * 16 + (((n.val : Int)).fdiv 8).fmod 2 * 8 + (((n.val : Int)).fdiv 4).fmod 2 * 4 + (((n.val : Int)).fdiv 2).fmod 2 * 2 + (((n.val : Int)).fdiv 1).fmod 2 = (n.val : Int) by decide +kernel) ⟨n, hn⟩
theorem oct_fold (c b a : Int) : (octBit c).foldl (fun (σ : Int × Int × Unit) n => (σ.1 * 2 + n.fdiv 2, σ.2.1 * 2 + n.fmod 2, ())) (b, a, ()) = (b * 256, a * 256 + c.fmod 256, ()) := by
  rw [octBit_eq]
  have s := bits_sum (c.fmod 256) (Int.fmod_nonneg_of_pos c (b := 256) (by decide)) (Int.fmod_lt_of_pos c (b := 256) (by decide))
  generalize c.fmod 256 = x at s ⊢
  simp only [List.foldl_cons, List.foldl_nil, (bit_small (bit_of x _)).1, (bit_small (bit_of x _)).2]
  generalize (x.fdiv 128).fmod 2 = b7, (x.fdiv 64).fmod 2 = b6, (x.fdiv 32).fmod 2 = b5, (x.fdiv 16).fmod 2 = b4, (x.fdiv 8).fmod 2 = b3, (x.fdiv 4).fmod 2 = b2, (x.fdiv 2).fmod 2 = b1, (x.fdiv 1).fmod 2 = b0 at s ⊢
  subst s
  refine Prod.ext ?_ (Prod.ext ?_ rfl)
  · show ((((((((b * 2 + 0) * 2 + 0) * 2 + 0) * 2 + 0) * 2 + 0) * 2 + 0) * 2 + 0) * 2 + 0) = b * 256
    simp only [Int.add_zero, Int.mul_assoc]; rfl
  · dsimp only
    simp only [Int.add_mul, Int.mul_assoc, Int.add_assoc]; rfl
theorem oct_folds (cs : List Int) : ∀ (b a : Int), (octBits cs).foldl (fun (σ : Int × Int × Unit) n => (σ.1 * 2 + n.fdiv 2, σ.2.1 * 2 + n.fmod 2, ())) (b, a, ()) = (b * 256 ^ cs.length, cs.foldl (fun v c => v * 256 + c.fmod 256) a, ()) := by
  induction cs with
  | nil => intro b a; simp [octBits]
  | cons c l ih =>
    intro b a
    show (octBit c ++ octBits l).foldl _ _ = _
    rw [List.foldl_append, oct_fold, ih, List.length_cons, List.foldl_cons, Int.pow_succ]
    refine Prod.ext ?_ rfl
    show b * 256 * 256 ^ l.length = b * (256 ^ l.length * 256)
    rw [Int.mul_assoc, Int.mul_comm 256]
theorem oct_law {S : Str} {ds : List Int} (h : ds = if octBits (KStt.codes S) = [] then [0, 0, 0, 0, 0, 0, 0, 0] else octBits (KStt.codes S)) :
    (ds.length : Int) = 8 * (if (S.length : Int) > 1 then (S.length : Int) else 1) ∧ valA ds = octVal (KStt.codes S) ∧ valB ds = 0 := by
  by_cases e : octBits (KStt.codes S) = []
  · have l0 : (KStt.codes S).length = 0 := by
      have := octBits_len (KStt.codes S)
      rw [e] at this
      have z : (0 : Nat) = 8 * (KStt.codes S).length := this
      omega
    have c0 : KStt.codes S = [] := List.length_eq_zero_iff.mp l0
    rw [if_pos e] at h
    subst h
    rw [c0]
    rw [KStt.codes_length] at l0
    rw [l0]
    exact ⟨rfl, rfl, rfl⟩
  · rw [if_neg e] at h
    have l0 : (KStt.codes S).length ≠ 0 := fun q => e (by rw [List.length_eq_zero_iff.mp q]; rfl)
    rw [KStt.codes_length] at l0
    have f := oct_folds (KStt.codes S) 0 0
    refine ⟨?_, ?_, ?_⟩
    · rw [h, octBits_len, KStt.codes_length]
      split <;> omega
    · rw [h]
      unfold valA octVal
      rw [f]
    · rw [h]
      unfold valB
      rw [f]
      simp
theorem oc_call {w : World} {mean : ExcName → Option Value} {mg mb : Str → Option Value} {news : List (Addr × Obj)} {S : Str} {ts : Tok}
  {dp un : Nat} {gd : Option (List Code)} {cn : Str} {cs : Scope} {a : Addr} {ccd : Value} {cl : List (Str × Addr)} {outer : List Env} {A₀ : Around} {base h₀ : Heap} {L : Addr} {m : Str → Option Value} {s : Shared} {Q E : Value → Shared → Prop}
  (B : Below A₀ base outer h₀) (F : Fr h₀ L s.heap m) (X : (hp w.params).In h₀) (N : News h₀ L s.heap news) (T : Top vw (looseW vw [Str.ofString "GateloomError", Str.ofString "vec"]) mean mg mb h₀) (hk : cs.kind = .function)
  (hS : S.length ≤ 6) (hdp : dp + 3 < recursionLimit) (hun : un + 100 < cLine)
  (hret : ∀ r t1 t2 t3 h' tk', Fr h₀ L h' m → News h₀ L h' ((r, { cls := .type "tuple", data := .seq #[.int (8 * if (S.length : Int) > 1 then (S.length : Int) else 1) t1, .int (octVal (KStt.codes S)) t2, .int 0 t3] }) :: news) → AllLt r news → Q (.ref r) { s with heap := h', toks := tk' }) :
  wpAny (model PySem.Challenge.rw_pq0461_01.row.prog w) (ktrTop dp un gd cn cs L a ccd cl outer) (call (.ref 361) [.str S ts]) Q E s :=
  oc_use B F X N T hk hS hdp hun fun r t1 t2 t3 ds h' tk' F' N' hlt hds => by
    obtain ⟨q1, q2, q3⟩ := oct_law hds
    rw [q1, q2, q3] at N'
    exact hret r t1 t2 t3 h' tk' F' N' hlt
noncomputable def b0 : Stmt := by
  refine' (?f : ∀ x : Stmt, nth (fB (st 29)) 0 = x → Stmt) _ ?hE
  case hE => ((conv => lhs; whnf; (try dsimp +zeta +zetaHave only)); try exact rfl)
  case f => exact fun x _ => x
noncomputable def b1 : Stmt := by
  refine' (?f : ∀ x : Stmt, nth (fB (st 29)) 1 = x → Stmt) _ ?hE
  case hE => ((conv => lhs; whnf; (try dsimp +zeta +zetaHave only)); try exact rfl)
  case f => exact fun x _ => x
noncomputable def b2 : Stmt := by
  refine' (?f : ∀ x : Stmt, nth (fB (st 29)) 2 = x → Stmt) _ ?hE
  case hE => ((conv => lhs; whnf; (try dsimp +zeta +zetaHave only)); try exact rfl)
  case f => exact fun x _ => x
noncomputable def b3 : Stmt := by
  refine' (?f : ∀ x : Stmt, nth (fB (st 29)) 3 = x → Stmt) _ ?hE
  case hE => ((conv => lhs; whnf; (try dsimp +zeta +zetaHave only)); try exact rfl)
  case f => exact fun x _ => x
noncomputable def b4 : Stmt := by
  refine' (?f : ∀ x : Stmt, nth (fB (st 29)) 4 = x → Stmt) _ ?hE
  case hE => ((conv => lhs; whnf; (try dsimp +zeta +zetaHave only)); try exact rfl)
  case f => exact fun x _ => x
noncomputable def b5 : Stmt := by
  refine' (?f : ∀ x : Stmt, nth (fB (st 29)) 5 = x → Stmt) _ ?hE
  case hE => ((conv => lhs; whnf; (try dsimp +zeta +zetaHave only)); try exact rfl)
  case f => exact fun x _ => x
noncomputable def b6 : Stmt := by
  refine' (?f : ∀ x : Stmt, nth (fB (st 29)) 6 = x → Stmt) _ ?hE
  case hE => ((conv => lhs; whnf; (try dsimp +zeta +zetaHave only)); try exact rfl)
  case f => exact fun x _ => x
noncomputable def b7 : Stmt := by
  refine' (?f : ∀ x : Stmt, nth (fB (st 29)) 7 = x → Stmt) _ ?hE
  case hE => ((conv => lhs; whnf; (try dsimp +zeta +zetaHave only)); try exact rfl)
  case f => exact fun x _ => x
noncomputable def b8 : Stmt := by
  refine' (?f : ∀ x : Stmt, nth (fB (st 29)) 8 = x → Stmt) _ ?hE
  case hE => ((conv => lhs; whnf; (try dsimp +zeta +zetaHave only)); try exact rfl)
  case f => exact fun x _ => x
noncomputable def b9 : Stmt := by
  refine' (?f : ∀ x : Stmt, nth (fB (st 29)) 9 = x → Stmt) _ ?hE
  case hE => ((conv => lhs; whnf; (try dsimp +zeta +zetaHave only)); try exact rfl)
  case f => exact fun x _ => x
noncomputable def b10 : Stmt := by
  refine' (?f : ∀ x : Stmt, nth (fB (st 29)) 10 = x → Stmt) _ ?hE
  case hE => ((conv => lhs; whnf; (try dsimp +zeta +zetaHave only)); try exact rfl)
  case f => exact fun x _ => x
noncomputable def b11 : Stmt := by
  refine' (?f : ∀ x : Stmt, nth (fB (st 29)) 11 = x → Stmt) _ ?hE
  case hE => ((conv => lhs; whnf; (try dsimp +zeta +zetaHave only)); try exact rfl)
  case f => exact fun x _ => x
noncomputable def b12 : Stmt := by
  refine' (?f : ∀ x : Stmt, nth (fB (st 29)) 12 = x → Stmt) _ ?hE
  case hE => ((conv => lhs; whnf; (try dsimp +zeta +zetaHave only)); try exact rfl)
  case f => exact fun x _ => x
noncomputable def b13 : Stmt := by
  refine' (?f : ∀ x : Stmt, nth (fB (st 29)) 13 = x → Stmt) _ ?hE
  case hE => ((conv => lhs; whnf; (try dsimp +zeta +zetaHave only)); try exact rfl)
  case f => exact fun x _ => x
noncomputable def b14 : Stmt := by
  refine' (?f : ∀ x : Stmt, nth (fB (st 29)) 14 = x → Stmt) _ ?hE
  case hE => ((conv => lhs; whnf; (try dsimp +zeta +zetaHave only)); try exact rfl)
  case f => exact fun x _ => x
noncomputable def b15 : Stmt := by
  refine' (?f : ∀ x : Stmt, nth (fB (st 29)) 15 = x → Stmt) _ ?hE
  case hE => ((conv => lhs; whnf; (try dsimp +zeta +zetaHave only)); try exact rfl)
  case f => exact fun x _ => x
noncomputable def b16 : Stmt := by
  refine' (?f : ∀ x : Stmt, nth (fB (st 29)) 16 = x → Stmt) _ ?hE
  case hE => ((conv => lhs; whnf; (try dsimp +zeta +zetaHave only)); try exact rfl)
  case f => exact fun x _ => x
noncomputable def b17 : Stmt := by
  refine' (?f : ∀ x : Stmt, nth (fB (st 29)) 17 = x → Stmt) _ ?hE
  case hE => ((conv => lhs; whnf; (try dsimp +zeta +zetaHave only)); try exact rfl)
  case f => exact fun x _ => x
noncomputable def b18 : Stmt := by
  refine' (?f : ∀ x : Stmt, nth (fB (st 29)) 18 = x → Stmt) _ ?hE
  case hE => ((conv => lhs; whnf; (try dsimp +zeta +zetaHave only)); try exact rfl)
  case f => exact fun x _ => x
noncomputable def b19 : Stmt := by
  refine' (?f : ∀ x : Stmt, nth (fB (st 29)) 19 = x → Stmt) _ ?hE
  case hE => ((conv => lhs; whnf; (try dsimp +zeta +zetaHave only)); try exact rfl)
  case f => exact fun x _ => x
noncomputable def b20 : Stmt := by
  refine' (?f : ∀ x : Stmt, nth (fB (st 29)) 20 = x → Stmt) _ ?hE
  case hE => ((conv => lhs; whnf; (try dsimp +zeta +zetaHave only)); try exact rfl)
  case f => exact fun x _ => x
noncomputable def b21 : Stmt := by
  refine' (?f : ∀ x : Stmt, nth (fB (st 29)) 21 = x → Stmt) _ ?hE
  case hE => ((conv => lhs; whnf; (try dsimp +zeta +zetaHave only)); try exact rfl)
  case f => exact fun x _ => x
noncomputable def b22 : Stmt := by
  refine' (?f : ∀ x : Stmt, nth (fB (st 29)) 22 = x → Stmt) _ ?hE
  case hE => ((conv => lhs; whnf; (try dsimp +zeta +zetaHave only)); try exact rfl)
  case f => exact fun x _ => x
noncomputable def b23 : Stmt := by
  refine' (?f : ∀ x : Stmt, nth (fB (st 29)) 23 = x → Stmt) _ ?hE
  case hE => ((conv => lhs; whnf; (try dsimp +zeta +zetaHave only)); try exact rfl)
  case f => exact fun x _ => x
noncomputable def sL : PySem.Scope := by
  refine' (?f : ∀ x : PySem.Scope, fS (st 29) = x → PySem.Scope) _ ?hE
  case hE => ((conv => lhs; whnf; (try dsimp +zeta +zetaHave only)); try exact rfl)
  case f => exact fun x _ => x
theorem law_body : fB (st 29) = [b0, b1, b2, b3, b4, b5, b6, b7, b8, b9, b10, b11, b12, b13, b14, b15, b16, b17, b18, b19, b20, b21, b22, b23] := rfl
local macro_rules | `(tactic| k_get) => `(tactic| assumption)
section
local macro_rules | `(tactic| walk_at "subscriptTail Attribute Attribute Subscript ref int") => `(tactic| (k_here; k_dflt (refine kba_turn (value' := PySem.Expr.Name (PySem.Str.ofString "_") ⟨0, 0, 0, 0⟩) (fun _ => rfl) ?_; refine' item_litK (by is_list) (by assumption) (by omega) (by assumption) ?_ (by with_unfolding_all rfl))))
theorem mem_sigT {w : World} {mean : ExcName → Option Value} {mg mb : Str → Option Value} {news : List (Addr × Obj)} {e sc dsc de dde sl sg ds : Addr} {t1 ti : Tok} {i : Int} {es1 es2 es3 : List DictEntry} {n1 n2 n3 n4 : Nat} {vs : List Value} {f : Int} {tf : Tok}
  {dp un : Nat} {gd : Option (List Code)} {cn : Str} {cs : Scope} {a : Addr} {ccd : Value} {cl : List (Str × Addr)} {outer : List Env} {A₀ : Around} {base h₀ : Heap} {L : Addr} {m : Str → Option Value} {s : Shared} {Q E : Value → Shared → Prop}
  (B : Below A₀ base outer h₀) (F : Fr h₀ L s.heap m) (X : (hp w.params).In h₀) (N : News h₀ L s.heap ((e, { cls := .type "tuple", data := .seq #[.str (Str.ofString "sig") t1, .int i ti] }) :: (sc, instObj 324 dsc) :: (dsc, dictOf es1 n1) :: (de, instObj 247 dde) :: (dde, dictOf es2 n2) :: (sl, listOf vs.toArray n3) :: (sg, instObj 184 ds) :: (ds, dictOf es3 n4) :: news)) (T : Top vw (looseW vw [Str.ofString "GateloomError", Str.ofString "vec"]) mean mg mb h₀) (hk : cs.kind = .function)
  (g1 : getL (Str.ofString "design") es1 = some (some (.ref de))) (g2 : getL (Str.ofString "signals") es2 = some (some (.ref sl))) (f_m : getL (Str.ofString "is_memory") es3 = some none) (f_first : getL (Str.ofString "first") es3 = some (some (.int f tf)))
  (i0 : 0 ≤ i) (i1 : i < 8) (gi : vs[i.toNat]? = some (.ref sg))
  (hdp : dp + 5 < recursionLimit) (hun : un + 200 < cLine)
  (hret : ∀ h' tk', Fr h₀ L h' m → News h₀ L h' ((e, { cls := .type "tuple", data := .seq #[.str (Str.ofString "sig") t1, .int i ti] }) :: (sc, instObj 324 dsc) :: (dsc, dictOf es1 n1) :: (de, instObj 247 dde) :: (dde, dictOf es2 n2) :: (sl, listOf vs.toArray n3) :: (sg, instObj 184 ds) :: (ds, dictOf es3 n4) :: news) → Q (.bool true) { s with heap := h', toks := tk' }) :
  wpAny (model PySem.Challenge.rw_pq0461_01.row.prog w) (ktrTop dp un gd cn cs L a ccd cl outer) (call (.ref 104) [.ref sc, .ref e]) Q E s := by
  revert X; k_fill; intro X
  refine wpAny_call ?_
  k_dflt walk_at "mine enter"
  k_steps
  exact hret _ _ (by assumption) (by assumption)
theorem mem_sigF {w : World} {mean : ExcName → Option Value} {mg mb : Str → Option Value} {news : List (Addr × Obj)} {e sc dsc de dde sl sg ds : Addr} {t1 ti : Tok} {i : Int} {es1 es2 es3 : List DictEntry} {n1 n2 n3 n4 : Nat} {vs : List Value} 
  {dp un : Nat} {gd : Option (List Code)} {cn : Str} {cs : Scope} {a : Addr} {ccd : Value} {cl : List (Str × Addr)} {outer : List Env} {A₀ : Around} {base h₀ : Heap} {L : Addr} {m : Str → Option Value} {s : Shared} {Q E : Value → Shared → Prop}
  (B : Below A₀ base outer h₀) (F : Fr h₀ L s.heap m) (X : (hp w.params).In h₀) (N : News h₀ L s.heap ((e, { cls := .type "tuple", data := .seq #[.str (Str.ofString "sig") t1, .int i ti] }) :: (sc, instObj 324 dsc) :: (dsc, dictOf es1 n1) :: (de, instObj 247 dde) :: (dde, dictOf es2 n2) :: (sl, listOf vs.toArray n3) :: (sg, instObj 184 ds) :: (ds, dictOf es3 n4) :: news)) (T : Top vw (looseW vw [Str.ofString "GateloomError", Str.ofString "vec"]) mean mg mb h₀) (hk : cs.kind = .function)
  (g1 : getL (Str.ofString "design") es1 = some (some (.ref de))) (g2 : getL (Str.ofString "signals") es2 = some (some (.ref sl))) (f_m : getL (Str.ofString "is_memory") es3 = some none) (f_first : getL (Str.ofString "first") es3 = some (some (.none)))
  (i0 : 0 ≤ i) (i1 : i < 8) (gi : vs[i.toNat]? = some (.ref sg))
  (hdp : dp + 5 < recursionLimit) (hun : un + 200 < cLine)
  (hret : ∀ h' tk', Fr h₀ L h' m → News h₀ L h' ((e, { cls := .type "tuple", data := .seq #[.str (Str.ofString "sig") t1, .int i ti] }) :: (sc, instObj 324 dsc) :: (dsc, dictOf es1 n1) :: (de, instObj 247 dde) :: (dde, dictOf es2 n2) :: (sl, listOf vs.toArray n3) :: (sg, instObj 184 ds) :: (ds, dictOf es3 n4) :: news) → Q (.bool false) { s with heap := h', toks := tk' }) :
  wpAny (model PySem.Challenge.rw_pq0461_01.row.prog w) (ktrTop dp un gd cn cs L a ccd cl outer) (call (.ref 104) [.ref sc, .ref e]) Q E s := by
  revert X; k_fill; intro X
  refine wpAny_call ?_
  k_dflt walk_at "mine enter"
  k_steps
  exact hret _ _ (by assumption) (by assumption)
theorem shape_sig {w : World} {mean : ExcName → Option Value} {mg mb : Str → Option Value} {news : List (Addr × Obj)} {e sc dsc de dde sl sg ds : Addr} {t1 ti : Tok} {i : Int} {es1 es2 es3 : List DictEntry} {n1 n2 n3 n4 : Nat} {vs : List Value} {wd ms ls : Int} {sd sc9 : Bool} {tw tm tl at9 : Tok} {at8 : Int}
  {dp un : Nat} {gd : Option (List Code)} {cn : Str} {cs : Scope} {a : Addr} {ccd : Value} {cl : List (Str × Addr)} {outer : List Env} {A₀ : Around} {base h₀ : Heap} {L : Addr} {m : Str → Option Value} {s : Shared} {Q E : Value → Shared → Prop}
  (B : Below A₀ base outer h₀) (F : Fr h₀ L s.heap m) (X : (hp w.params).In h₀) (N : News h₀ L s.heap ((e, { cls := .type "tuple", data := .seq #[.str (Str.ofString "sig") t1, .int i ti] }) :: (sc, instObj 324 dsc) :: (dsc, dictOf es1 n1) :: (de, instObj 247 dde) :: (dde, dictOf es2 n2) :: (sl, listOf vs.toArray n3) :: (sg, instObj 184 ds) :: (ds, dictOf es3 n4) :: news)) (T : Top vw (looseW vw [Str.ofString "GateloomError", Str.ofString "vec"]) mean mg mb h₀) (hk : cs.kind = .function)
  (g1 : getL (Str.ofString "design") es1 = some (some (.ref de))) (g2 : getL (Str.ofString "signals") es2 = some (some (.ref sl))) (f_width : getL (Str.ofString "width") es3 = some (some (.int wd tw))) (f_signed : getL (Str.ofString "signed") es3 = some (some (.bool sd))) (f_msb : getL (Str.ofString "msb") es3 = some (some (.int ms tm))) (f_lsb : getL (Str.ofString "lsb") es3 = some (some (.int ls tl))) (f_scalar : getL (Str.ofString "scalar") es3 = some (some (.bool sc9)))
  (i0 : 0 ≤ i) (i1 : i < 8) (gi : vs[i.toNat]? = some (.ref sg))
  (hdp : dp + 5 < recursionLimit) (hun : un + 200 < cLine)
  (hret : ∀ r h' tk', Fr h₀ L h' m → News h₀ L h' ((r, { cls := .type "tuple", data := .seq #[.int wd tw, .bool sd, .int ms tm, .int ls tl, .bool sc9] }) :: (e, { cls := .type "tuple", data := .seq #[.str (Str.ofString "sig") t1, .int i ti] }) :: (sc, instObj 324 dsc) :: (dsc, dictOf es1 n1) :: (de, instObj 247 dde) :: (dde, dictOf es2 n2) :: (sl, listOf vs.toArray n3) :: (sg, instObj 184 ds) :: (ds, dictOf es3 n4) :: news) → AllLt r news → Q (.ref r) { s with heap := h', toks := tk' }) :
  wpAny (model PySem.Challenge.rw_pq0461_01.row.prog w) (ktrTop dp un gd cn cs L a ccd cl outer) (call (.ref 111) [.ref sc, .ref e, .int at8 at9]) Q E s := by
  revert X; k_fill; intro X
  refine wpAny_call ?_
  k_dflt walk_at "mine enter"
  k_steps
  (rename _ ∧ _ ∧ _ ∧ _ ∧ _ ∧ _ ∧ _ ∧ _ ∧ AllLt _ news => hlt)
  exact hret _ _ _ (by assumption) (by assumption) hlt.2.2.2.2.2.2.2.2
theorem read_sig {w : World} {mean : ExcName → Option Value} {mg mb : Str → Option Value} {news : List (Addr × Obj)} {e sc dsc de dde sl sg ds : Addr} {t1 ti : Tok} {i : Int} {es1 es2 es3 : List DictEntry} {n1 n2 n3 n4 : Nat} {vs : List Value} {wd : Int} {tw : Tok}
  {dp un : Nat} {gd : Option (List Code)} {cn : Str} {cs : Scope} {a : Addr} {ccd : Value} {cl : List (Str × Addr)} {outer : List Env} {A₀ : Around} {base h₀ : Heap} {L : Addr} {m : Str → Option Value} {s : Shared} {Q E : Value → Shared → Prop}
  (B : Below A₀ base outer h₀) (F : Fr h₀ L s.heap m) (X : (hp w.params).In h₀) (N : News h₀ L s.heap ((e, { cls := .type "tuple", data := .seq #[.str (Str.ofString "sig") t1, .int i ti] }) :: (sc, instObj 324 dsc) :: (dsc, dictOf es1 n1) :: (de, instObj 247 dde) :: (dde, dictOf es2 n2) :: (sl, listOf vs.toArray n3) :: (sg, instObj 184 ds) :: (ds, dictOf es3 n4) :: news)) (T : Top vw (looseW vw [Str.ofString "GateloomError", Str.ofString "vec"]) mean mg mb h₀) (hk : cs.kind = .function)
  (g1 : getL (Str.ofString "design") es1 = some (some (.ref de))) (g2 : getL (Str.ofString "signals") es2 = some (some (.ref sl))) (f_width : getL (Str.ofString "width") es3 = some (some (.int wd tw)))
  (i0 : 0 ≤ i) (i1 : i < 8) (gi : vs[i.toNat]? = some (.ref sg))
  (hdp : dp + 5 < recursionLimit) (hun : un + 200 < cLine)
  (hret : ∀ r t3 h' tk', Fr h₀ L h' m → News h₀ L h' ((r, { cls := .type "tuple", data := .seq #[.str (Str.ofString "sig") t3, .int wd tw, .int i ti] }) :: (e, { cls := .type "tuple", data := .seq #[.str (Str.ofString "sig") t1, .int i ti] }) :: (sc, instObj 324 dsc) :: (dsc, dictOf es1 n1) :: (de, instObj 247 dde) :: (dde, dictOf es2 n2) :: (sl, listOf vs.toArray n3) :: (sg, instObj 184 ds) :: (ds, dictOf es3 n4) :: news) → AllLt r news → Q (.ref r) { s with heap := h', toks := tk' }) :
  wpAny (model PySem.Challenge.rw_pq0461_01.row.prog w) (ktrTop dp un gd cn cs L a ccd cl outer) (call (.ref 118) [.ref sc, .ref e, .none]) Q E s := by
  revert X; k_fill; intro X
  refine wpAny_call ?_
  k_dflt walk_at "mine enter"
  k_steps
  (rename _ ∧ _ ∧ _ ∧ _ ∧ _ ∧ _ ∧ _ ∧ _ ∧ AllLt _ news => hlt)
  exact hret _ _ _ _ (by assumption) (by assumption) hlt.2.2.2.2.2.2.2.2
theorem read_word {w : World} {mean : ExcName → Option Value} {mg mb : Str → Option Value} {news : List (Addr × Obj)} {e sc dsc de dde sl sg ds : Addr} {t1 ti : Tok} {i : Int} {es1 es2 es3 : List DictEntry} {n1 n2 n3 n4 : Nat} {vs : List Value} {wd : Int} {tw : Tok} {wo w0 : Addr}
  {dp un : Nat} {gd : Option (List Code)} {cn : Str} {cs : Scope} {a : Addr} {ccd : Value} {cl : List (Str × Addr)} {outer : List Env} {A₀ : Around} {base h₀ : Heap} {L : Addr} {m : Str → Option Value} {s : Shared} {Q E : Value → Shared → Prop}
  (B : Below A₀ base outer h₀) (F : Fr h₀ L s.heap m) (X : (hp w.params).In h₀) (N : News h₀ L s.heap ((e, { cls := .type "tuple", data := .seq #[.str (Str.ofString "sig") t1, .int i ti] }) :: (wo, { cls := .type "tuple", data := .seq #[.ref w0, .bool true] }) :: (sc, instObj 324 dsc) :: (dsc, dictOf es1 n1) :: (de, instObj 247 dde) :: (dde, dictOf es2 n2) :: (sl, listOf vs.toArray n3) :: (sg, instObj 184 ds) :: (ds, dictOf es3 n4) :: news)) (T : Top vw (looseW vw [Str.ofString "GateloomError", Str.ofString "vec"]) mean mg mb h₀) (hk : cs.kind = .function)
  (g1 : getL (Str.ofString "design") es1 = some (some (.ref de))) (g2 : getL (Str.ofString "signals") es2 = some (some (.ref sl))) (f_width : getL (Str.ofString "width") es3 = some (some (.int wd tw)))
  (i0 : 0 ≤ i) (i1 : i < 8) (gi : vs[i.toNat]? = some (.ref sg))
  (hdp : dp + 5 < recursionLimit) (hun : un + 200 < cLine)
  (hret : ∀ r t3 h' tk', Fr h₀ L h' m → News h₀ L h' ((r, { cls := .type "tuple", data := .seq #[.str (Str.ofString "word") t3, .int wd tw, .int i ti, .ref w0, .bool true] }) :: (e, { cls := .type "tuple", data := .seq #[.str (Str.ofString "sig") t1, .int i ti] }) :: (wo, { cls := .type "tuple", data := .seq #[.ref w0, .bool true] }) :: (sc, instObj 324 dsc) :: (dsc, dictOf es1 n1) :: (de, instObj 247 dde) :: (dde, dictOf es2 n2) :: (sl, listOf vs.toArray n3) :: (sg, instObj 184 ds) :: (ds, dictOf es3 n4) :: news) → AllLt r news → Q (.ref r) { s with heap := h', toks := tk' }) :
  wpAny (model PySem.Challenge.rw_pq0461_01.row.prog w) (ktrTop dp un gd cn cs L a ccd cl outer) (call (.ref 118) [.ref sc, .ref e, .ref wo]) Q E s := by
  revert X; k_fill; intro X
  refine wpAny_call ?_
  k_dflt walk_at "mine enter"
  k_steps
  (rename _ ∧ _ ∧ _ ∧ _ ∧ _ ∧ _ ∧ _ ∧ _ ∧ _ ∧ AllLt _ news => hlt)
  exact hret _ _ _ _ (by assumption) (by assumption) hlt.2.2.2.2.2.2.2.2.2
end
theorem gen_mask (v : Int) : Builtin.bitAnd v (1 * 2 ^ Int.toNat 32 - 1) = v.fmod (2 ^ 32) := by
  rw [Int.one_mul, kbt_maskF]; rfl
theorem mem_loc4 {w : World} {mean : ExcName → Option Value} {mg mb : Str → Option Value} {news : List (Addr × Obj)} {e sc pv : Addr} {t1 t2 t3 tw ta tb tm tl : Tok} {x wd av bv ms ls nv at8 : Int} {sd : Bool} {at9 : Tok}
  {dp un : Nat} {gd : Option (List Code)} {cn : Str} {cs : Scope} {a : Addr} {ccd : Value} {cl : List (Str × Addr)} {outer : List Env} {A₀ : Around} {base h₀ : Heap} {L : Addr} {m : Str → Option Value} {s : Shared} {Q E : Value → Shared → Prop}
  (B : Below A₀ base outer h₀) (F : Fr h₀ L s.heap m) (X : (hp w.params).In h₀) (N : News h₀ L s.heap ((e, { cls := .type "tuple", data := .seq #[.str (Str.ofString "local") t1, .int x t2, .int wd tw, .bool sd] }) :: news)) (T : Top vw (looseW vw [Str.ofString "GateloomError", Str.ofString "vec"]) mean mg mb h₀) (hk : cs.kind = .function)
  (hdp : dp + 5 < recursionLimit) (hun : un + 200 < cLine)
  (hret : ∀ h' tk', Fr h₀ L h' m → News h₀ L h' ((e, { cls := .type "tuple", data := .seq #[.str (Str.ofString "local") t1, .int x t2, .int wd tw, .bool sd] }) :: news) → Q (.bool false) { s with heap := h', toks := tk' }) :
  wpAny (model PySem.Challenge.rw_pq0461_01.row.prog w) (ktrTop dp un gd cn cs L a ccd cl outer) (call (.ref 104) [.ref sc, .ref e]) Q E s := by
  revert X; k_fill; intro X
  refine wpAny_call ?_
  k_dflt walk_at "mine enter"
  k_steps
  exact (show (Str.ofString "local" == Str.ofString "sig") = false by decide +kernel) ▸ hret _ _ (by assumption) (by assumption)
theorem shape_loc4 {w : World} {mean : ExcName → Option Value} {mg mb : Str → Option Value} {news : List (Addr × Obj)} {e sc pv : Addr} {t1 t2 t3 tw ta tb tm tl : Tok} {x wd av bv ms ls nv at8 : Int} {sd : Bool} {at9 : Tok}
  {dp un : Nat} {gd : Option (List Code)} {cn : Str} {cs : Scope} {a : Addr} {ccd : Value} {cl : List (Str × Addr)} {outer : List Env} {A₀ : Around} {base h₀ : Heap} {L : Addr} {m : Str → Option Value} {s : Shared} {Q E : Value → Shared → Prop}
  (B : Below A₀ base outer h₀) (F : Fr h₀ L s.heap m) (X : (hp w.params).In h₀) (N : News h₀ L s.heap ((e, { cls := .type "tuple", data := .seq #[.str (Str.ofString "local") t1, .int x t2, .int wd tw, .bool sd] }) :: news)) (T : Top vw (looseW vw [Str.ofString "GateloomError", Str.ofString "vec"]) mean mg mb h₀) (hk : cs.kind = .function)
  (hdp : dp + 5 < recursionLimit) (hun : un + 200 < cLine)
  (hret : ∀ r t7 t8 h' tk', Fr h₀ L h' m → News h₀ L h' ((r, { cls := .type "tuple", data := .seq #[.int wd tw, .bool sd, .int (wd - 1) t7, .int 0 t8, .bool false] }) :: (e, { cls := .type "tuple", data := .seq #[.str (Str.ofString "local") t1, .int x t2, .int wd tw, .bool sd] }) :: news) → AllLt r news → Q (.ref r) { s with heap := h', toks := tk' }) :
  wpAny (model PySem.Challenge.rw_pq0461_01.row.prog w) (ktrTop dp un gd cn cs L a ccd cl outer) (call (.ref 111) [.ref sc, .ref e, .int at8 at9]) Q E s := by
  revert X; k_fill; intro X
  refine wpAny_call ?_
  k_dflt walk_at "mine enter"
  k_steps
  (rename _ ∧ AllLt _ news => hlt)
  exact hret _ _ _ _ _ (by assumption) (by assumption) hlt.2
theorem read_loc4 {w : World} {mean : ExcName → Option Value} {mg mb : Str → Option Value} {news : List (Addr × Obj)} {e sc pv : Addr} {t1 t2 t3 tw ta tb tm tl : Tok} {x wd av bv ms ls nv at8 : Int} {sd : Bool} {at9 : Tok}
  {dp un : Nat} {gd : Option (List Code)} {cn : Str} {cs : Scope} {a : Addr} {ccd : Value} {cl : List (Str × Addr)} {outer : List Env} {A₀ : Around} {base h₀ : Heap} {L : Addr} {m : Str → Option Value} {s : Shared} {Q E : Value → Shared → Prop}
  (B : Below A₀ base outer h₀) (F : Fr h₀ L s.heap m) (X : (hp w.params).In h₀) (N : News h₀ L s.heap ((e, { cls := .type "tuple", data := .seq #[.str (Str.ofString "local") t1, .int x t2, .int wd tw, .bool sd] }) :: news)) (T : Top vw (looseW vw [Str.ofString "GateloomError", Str.ofString "vec"]) mean mg mb h₀) (hk : cs.kind = .function)
  (hdp : dp + 5 < recursionLimit) (hun : un + 200 < cLine)
  (hret : ∀ r t6 h' tk', Fr h₀ L h' m → News h₀ L h' ((r, { cls := .type "tuple", data := .seq #[.str (Str.ofString "local") t6, .int wd tw, .int x t2] }) :: (e, { cls := .type "tuple", data := .seq #[.str (Str.ofString "local") t1, .int x t2, .int wd tw, .bool sd] }) :: news) → AllLt r news → Q (.ref r) { s with heap := h', toks := tk' }) :
  wpAny (model PySem.Challenge.rw_pq0461_01.row.prog w) (ktrTop dp un gd cn cs L a ccd cl outer) (call (.ref 118) [.ref sc, .ref e, .none]) Q E s := by
  revert X; k_fill; intro X
  refine wpAny_call ?_
  k_dflt walk_at "mine enter"
  k_steps
  (rename _ ∧ AllLt _ news => hlt)
  exact hret _ _ _ _ (by assumption) (by assumption) hlt.2
theorem mem_loc6 {w : World} {mean : ExcName → Option Value} {mg mb : Str → Option Value} {news : List (Addr × Obj)} {e sc pv : Addr} {t1 t2 t3 tw ta tb tm tl : Tok} {x wd av bv ms ls nv at8 : Int} {sd : Bool} {at9 : Tok}
  {dp un : Nat} {gd : Option (List Code)} {cn : Str} {cs : Scope} {a : Addr} {ccd : Value} {cl : List (Str × Addr)} {outer : List Env} {A₀ : Around} {base h₀ : Heap} {L : Addr} {m : Str → Option Value} {s : Shared} {Q E : Value → Shared → Prop}
  (B : Below A₀ base outer h₀) (F : Fr h₀ L s.heap m) (X : (hp w.params).In h₀) (N : News h₀ L s.heap ((e, { cls := .type "tuple", data := .seq #[.str (Str.ofString "local") t1, .int x t2, .int wd tw, .bool sd, .int ms tm, .int ls tl] }) :: news)) (T : Top vw (looseW vw [Str.ofString "GateloomError", Str.ofString "vec"]) mean mg mb h₀) (hk : cs.kind = .function)
  (hdp : dp + 5 < recursionLimit) (hun : un + 200 < cLine)
  (hret : ∀ h' tk', Fr h₀ L h' m → News h₀ L h' ((e, { cls := .type "tuple", data := .seq #[.str (Str.ofString "local") t1, .int x t2, .int wd tw, .bool sd, .int ms tm, .int ls tl] }) :: news) → Q (.bool false) { s with heap := h', toks := tk' }) :
  wpAny (model PySem.Challenge.rw_pq0461_01.row.prog w) (ktrTop dp un gd cn cs L a ccd cl outer) (call (.ref 104) [.ref sc, .ref e]) Q E s := by
  revert X; k_fill; intro X
  refine wpAny_call ?_
  k_dflt walk_at "mine enter"
  k_steps
  exact (show (Str.ofString "local" == Str.ofString "sig") = false by decide +kernel) ▸ hret _ _ (by assumption) (by assumption)
theorem shape_loc6 {w : World} {mean : ExcName → Option Value} {mg mb : Str → Option Value} {news : List (Addr × Obj)} {e sc pv : Addr} {t1 t2 t3 tw ta tb tm tl : Tok} {x wd av bv ms ls nv at8 : Int} {sd : Bool} {at9 : Tok}
  {dp un : Nat} {gd : Option (List Code)} {cn : Str} {cs : Scope} {a : Addr} {ccd : Value} {cl : List (Str × Addr)} {outer : List Env} {A₀ : Around} {base h₀ : Heap} {L : Addr} {m : Str → Option Value} {s : Shared} {Q E : Value → Shared → Prop}
  (B : Below A₀ base outer h₀) (F : Fr h₀ L s.heap m) (X : (hp w.params).In h₀) (N : News h₀ L s.heap ((e, { cls := .type "tuple", data := .seq #[.str (Str.ofString "local") t1, .int x t2, .int wd tw, .bool sd, .int ms tm, .int ls tl] }) :: news)) (T : Top vw (looseW vw [Str.ofString "GateloomError", Str.ofString "vec"]) mean mg mb h₀) (hk : cs.kind = .function)
  (hdp : dp + 5 < recursionLimit) (hun : un + 200 < cLine)
  (hret : ∀ r h' tk', Fr h₀ L h' m → News h₀ L h' ((r, { cls := .type "tuple", data := .seq #[.int wd tw, .bool sd, .int ms tm, .int ls tl, .bool false] }) :: (e, { cls := .type "tuple", data := .seq #[.str (Str.ofString "local") t1, .int x t2, .int wd tw, .bool sd, .int ms tm, .int ls tl] }) :: news) → AllLt r news → Q (.ref r) { s with heap := h', toks := tk' }) :
  wpAny (model PySem.Challenge.rw_pq0461_01.row.prog w) (ktrTop dp un gd cn cs L a ccd cl outer) (call (.ref 111) [.ref sc, .ref e, .int at8 at9]) Q E s := by
  revert X; k_fill; intro X
  refine wpAny_call ?_
  k_dflt walk_at "mine enter"
  k_steps
  (rename _ ∧ AllLt _ news => hlt)
  exact hret _ _ _ (by assumption) (by assumption) hlt.2
theorem read_loc6 {w : World} {mean : ExcName → Option Value} {mg mb : Str → Option Value} {news : List (Addr × Obj)} {e sc pv : Addr} {t1 t2 t3 tw ta tb tm tl : Tok} {x wd av bv ms ls nv at8 : Int} {sd : Bool} {at9 : Tok}
  {dp un : Nat} {gd : Option (List Code)} {cn : Str} {cs : Scope} {a : Addr} {ccd : Value} {cl : List (Str × Addr)} {outer : List Env} {A₀ : Around} {base h₀ : Heap} {L : Addr} {m : Str → Option Value} {s : Shared} {Q E : Value → Shared → Prop}
  (B : Below A₀ base outer h₀) (F : Fr h₀ L s.heap m) (X : (hp w.params).In h₀) (N : News h₀ L s.heap ((e, { cls := .type "tuple", data := .seq #[.str (Str.ofString "local") t1, .int x t2, .int wd tw, .bool sd, .int ms tm, .int ls tl] }) :: news)) (T : Top vw (looseW vw [Str.ofString "GateloomError", Str.ofString "vec"]) mean mg mb h₀) (hk : cs.kind = .function)
  (hdp : dp + 5 < recursionLimit) (hun : un + 200 < cLine)
  (hret : ∀ r t6 h' tk', Fr h₀ L h' m → News h₀ L h' ((r, { cls := .type "tuple", data := .seq #[.str (Str.ofString "local") t6, .int wd tw, .int x t2] }) :: (e, { cls := .type "tuple", data := .seq #[.str (Str.ofString "local") t1, .int x t2, .int wd tw, .bool sd, .int ms tm, .int ls tl] }) :: news) → AllLt r news → Q (.ref r) { s with heap := h', toks := tk' }) :
  wpAny (model PySem.Challenge.rw_pq0461_01.row.prog w) (ktrTop dp un gd cn cs L a ccd cl outer) (call (.ref 118) [.ref sc, .ref e, .none]) Q E s := by
  revert X; k_fill; intro X
  refine wpAny_call ?_
  k_dflt walk_at "mine enter"
  k_steps
  (rename _ ∧ AllLt _ news => hlt)
  exact hret _ _ _ _ (by assumption) (by assumption) hlt.2
theorem mem_par {w : World} {mean : ExcName → Option Value} {mg mb : Str → Option Value} {news : List (Addr × Obj)} {e sc pv : Addr} {t1 t2 t3 tw ta tb tm tl : Tok} {x wd av bv ms ls nv at8 : Int} {sd : Bool} {at9 : Tok}
  {dp un : Nat} {gd : Option (List Code)} {cn : Str} {cs : Scope} {a : Addr} {ccd : Value} {cl : List (Str × Addr)} {outer : List Env} {A₀ : Around} {base h₀ : Heap} {L : Addr} {m : Str → Option Value} {s : Shared} {Q E : Value → Shared → Prop}
  (B : Below A₀ base outer h₀) (F : Fr h₀ L s.heap m) (X : (hp w.params).In h₀) (N : News h₀ L s.heap ((e, { cls := .type "tuple", data := .seq #[.str (Str.ofString "param") t1, .ref pv, .bool sd] }) :: (pv, { cls := .type "tuple", data := .seq #[.int wd tw, .int av ta, .int bv tb] }) :: news)) (T : Top vw (looseW vw [Str.ofString "GateloomError", Str.ofString "vec"]) mean mg mb h₀) (hk : cs.kind = .function)
  (hdp : dp + 5 < recursionLimit) (hun : un + 200 < cLine)
  (hret : ∀ h' tk', Fr h₀ L h' m → News h₀ L h' ((e, { cls := .type "tuple", data := .seq #[.str (Str.ofString "param") t1, .ref pv, .bool sd] }) :: (pv, { cls := .type "tuple", data := .seq #[.int wd tw, .int av ta, .int bv tb] }) :: news) → Q (.bool false) { s with heap := h', toks := tk' }) :
  wpAny (model PySem.Challenge.rw_pq0461_01.row.prog w) (ktrTop dp un gd cn cs L a ccd cl outer) (call (.ref 104) [.ref sc, .ref e]) Q E s := by
  revert X; k_fill; intro X
  refine wpAny_call ?_
  k_dflt walk_at "mine enter"
  k_steps
  exact (show (Str.ofString "param" == Str.ofString "sig") = false by decide +kernel) ▸ hret _ _ (by assumption) (by assumption)
theorem shape_par {w : World} {mean : ExcName → Option Value} {mg mb : Str → Option Value} {news : List (Addr × Obj)} {e sc pv : Addr} {t1 t2 t3 tw ta tb tm tl : Tok} {x wd av bv ms ls nv at8 : Int} {sd : Bool} {at9 : Tok}
  {dp un : Nat} {gd : Option (List Code)} {cn : Str} {cs : Scope} {a : Addr} {ccd : Value} {cl : List (Str × Addr)} {outer : List Env} {A₀ : Around} {base h₀ : Heap} {L : Addr} {m : Str → Option Value} {s : Shared} {Q E : Value → Shared → Prop}
  (B : Below A₀ base outer h₀) (F : Fr h₀ L s.heap m) (X : (hp w.params).In h₀) (N : News h₀ L s.heap ((e, { cls := .type "tuple", data := .seq #[.str (Str.ofString "param") t1, .ref pv, .bool sd] }) :: (pv, { cls := .type "tuple", data := .seq #[.int wd tw, .int av ta, .int bv tb] }) :: news)) (T : Top vw (looseW vw [Str.ofString "GateloomError", Str.ofString "vec"]) mean mg mb h₀) (hk : cs.kind = .function)
  (hdp : dp + 5 < recursionLimit) (hun : un + 200 < cLine)
  (hret : ∀ r t7 t8 h' tk', Fr h₀ L h' m → News h₀ L h' ((r, { cls := .type "tuple", data := .seq #[.int wd tw, .bool sd, .int (wd - 1) t7, .int 0 t8, .bool false] }) :: (e, { cls := .type "tuple", data := .seq #[.str (Str.ofString "param") t1, .ref pv, .bool sd] }) :: (pv, { cls := .type "tuple", data := .seq #[.int wd tw, .int av ta, .int bv tb] }) :: news) → AllLt r news → Q (.ref r) { s with heap := h', toks := tk' }) :
  wpAny (model PySem.Challenge.rw_pq0461_01.row.prog w) (ktrTop dp un gd cn cs L a ccd cl outer) (call (.ref 111) [.ref sc, .ref e, .int at8 at9]) Q E s := by
  revert X; k_fill; intro X
  refine wpAny_call ?_
  k_dflt walk_at "mine enter"
  k_steps
  (rename _ ∧ _ ∧ AllLt _ news => hlt)
  exact hret _ _ _ _ _ (by assumption) (by assumption) hlt.2.2
theorem read_par {w : World} {mean : ExcName → Option Value} {mg mb : Str → Option Value} {news : List (Addr × Obj)} {e sc pv : Addr} {t1 t2 t3 tw ta tb tm tl : Tok} {x wd av bv ms ls nv at8 : Int} {sd : Bool} {at9 : Tok}
  {dp un : Nat} {gd : Option (List Code)} {cn : Str} {cs : Scope} {a : Addr} {ccd : Value} {cl : List (Str × Addr)} {outer : List Env} {A₀ : Around} {base h₀ : Heap} {L : Addr} {m : Str → Option Value} {s : Shared} {Q E : Value → Shared → Prop}
  (B : Below A₀ base outer h₀) (F : Fr h₀ L s.heap m) (X : (hp w.params).In h₀) (N : News h₀ L s.heap ((e, { cls := .type "tuple", data := .seq #[.str (Str.ofString "param") t1, .ref pv, .bool sd] }) :: (pv, { cls := .type "tuple", data := .seq #[.int wd tw, .int av ta, .int bv tb] }) :: news)) (T : Top vw (looseW vw [Str.ofString "GateloomError", Str.ofString "vec"]) mean mg mb h₀) (hk : cs.kind = .function)
  (hdp : dp + 5 < recursionLimit) (hun : un + 200 < cLine)
  (hret : ∀ r t6 h' tk', Fr h₀ L h' m → News h₀ L h' ((r, { cls := .type "tuple", data := .seq #[.str (Str.ofString "const") t6, .int wd tw, .int av ta, .int bv tb] }) :: (e, { cls := .type "tuple", data := .seq #[.str (Str.ofString "param") t1, .ref pv, .bool sd] }) :: (pv, { cls := .type "tuple", data := .seq #[.int wd tw, .int av ta, .int bv tb] }) :: news) → AllLt r news → Q (.ref r) { s with heap := h', toks := tk' }) :
  wpAny (model PySem.Challenge.rw_pq0461_01.row.prog w) (ktrTop dp un gd cn cs L a ccd cl outer) (call (.ref 118) [.ref sc, .ref e, .none]) Q E s := by
  revert X; k_fill; intro X
  refine wpAny_call ?_
  k_dflt walk_at "mine enter"
  k_steps
  (rename News h₀ _ _ _ => hN)
  (rename _ ∧ _ ∧ _ ∧ AllLt _ news => hlt)
  exact hret _ _ _ _ (by assumption) (cb_drop hN (List.forall_mem_cons.mpr ⟨.head _, fun p hp => .tail _ (.tail _ (hp))⟩)) hlt.2.2.2
theorem mem_gen {w : World} {mean : ExcName → Option Value} {mg mb : Str → Option Value} {news : List (Addr × Obj)} {e sc pv : Addr} {t1 t2 t3 tw ta tb tm tl : Tok} {x wd av bv ms ls nv at8 : Int} {sd : Bool} {at9 : Tok}
  {dp un : Nat} {gd : Option (List Code)} {cn : Str} {cs : Scope} {a : Addr} {ccd : Value} {cl : List (Str × Addr)} {outer : List Env} {A₀ : Around} {base h₀ : Heap} {L : Addr} {m : Str → Option Value} {s : Shared} {Q E : Value → Shared → Prop}
  (B : Below A₀ base outer h₀) (F : Fr h₀ L s.heap m) (X : (hp w.params).In h₀) (N : News h₀ L s.heap ((e, { cls := .type "tuple", data := .seq #[.str (Str.ofString "genvar") t1, .int nv t2] }) :: news)) (T : Top vw (looseW vw [Str.ofString "GateloomError", Str.ofString "vec"]) mean mg mb h₀) (hk : cs.kind = .function)
  (hdp : dp + 5 < recursionLimit) (hun : un + 200 < cLine)
  (hret : ∀ h' tk', Fr h₀ L h' m → News h₀ L h' ((e, { cls := .type "tuple", data := .seq #[.str (Str.ofString "genvar") t1, .int nv t2] }) :: news) → Q (.bool false) { s with heap := h', toks := tk' }) :
  wpAny (model PySem.Challenge.rw_pq0461_01.row.prog w) (ktrTop dp un gd cn cs L a ccd cl outer) (call (.ref 104) [.ref sc, .ref e]) Q E s := by
  revert X; k_fill; intro X
  refine wpAny_call ?_
  k_dflt walk_at "mine enter"
  k_steps
  exact (show (Str.ofString "genvar" == Str.ofString "sig") = false by decide +kernel) ▸ hret _ _ (by assumption) (by assumption)
theorem shape_gen {w : World} {mean : ExcName → Option Value} {mg mb : Str → Option Value} {news : List (Addr × Obj)} {e sc pv : Addr} {t1 t2 t3 tw ta tb tm tl : Tok} {x wd av bv ms ls nv at8 : Int} {sd : Bool} {at9 : Tok}
  {dp un : Nat} {gd : Option (List Code)} {cn : Str} {cs : Scope} {a : Addr} {ccd : Value} {cl : List (Str × Addr)} {outer : List Env} {A₀ : Around} {base h₀ : Heap} {L : Addr} {m : Str → Option Value} {s : Shared} {Q E : Value → Shared → Prop}
  (B : Below A₀ base outer h₀) (F : Fr h₀ L s.heap m) (X : (hp w.params).In h₀) (N : News h₀ L s.heap ((e, { cls := .type "tuple", data := .seq #[.str (Str.ofString "genvar") t1, .int nv t2] }) :: news)) (T : Top vw (looseW vw [Str.ofString "GateloomError", Str.ofString "vec"]) mean mg mb h₀) (hk : cs.kind = .function)
  (hdp : dp + 5 < recursionLimit) (hun : un + 200 < cLine)
  (hret : ∀ r t6 t7 t8 h' tk', Fr h₀ L h' m → News h₀ L h' ((r, { cls := .type "tuple", data := .seq #[.int 32 t6, .bool true, .int 31 t7, .int 0 t8, .bool false] }) :: (e, { cls := .type "tuple", data := .seq #[.str (Str.ofString "genvar") t1, .int nv t2] }) :: news) → AllLt r news → Q (.ref r) { s with heap := h', toks := tk' }) :
  wpAny (model PySem.Challenge.rw_pq0461_01.row.prog w) (ktrTop dp un gd cn cs L a ccd cl outer) (call (.ref 111) [.ref sc, .ref e, .int at8 at9]) Q E s := by
  revert X; k_fill; intro X
  refine wpAny_call ?_
  k_dflt walk_at "mine enter"
  k_steps
  (rename _ ∧ AllLt _ news => hlt)
  exact hret _ _ _ _ _ _ (by assumption) (by assumption) hlt.2
theorem read_gen {w : World} {mean : ExcName → Option Value} {mg mb : Str → Option Value} {news : List (Addr × Obj)} {e sc pv : Addr} {t1 t2 t3 tw ta tb tm tl : Tok} {x wd av bv ms ls nv at8 : Int} {sd : Bool} {at9 : Tok}
  {dp un : Nat} {gd : Option (List Code)} {cn : Str} {cs : Scope} {a : Addr} {ccd : Value} {cl : List (Str × Addr)} {outer : List Env} {A₀ : Around} {base h₀ : Heap} {L : Addr} {m : Str → Option Value} {s : Shared} {Q E : Value → Shared → Prop}
  (B : Below A₀ base outer h₀) (F : Fr h₀ L s.heap m) (X : (hp w.params).In h₀) (N : News h₀ L s.heap ((e, { cls := .type "tuple", data := .seq #[.str (Str.ofString "genvar") t1, .int nv t2] }) :: news)) (T : Top vw (looseW vw [Str.ofString "GateloomError", Str.ofString "vec"]) mean mg mb h₀) (hk : cs.kind = .function)
  (hdp : dp + 5 < recursionLimit) (hun : un + 200 < cLine)
  (hret : ∀ r t6 t7 t8 t9 h' tk', Fr h₀ L h' m → News h₀ L h' ((r, { cls := .type "tuple", data := .seq #[.str (Str.ofString "const") t6, .int 32 t7, .int (nv.fmod (2 ^ 32)) t8, .int 0 t9] }) :: (e, { cls := .type "tuple", data := .seq #[.str (Str.ofString "genvar") t1, .int nv t2] }) :: news) → AllLt r news → Q (.ref r) { s with heap := h', toks := tk' }) :
  wpAny (model PySem.Challenge.rw_pq0461_01.row.prog w) (ktrTop dp un gd cn cs L a ccd cl outer) (call (.ref 118) [.ref sc, .ref e, .none]) Q E s := by
  revert X; k_fill; intro X
  refine wpAny_call ?_
  k_dflt walk_at "mine enter"
  k_steps
  (rename News h₀ _ _ _ => hN)
  rw [gen_mask] at hN
  (rename _ ∧ _ ∧ _ ∧ AllLt _ news => hlt)
  exact hret _ _ _ _ _ _ _ (by assumption) (cb_drop hN (List.forall_mem_cons.mpr ⟨.head _, fun p hp => .tail _ (.tail _ (.tail _ (hp)))⟩)) hlt.2.2.2
theorem design_end {w : World} {Q : Value → Shared → Prop} {s : Shared} {h₀ h' : Heap} {L : Addr} {m : Str → Option Value} {news led : List (Addr × Obj)} {tk' : Nat} {de dde sl sp bp : Addr} {es : List DictEntry} {n : Nat} {ob : Obj}
  (hret : ∀ de dde es n sl sp bp ob h' tk', Fr h₀ L h' m → News h₀ L h' ((de, instObj 247 dde) :: (dde, dictOf es n) :: (sl, listOf #[] 0) :: (sp, listOf #[] 0) :: (bp, ob) :: news) →
    getL (Str.ofString "signals") es = some (some (.ref sl)) → getL (Str.ofString "scopes") es = some (some (.ref sp)) → getL (Str.ofString "by_path") es = some (some (.ref bp)) → getL (Str.ofString "add_scope") es = some none → getL (Str.ofString "add_signal") es = some none → AllLt dde news → @LT.lt Nat _ dde de → @LT.lt Nat _ de sl → @LT.lt Nat _ sl sp → @LT.lt Nat _ sp bp → Obj.IsDictOf (PySem.strKind PySem.Challenge.rw_pq0461_01.row.prog w) ob [] → Q (.ref de) { s with heap := h', toks := tk' })
  (F : Fr h₀ L h' m) (hN : News h₀ L h' led) (m1 : (de, instObj 247 dde) ∈ led) (m2 : (dde, dictOf es n) ∈ led)
  (f1 : getL (Str.ofString "signals") es = some (some (.ref sl))) (f2 : getL (Str.ofString "scopes") es = some (some (.ref sp))) (f3 : getL (Str.ofString "by_path") es = some (some (.ref bp)))
  (m3 : (sl, listOf #[] 0) ∈ led) (m4 : (sp, listOf #[] 0) ∈ led) (m5 : (bp, ob) ∈ led) (mr : ∀ q ∈ news, q ∈ led) (f4 : getL (Str.ofString "add_scope") es = some none) (f5 : getL (Str.ofString "add_signal") es = some none) (k1 : AllLt dde news) (k2 : @LT.lt Nat _ dde de) (k3 : @LT.lt Nat _ de sl) (k4 : @LT.lt Nat _ sl sp) (k5 : @LT.lt Nat _ sp bp) (k6 : Obj.IsDictOf (PySem.strKind PySem.Challenge.rw_pq0461_01.row.prog w) ob []) : Q (.ref de) { s with heap := h', toks := tk' } :=
  hret de dde es n sl sp bp ob h' tk' F (cb_drop hN (List.forall_mem_cons.mpr ⟨m1, List.forall_mem_cons.mpr ⟨m2, List.forall_mem_cons.mpr ⟨m3, List.forall_mem_cons.mpr ⟨m4, List.forall_mem_cons.mpr ⟨m5, mr⟩⟩⟩⟩⟩)) f1 f2 f3 f4 f5 k1 k2 k3 k4 k5 k6
theorem design_use {w : World} {mean : ExcName → Option Value} {mg mb : Str → Option Value} {news : List (Addr × Obj)}
  {cs : PySem.Scope} {a : Addr} {ccd : Value} {base h₀ : Heap} {L : Addr} {m : Str → Option Value} {s : Shared} {Q E : Value → Shared → Prop}
  (B : Below callerA base [] h₀) (F : Fr h₀ L s.heap m) (X : (hp w.params).In h₀) (N : News h₀ L s.heap news) (T : Top vw (looseW vw [Str.ofString "GateloomError", Str.ofString "vec"]) mean mg mb h₀) (hk : cs.kind = .function)
  (hret : ∀ de dde es n sl sp bp ob h' tk', Fr h₀ L h' m → News h₀ L h' ((de, instObj 247 dde) :: (dde, dictOf es n) :: (sl, listOf #[] 0) :: (sp, listOf #[] 0) :: (bp, ob) :: news) →
    getL (Str.ofString "signals") es = some (some (.ref sl)) → getL (Str.ofString "scopes") es = some (some (.ref sp)) → getL (Str.ofString "by_path") es = some (some (.ref bp)) → getL (Str.ofString "add_scope") es = some none → getL (Str.ofString "add_signal") es = some none → AllLt dde news → @LT.lt Nat _ dde de → @LT.lt Nat _ de sl → @LT.lt Nat _ sl sp → @LT.lt Nat _ sp bp → Obj.IsDictOf (PySem.strKind PySem.Challenge.rw_pq0461_01.row.prog w) ob [] → Q (.ref de) { s with heap := h', toks := tk' }) :
  wpAny (model PySem.Challenge.rw_pq0461_01.row.prog w) (callerA.deeper (envOfC (Str.ofString "law") cs L a ccd)) (call (.ref 247) []) Q E s := by
  revert X; k_fill; intro X
  k_dflt (refine call_cls F X N (by k_is) (by k_is) (by k_is) ?_)
  intro x dx h' F' N' l1 l2
  k_lt2 l2
  replace l1 := allLt_of l1
  have kMark := kstMark
  k_dflt walk_at "mine enter"
  k_steps
  (rename News h₀ _ _ _ => hN)
  exact design_end hret (by assumption) hN (by k_mem) (by k_mem) (by k_get) (by k_get) (by k_get) (by k_mem) (by k_mem) (by k_mem) (by intro q hq; repeat (first | exact hq | apply List.Mem.tail)) (by k_get) (by k_get) (by assumption) (by omega) (by omega) (by omega) (by omega) (by assumption)
theorem scope_end {Q : Value → Shared → Prop} {s : Shared} {h₀ h' : Heap} {L : Addr} {m : Str → Option Value} {news led : List (Addr × Obj)} {tk' : Nat} {de dde sc dsc : Addr} {es es1 : List DictEntry} {n n1 : Nat}
  (hret : ∀ sc dsc es1 n1 h' tk', Fr h₀ L h' m → News h₀ L h' ((sc, instObj 324 dsc) :: (dsc, dictOf es1 n1) :: (de, instObj 247 dde) :: (dde, dictOf es n) :: news) →
    getL (Str.ofString "design") es1 = some (some (.ref de)) → AllLt dsc news → @LT.lt Nat _ dsc sc → Q (.ref sc) { s with heap := h', toks := tk' })
  (F : Fr h₀ L h' m) (hN : News h₀ L h' led) (m1 : (sc, instObj 324 dsc) ∈ led) (m2 : (dsc, dictOf es1 n1) ∈ led) (f1 : getL (Str.ofString "design") es1 = some (some (.ref de)))
  (m3 : (de, instObj 247 dde) ∈ led) (m4 : (dde, dictOf es n) ∈ led) (mr : ∀ q ∈ news, q ∈ led) (k1 : AllLt dsc news) (k2 : @LT.lt Nat _ dsc sc) : Q (.ref sc) { s with heap := h', toks := tk' } :=
  hret sc dsc es1 n1 h' tk' F (cb_drop hN (List.forall_mem_cons.mpr ⟨m1, List.forall_mem_cons.mpr ⟨m2, List.forall_mem_cons.mpr ⟨m3, List.forall_mem_cons.mpr ⟨m4, mr⟩⟩⟩⟩)) f1 k1 k2
theorem scope_use {w : World} {mean : ExcName → Option Value} {mg mb : Str → Option Value} {news : List (Addr × Obj)} {de dde sp : Addr} {es : List DictEntry} {n : Nat} {tn tk : Tok}
  {cs : PySem.Scope} {a : Addr} {ccd : Value} {base h₀ : Heap} {L : Addr} {m : Str → Option Value} {s : Shared} {Q E : Value → Shared → Prop}
  (B : Below callerA base [] h₀) (F : Fr h₀ L s.heap m) (X : (hp w.params).In h₀) (N : News h₀ L s.heap ((sp, listOf #[] 0) :: (de, instObj 247 dde) :: (dde, dictOf es n) :: news)) (T : Top vw (looseW vw [Str.ofString "GateloomError", Str.ofString "vec"]) mean mg mb h₀) (hk : cs.kind = .function)
  (g1 : getL (Str.ofString "scopes") es = some (some (.ref sp))) (g2 : getL (Str.ofString "add_scope") es = some none) (hoff : OwnOff news [sp]) (n1 : @Ne Nat de sp) (n2 : @Ne Nat dde sp)
  (hret : ∀ sc dsc es1 n1 h' tk', Fr h₀ L h' m → News h₀ L h' ((sc, instObj 324 dsc) :: (dsc, dictOf es1 n1) :: (de, instObj 247 dde) :: (dde, dictOf es n) :: news) →
    getL (Str.ofString "design") es1 = some (some (.ref de)) → AllLt dsc news → @LT.lt Nat _ dsc sc → Q (.ref sc) { s with heap := h', toks := tk' }) :
  wpAny (model PySem.Challenge.rw_pq0461_01.row.prog w) (callerA.deeper (envOfC (Str.ofString "law") cs L a ccd)) (call (.ref 324) [.ref de, .str (Str.ofString "top") tn, .none, .str (Str.ofString "module") tk]) Q E s := by
  revert X; k_fill; intro X
  k_dflt (refine call_cls F X N (by k_is) (by k_is) (by k_is) ?_)
  intro x dx h' F' N' l1 l2
  have l3 := (allLt_of l1).2.2.2
  k_lt2 l2
  k_lt l1
  have kMark := kstMark
  k_dflt walk_at "mine enter"
  k_steps
  (rename News h₀ _ _ _ => hN)
  exact scope_end hret (by assumption) hN (by k_mem) (by k_mem) (by k_get) (by k_mem) (by k_mem) (by intro q hq; repeat (first | exact hq | apply List.Mem.tail)) l3 l2
theorem find_putL {nm x : Str} (hn : nm ≠ x) (hsh : Int) (tk : Tok) (v : Value) (isS : ∀ (u : Value), u.isStr nm = true → u.isStr x = false) : ∀ es : List DictEntry, (putL nm hsh (.str nm tk) v es).find? (·.key.isStr x) = es.find? (·.key.isStr x) ∧ (putL nm hsh (.str nm tk) v es).any (·.refKey) = es.any (·.refKey)
  | [] => by
    have h1 : (Value.str nm tk).isStr x = false := isS _ (by simp [Value.isStr])
    refine ⟨?_, rfl⟩
    unfold putL
    rw [List.find?_cons, h1]
  | e :: r => by
    obtain ⟨a, b⟩ := find_putL hn hsh tk v isS r
    unfold putL
    cases h : e.key.isStr nm with
    | true =>
      have h1 := isS _ h
      rw [if_pos rfl]
      refine ⟨?_, rfl⟩
      rw [List.find?_cons, List.find?_cons, h1]
    | false =>
      rw [if_neg (by decide)]
      refine ⟨?_, ?_⟩
      · rw [List.find?_cons, List.find?_cons, a]
      · rw [List.any_cons, List.any_cons, b]
theorem isStr_ne {nm x : Str} (hn : nm ≠ x) (u : Value) (h : u.isStr nm = true) : u.isStr x = false := by
  cases u <;> simp_all [Value.isStr]
theorem getL_put_ne {nm x : Str} (hn : nm ≠ x) {hsh : Int} {tk : Tok} {v : Value} {es : List DictEntry} {r : Option (Option Value)} (h : getL x es = r) : getL x (putL nm hsh (.str nm tk) v es) = r := by
  obtain ⟨a, b⟩ := find_putL hn hsh tk v (isStr_ne hn) es
  unfold getL at h ⊢
  rw [a, b]; exact h
theorem getL_put_eq {nm : Str} {hsh : Int} {tk : Tok} {v : Value} : ∀ es : List DictEntry, getL nm (putL nm hsh (.str nm tk) v es) = some (some v)
  | [] => by
    have h1 : (Value.str nm tk).isStr nm = true := by simp [Value.isStr]
    unfold getL putL
    rw [List.find?_cons, h1]
  | e :: r => by
    have ih := getL_put_eq (hsh := hsh) (tk := tk) (v := v) (nm := nm) r
    unfold putL
    cases h : e.key.isStr nm with
    | true =>
      rw [if_pos rfl]
      unfold getL
      rw [List.find?_cons]
      dsimp only
      rw [h]
    | false =>
      rw [if_neg (by decide)]
      unfold getL at ih ⊢
      rw [List.find?_cons, h]
      dsimp only
      cases hf : (putL nm hsh (.str nm tk) v r).find? (·.key.isStr nm) with
      | some y => rw [hf] at ih; exact ih
      | none => rw [hf] at ih; dsimp only at ih; exact absurd ih (by split <;> simp)
theorem putL_len (nm : Str) (hsh : Int) (k v : Value) : ∀ es : List DictEntry, (putL nm hsh k v es).length ≤ es.length + 1
  | [] => Nat.le_refl _
  | e :: r => by
    unfold putL
    split
    · simp
    · have := putL_len nm hsh k v r
      simp only [List.length_cons]; omega
/-- a signal's dict, by what is read of it -/
structure SigD (es : List DictEntry) (ky : Value) (wd : Int) (tw : Tok) (sd : Bool) (ms : Int) (tm : Tok) (ls : Int) (tl : Tok) (fi sc : Value) : Prop where
  len : es.length ≤ 20
  mem : getL (Str.ofString "is_memory") es = some none
  key : getL (Str.ofString "key") es = some (some ky)
  width : getL (Str.ofString "width") es = some (some (.int wd tw))
  signed : getL (Str.ofString "signed") es = some (some (.bool sd))
  msb : getL (Str.ofString "msb") es = some (some (.int ms tm))
  lsb : getL (Str.ofString "lsb") es = some (some (.int ls tl))
  first : getL (Str.ofString "first") es = some (some fi)
  scalar : getL (Str.ofString "scalar") es = some (some sc)
  last : (getL (Str.ofString "last") es).isSome = true
  at_ : (getL (Str.ofString "at") es).isSome = true
theorem some_put {nm x : Str} (hsh : Int) (tk : Tok) (v : Value) {es : List DictEntry} (h : (getL x es).isSome = true) : (getL x (putL nm hsh (.str nm tk) v es)).isSome = true := by
  by_cases q : nm = x
  · subst q; rw [getL_put_eq]; rfl
  · obtain ⟨r, hr⟩ := Option.isSome_iff_exists.mp h
    rw [getL_put_ne q hr]; rfl
theorem getL_put_or {nm x : Str} {hsh : Int} {tk : Tok} {v u : Value} {es : List DictEntry} (h : getL x es = some (some u)) : getL x (putL nm hsh (.str nm tk) v es) = some (some (if nm = x then v else u)) := by
  by_cases q : nm = x
  · subst q; rw [if_pos rfl]; exact getL_put_eq _
  · rw [if_neg q]; exact getL_put_ne q h
/-- one of the names that the law stores behind the making -/
inductive Late : Str → Prop
  | a : Late (Str.ofString "at")
  | l : Late (Str.ofString "last")
  | f : Late (Str.ofString "first")
  | s : Late (Str.ofString "scalar")
theorem SigD.put {es : List DictEntry} {ky : Value} {wd : Int} {tw : Tok} {sd : Bool} {ms : Int} {tm : Tok} {ls : Int} {tl : Tok} {fi sc v : Value} {nm : Str} {hsh : Int} {tk : Tok} (S : SigD es ky wd tw sd ms tm ls tl fi sc) (h : Late nm) (hl : es.length ≤ 19) :
    SigD (putL nm hsh (.str nm tk) v es) ky wd tw sd ms tm ls tl (if nm = Str.ofString "first" then v else fi) (if nm = Str.ofString "scalar" then v else sc) := by
  have n1 : nm ≠ Str.ofString "is_memory" := by cases h <;> decide +kernel
  have n2 : nm ≠ Str.ofString "key" := by cases h <;> decide +kernel
  have n3 : nm ≠ Str.ofString "width" := by cases h <;> decide +kernel
  have n4 : nm ≠ Str.ofString "signed" := by cases h <;> decide +kernel
  have n5 : nm ≠ Str.ofString "msb" := by cases h <;> decide +kernel
  have n6 : nm ≠ Str.ofString "lsb" := by cases h <;> decide +kernel
  exact ⟨Nat.le_trans (putL_len ..) (by omega), getL_put_ne n1 S.mem, getL_put_ne n2 S.key, getL_put_ne n3 S.width, getL_put_ne n4 S.signed, getL_put_ne n5 S.msb, getL_put_ne n6 S.lsb, getL_put_or S.first, getL_put_or S.scalar, some_put _ _ _ S.last, some_put _ _ _ S.at_⟩
theorem sig_sa (P : Params) : findIn (hp P) (.ref 184) "__setattr__" = some (some (.builtin "object.__setattr__")) := by kernel_rfl
theorem sig_po (P : Params) : plainOver (hp P) 184 = true := by kernel_rfl
theorem sig_hd (P : Params) : hasDictIn (hp P) 184 = true := by kernel_rfl
theorem sig_tk (P : Params) {nm : Str} (h : Late nm) : takerIn (hp P) 184 nm = some none := by cases h <;> kernel_rfl
theorem set_sig {w : World} {A : Around} {E : Value → Shared → Prop} {s : Shared} {x d L : Addr} {h₀ : Heap} {m : Str → Option Value} {news : List (Addr × Obj)} {g : Obj → List (Addr × Obj)} {es : List DictEntry} {n : Nat} {ky : Value} {wd : Int} {tw : Tok} {sd : Bool} {ms : Int} {tm : Tok} {ls : Int} {tl : Tok} {fi sc v : Value} {nm : Str} {Q : Unit → Shared → Prop}
    (hn : Late nm) (F : Fr h₀ L s.heap m) (X₀ : (hp w.params).In h₀) (N : News h₀ L s.heap news) (m1 : (x, instObj 184 d) ∈ news) (m2 : (d, dictOf es n) ∈ news) (U : UpdF d (dictOf es n) news g) (S : SigD es ky wd tw sd ms tm ls tl fi sc) (hl : es.length ≤ 19)
    (h : ∀ es' n' h', Fr h₀ L h' m → News h₀ L h' (g (dictOf es' n')) → es'.length ≤ es.length + 1 → SigD es' ky wd tw sd ms tm ls tl (if nm = Str.ofString "first" then v else fi) (if nm = Str.ofString "scalar" then v else sc) → Q () { s with heap := h', toks := s.toks + 2 }) :
    wpAny (model PySem.Challenge.rw_pq0461_01.row.prog w) A (setAttr (.ref x) nm v) Q E s := by
  obtain ⟨pre, post, rfl, hg, a, b⟩ := U.split
  have hs : (getL nm es).isSome = true := by cases hn <;> first | exact S.at_ | exact S.last | (rw [S.first]; rfl) | (rw [S.scalar]; rfl)
  have I : W.InstAt s.heap x (instObj 184 d) 184 (some (dictOf es n)) := ⟨(N _ m1).1, rfl, rfl, (N _ m2).1⟩
  exact set_plain (X₀.keeps F.keep) I (sig_sa _) (osa_dict (s := { s with toks := s.toks + 1 }) F N (X₀.keeps F.keep) I rfl (sig_po _) (sig_tk _ hn) (sig_hd _) hs a b (putName_dict ..) rfl (Nat.le_trans (putL_len ..) (by omega)) fun h' F' N' => h _ _ h' F' (hg _ ▸ N') (putL_len ..) (S.put hn hl))
theorem sig_use {w : World} {mean : ExcName → Option Value} {mg mb : Str → Option Value} {news : List (Addr × Obj)} {pt kd : Str} {tp tk tw tm tl tc : Tok} {ky wd ms ls : Int} {sd : Bool}
  {dp un : Nat} {gd : Option (List Code)} {cn : Str} {cs : PySem.Scope} {a : Addr} {ccd : Value} {cl : List (Str × Addr)} {outer : List Env} {A₀ : Around} {base h₀ : Heap} {L : Addr} {m : Str → Option Value} {s : Shared} {Q E : Value → Shared → Prop}
  (B : Below A₀ base outer h₀) (F : Fr h₀ L s.heap m) (X : (hp w.params).In h₀) (N : News h₀ L s.heap news) (T : Top vw (looseW vw [Str.ofString "GateloomError", Str.ofString "vec"]) mean mg mb h₀) (hk : cs.kind = .function)
  (hdp : dp + 3 < recursionLimit) (hun : un + 60 < cLine)
  (hret : ∀ x d es n h' tk', Fr h₀ L h' m → News h₀ L h' ((x, instObj 184 d) :: (d, dictOf es n) :: news) → AllLt d news → d < x → es.length ≤ 12 → SigD es (.int ky tc) wd tw sd ms tm ls tl .none (.bool false) → Q (.ref x) { s with heap := h', toks := tk' }) :
  wpAny (model PySem.Challenge.rw_pq0461_01.row.prog w) (ktrTop dp un gd cn cs L a ccd cl outer) (call (.ref 184) [.int ky tc, .str pt tp, .str kd tk, .int wd tw, .bool sd, .int ms tm, .int ls tl]) Q E s := by
  revert X; k_fill; intro X
  k_dflt (refine call_cls F X N (by k_is) (by k_is) (by k_is) ?_)
  intro x dx h' F' N' l1 l2
  have l3 := allLt_of l1
  have l4 := ltN l2
  k_lt2 l2
  replace l1 := allLt_of l1
  have kMark := kstMark
  k_dflt walk_at "mine enter"
  k_steps
  (rename News h₀ _ _ ((_, instObj 184 _) :: (_, dictOf _ _) :: _) => hN)
  exact hret _ _ _ _ _ _ (by assumption) hN l3 l4 (Nat.le_of_ble_eq_true rfl) ⟨Nat.le_of_ble_eq_true rfl, by k_get, by k_get, by k_get, by k_get, by k_get, by k_get, by k_get, by k_get, by k_get, by k_get⟩
section
theorem allLt_ne {d : Addr} : ∀ {l : List (Addr × Obj)}, AllLt d l → ∀ p ∈ l, p.1 ≠ d
  | [], _, _, hp => nomatch hp
  | _ :: _, h, p, hp => by
    rcases List.mem_cons.mp hp with rfl | hp
    · exact Nat.ne_of_lt h.1
    · exact allLt_ne h.2 p hp
local macro_rules | `(tactic| walk_at "call ref") => `(tactic| (k_here; (with_reducible show wpAny _ _ (call (Value.ref 184) _) _ _ _); k_dflt (
  refine' Mine.sig_use (by k_asm) (by k_asm) (by k_asm) (by k_asm) (by k_asm) (by first | exact rfl | assumption) (by ktr_room) (by ktr_units) ?_
  intro x9 d9 e9 n9 h9 tk9 F9 N9 l9 j9 z9 S9
  (have y9 := S9.key)
  (have q9 := Mine.allLt_ne l9)
  (have r9 := Nat.ne_of_gt j9)
  (replace j9 := ltN j9)
  (simp only [AllLt] at l9)
  (try dsimp only)
  (try k_fold))))
local macro_rules | `(tactic| walk_at "call builtin:len") => `(tactic| (k_here; (with_reducible show wpAny _ _ (call (Value.builtin "len") [Value.ref _]) _ _ _); k_dflt (refine' len_list (by is_list) (by omega) ?_)))
local macro_rules | `(tactic| walk_at "call builtin:list.append") => `(tactic| (k_here; (with_reducible show wpAny _ _ (call (Value.builtin _) [Value.ref _, _]) _ _ _); k_dflt (refine' append_K (by k_asm) (by k_asm) (by k_upd) ?_ (by (rw [sizeLine_eq]; omega)); k_whole); intro h' F' N'; (try k_sweep)))
local macro_rules | `(tactic| walk_at "setAttr ref") => `(tactic| (k_here; k_dflt (
   (rename Mine.SigD _ _ _ _ _ _ _ _ _ _ _ => S8); (rename List.length _ ≤ 12 => z8);
   refine' Mine.set_sig (by exact Mine.Late.a) (by k_asm) (by k_asm) (by k_asm) (by k_mem) (by k_mem) (by exact UpdF.tail (by assumption) (UpdF.head (by assumption))) S8 (by exact Nat.le_trans z8 (by decide)) ?_; k_whole;
   intro e7 n7 h' F' N' z7 S7; rw [if_neg (by decide +kernel), if_neg (by decide +kernel)] at S7; (replace z7 := Nat.le_trans z7 (Nat.succ_le_succ z8)); (have y7 := S7.key); clear S8 z8; (try dsimp only at N'); (try k_sweep))))
local macro_rules | `(tactic| walk_at "setItem ref str") => `(tactic| (k_here; k_dflt (refine' setItem_K PyProof.V.same_str (strKind_is _ _ _ _) ?v ?F ?N ?U ?d ?f ?_ ?z; (case F => k_asm); (case N => k_asm); (case U => k_updF); (case d => assumption); (case f => assumption); (case z => (rw [sizeLine_eq]; omega)); (case v => k_flat)); intro h' o' F' N' hd' hf'; (try dsimp only at N'); (try k_sweep)))
theorem add_use {w : World} {mean : ExcName → Option Value} {mg mb : Str → Option Value} {news : List (Addr × Obj)} {de dde sl bp : Addr} {es : List DictEntry} {n n3 : Nat} {vs : Array Value} {ob : Obj} {kvs : List (Str × Value)} {D : List (PyData × PyData)} {pt kd : Str} {tp tk tw tm tl ta : Tok} {wd ms ls at9 : Int} {sd : Bool}
  {dp un : Nat} {gd : Option (List Code)} {cn : Str} {cs : PySem.Scope} {a : Addr} {ccd : Value} {cl : List (Str × Addr)} {outer : List Env} {A₀ : Around} {base h₀ : Heap} {L : Addr} {m : Str → Option Value} {s : Shared} {Q E : Value → Shared → Prop}
  (B : Below A₀ base outer h₀) (F : Fr h₀ L s.heap m) (X : (hp w.params).In h₀) (N : News h₀ L s.heap ((sl, listOf vs n3) :: (bp, ob) :: (de, instObj 247 dde) :: (dde, dictOf es n) :: news)) (T : Top vw (looseW vw [Str.ofString "GateloomError", Str.ofString "vec"]) mean mg mb h₀) (hk : cs.kind = .function)
  (g1 : getL (Str.ofString "signals") es = some (some (.ref sl))) (g2 : getL (Str.ofString "by_path") es = some (some (.ref bp))) (hob : Obj.IsDictOf (PySem.strKind PySem.Challenge.rw_pq0461_01.row.prog w) ob kvs) (hfl : PyProof.V.FlatPairs PyData.str kvs D) (hD : D.length ≤ 8) (hv : vs.size ≤ 8)
  (hoff : OwnOff news [sl, bp]) (n1 : @Ne Nat de sl) (n2 : @Ne Nat dde sl) (n3' : @Ne Nat bp sl) (n4 : @Ne Nat de bp) (n5 : @Ne Nat dde bp) (hdp : dp + 5 < recursionLimit) (hun : un + 90 < cLine)
  (hret : ∀ x d es' n' n3' ob' kvs' D' tky h' tk', Fr h₀ L h' m → News h₀ L h' ((x, instObj 184 d) :: (d, dictOf es' n') :: (sl, listOf (vs.push (.ref x)) n3') :: (bp, ob') :: (de, instObj 247 dde) :: (dde, dictOf es n) :: news) → AllLt d ((sl, listOf vs n3) :: (bp, ob) :: (de, instObj 247 dde) :: (dde, dictOf es n) :: news) → d < x →
    Obj.IsDictOf (PySem.strKind PySem.Challenge.rw_pq0461_01.row.prog w) ob' kvs' → PyProof.V.FlatPairs PyData.str kvs' D' → D'.length ≤ D.length + 1 → es'.length ≤ 13 → SigD es' (.int vs.size tky) wd tw sd ms tm ls tl .none (.bool false) → Q (.ref x) { s with heap := h', toks := tk' }) :
  wpAny (model PySem.Challenge.rw_pq0461_01.row.prog w) (ktrTop dp un gd cn cs L a ccd cl outer) (call (.ref 209) [.ref de, .str pt tp, .str kd tk, .int wd tw, .bool sd, .int ms tm, .int ls tl, .int at9 ta]) Q E s := by
  revert X; k_fill; intro X
  have kMark := kstMark
  refine wpAny_call ?_
  k_dflt walk_at "mine enter"
  k_steps
  (rename News h₀ _ _ ((_, instObj 184 _) :: (_, dictOf _ _) :: _) => hN)
  (rename SigD _ _ _ _ _ _ _ _ _ _ _ => hS)
  (rename List.length _ ≤ Nat.succ 12 => hz)
  (rename _ ∧ _ ∧ _ ∧ _ ∧ AllLt _ _ => hl)
  exact hret _ _ _ _ _ _ _ _ _ _ _ (by assumption) hN hl (by assumption) (by assumption) (by assumption) (PyProof.V.putD_length_le _ _ _) hz hS
end
noncomputable abbrev lawE (L a : Addr) (ccd : Value) : Env := envOfC (Str.ofString "law") sL L a ccd
/-- the scope and the design, among the made things -/
structure Dsg (R : List (Addr × Obj)) (sc de sl bp : Addr) : Prop where
  sys : ∃ dsc es1 n1 dde es n, (sc, instObj 324 dsc) ∈ R ∧ (dsc, dictOf es1 n1) ∈ R ∧ (de, instObj 247 dde) ∈ R ∧ (dde, dictOf es n) ∈ R ∧ getL (Str.ofString "design") es1 = some (some (.ref de)) ∧
    getL (Str.ofString "signals") es = some (some (.ref sl)) ∧ getL (Str.ofString "by_path") es = some (some (.ref bp)) ∧ getL (Str.ofString "add_signal") es = some none
  off : OwnOff R [sl, bp]
  ne : @Ne Nat bp sl
noncomputable def ByP (w : World) (ob : Obj) (k : Nat) : Prop := ∃ kvs D, Obj.IsDictOf (PySem.strKind PySem.Challenge.rw_pq0461_01.row.prog w) ob kvs ∧ PyProof.V.FlatPairs PyData.str kvs D ∧ D.length ≤ k
theorem Dsg.more {R R' : List (Addr × Obj)} {sc de sl bp : Addr} (D : Dsg R sc de sl bp) (h : ∀ p ∈ R, p ∈ R') (ho : OwnOff R' [sl, bp]) : Dsg R' sc de sl bp := by
  obtain ⟨⟨dsc, es1, n1, dde, es, n, a, b, c, d, r⟩, o, ne⟩ := D
  exact ⟨⟨dsc, es1, n1, dde, es, n, h _ a, h _ b, h _ c, h _ d, r⟩, ho, ne⟩
theorem Dsg.method {w : World} {A : Around} {E : Value → Shared → Prop} {s : Shared} {h₀ : Heap} {L : Addr} {m : Str → Option Value} {R led : List (Addr × Obj)} {sc de sl bp : Addr} {pl : Sem Bool} {Q : Value × List Value → Shared → Prop} (D : Dsg R sc de sl bp)
    (F : Fr h₀ L s.heap m) (X : (hp w.params).In h₀) (N : News h₀ L s.heap led) (hR : ∀ p ∈ R, p ∈ led) (h : Q (.ref 209, [.ref de]) s) :
    wpAny (model PySem.Challenge.rw_pq0461_01.row.prog w) A (getMethod (.ref de) (Str.ofString "add_signal") pl) Q E s := by
  obtain ⟨⟨dsc, es1, n1, dde, es, n, _, _, c, d, _, _, _, g⟩, _, _⟩ := D
  exact method_inst F X (InstAt.of_news N (hR _ c) (hR _ d)) (by kernel_rfl) (by kernel_rfl) (by kernel_rfl) g h
theorem add_call {w : World} {mean : ExcName → Option Value} {mg mb : Str → Option Value} {R : List (Addr × Obj)} {sc de sl bp : Addr} {n3 k : Nat} {vs : Array Value} {ob : Obj} {pt kd : Str} {tp tk tw tm tl ta : Tok} {wd ms ls at9 : Int} {sd : Bool}
  {dp un : Nat} {gd : Option (List Code)} {cn : Str} {cs : PySem.Scope} {a : Addr} {ccd : Value} {cl : List (Str × Addr)} {outer : List Env} {A₀ : Around} {base h₀ : Heap} {L : Addr} {m : Str → Option Value} {s : Shared} {Q E : Value → Shared → Prop}
  (B : Below A₀ base outer h₀) (F : Fr h₀ L s.heap m) (X : (hp w.params).In h₀) (N : News h₀ L s.heap ((sl, listOf vs n3) :: (bp, ob) :: R)) (T : Top vw (looseW vw [Str.ofString "GateloomError", Str.ofString "vec"]) mean mg mb h₀) (hk : cs.kind = .function)
  (D : Dsg R sc de sl bp) (P : ByP w ob k) (hk8 : k ≤ 8) (hv : vs.size ≤ 8) (hdp : dp + 5 < recursionLimit) (hun : un + 90 < cLine)
  (hret : ∀ x d es' n' n3' ob' tky h' tk', Fr h₀ L h' m → News h₀ L h' ((sl, listOf (vs.push (.ref x)) n3') :: (bp, ob') :: (x, instObj 184 d) :: (d, dictOf es' n') :: R) → Dsg ((x, instObj 184 d) :: (d, dictOf es' n') :: R) sc de sl bp → ByP w ob' (k + 1) →
    @Ne Nat sl d → @Ne Nat bp d → @Ne Nat x d → (∀ p ∈ R, p.1 ≠ d) → es'.length ≤ 13 → SigD es' (.int vs.size tky) wd tw sd ms tm ls tl .none (.bool false) → Q (.ref x) { s with heap := h', toks := tk' }) :
  wpAny (model PySem.Challenge.rw_pq0461_01.row.prog w) (ktrTop dp un gd cn cs L a ccd cl outer) (call (.ref 209) [.ref de, .str pt tp, .str kd tk, .int wd tw, .bool sd, .int ms tm, .int ls tl, .int at9 ta]) Q E s := by
  have D0 := D
  obtain ⟨⟨dsc, es1, n1, dde, es, n, p1, p2, p3, p4, g0, g1, g2, g3⟩, off, ne⟩ := D
  obtain ⟨kvs, DD, i1, i2, i3⟩ := P
  have oe : ∀ q ∈ R, @Ne Nat q.1 sl ∧ @Ne Nat q.1 bp := fun q hq => ⟨off q hq sl (.head _), off q hq bp (.tail _ (.head _))⟩
  refine add_use (news := R) (n3 := n3) (n := n) B F X (cb_drop N fun q hq => ?_) T hk g1 g2 i1 i2 (by omega) hv off (oe _ p3).1 (oe _ p4).1 ne (oe _ p3).2 (oe _ p4).2 hdp hun fun x d es' n' n3' ob' kvs' D' tky h' tk' F' N' l1 l2 j1 j2 j3 z S => ?_
  · simp only [List.mem_cons] at hq ⊢
    rcases hq with h | h | rfl | rfl | h <;> simp_all
  · have lt : ∀ q ∈ (sl, listOf vs n3) :: (bp, ob) :: (de, instObj 247 dde) :: (dde, dictOf es n) :: R, @LT.lt Nat _ q.1 d := allLt_lt l1
    have l2' : @LT.lt Nat _ d x := l2
    have s1 := lt _ (.head _)
    have b1 := lt _ (.tail _ (.head _))
    dsimp only at s1 b1
    refine hret x d es' n' n3' ob' tky h' tk' F' (cb_drop N' fun q hq => ?_) (D0.more (fun p hp => .tail _ (.tail _ hp)) ?_) ⟨kvs', D', j1, j2, by omega⟩ (by omega) (by omega) (by omega) (fun p hp => Nat.ne_of_lt (lt p (.tail _ (.tail _ (.tail _ (.tail _ hp)))))) z S
    · simp only [List.mem_cons] at hq ⊢
      rcases hq with h | h | h | h | h <;> simp_all
    · refine List.forall_mem_cons.mpr ⟨fun b hb => ?_, List.forall_mem_cons.mpr ⟨fun b hb => ?_, off⟩⟩
      · (show @Ne Nat _ _)
        simp only [List.mem_cons, List.not_mem_nil, or_false] at hb
        rcases hb with rfl | rfl <;> (dsimp only; omega)
      · (show @Ne Nat _ _)
        simp only [List.mem_cons, List.not_mem_nil, or_false] at hb
        rcases hb with rfl | rfl <;> (dsimp only; omega)
section
theorem mem5 {p : Addr × Obj} {a b c d e : Addr × Obj} {l : List (Addr × Obj)} (h : p ∈ d :: a :: b :: c :: e :: l) : p ∈ a :: b :: c :: d :: e :: l := by
  simp only [List.mem_cons] at h ⊢
  rcases h with h | h | h | h | h | h <;> simp [h]
theorem mem6 {p : Addr × Obj} {a b c d e f : Addr × Obj} {l : List (Addr × Obj)} (h : p ∈ e :: f :: a :: b :: c :: d :: l) : p ∈ a :: b :: c :: d :: e :: f :: l := by
  simp only [List.mem_cons] at h ⊢
  rcases h with h | h | h | h | h | h | h <;> simp [h]
local macro_rules | `(tactic| walk_at "call ref") => `(tactic| (k_here; (with_reducible show wpAny _ _ (call (Value.ref 247) _) _ _ _); k_dflt (
  (show wpAny _ _ (call (Value.ref 247) _) _ _ _)
  refine' Mine.design_use (by k_asm) (by k_asm) (by k_asm) (by k_asm) (by k_asm) (by first | exact rfl | assumption) ?_
  intros
  walk_at "mine end")))
local macro_rules | `(tactic| walk_at "call ref") => `(tactic| (k_here; (with_reducible show wpAny _ _ (call (Value.ref 324) _) _ _ _); k_dflt (
  (rename AllLt _ _ => l1)
  (rename News _ _ _ ((_, instObj 247 _) :: _) => N8)
  refine' Mine.scope_use (by k_asm) (by k_asm) (by k_asm) (cb_drop N8 fun q hq => Mine.mem5 hq) (by k_asm) (by first | exact rfl | assumption) (by assumption) (by assumption) (by exact List.forall_mem_cons.mpr ⟨(by intro b hb; rw [List.mem_singleton.mp hb]; (show @Ne Nat _ _); omega), List.forall_mem_cons.mpr ⟨(by intro b hb; rw [List.mem_singleton.mp hb]; (show @Ne Nat _ _); omega), fun p hp b hb => by rw [List.mem_singleton.mp hb]; have := Mine.allLt_lt l1 p hp; (show @Ne Nat _ _); omega⟩⟩) (by omega) (by omega) ?_
  intros
  walk_at "mine end")))
theorem pc_a {w : World} {mean : ExcName → Option Value} {mg mb : Str → Option Value} {news : List (Addr × Obj)} {rest : List Stmt}
  {a : Addr} {ccd : Value} {h₀ : Heap} {L : Addr} {m : Str → Option Value} {s : Shared} {Q : Flow → Shared → Prop} {E : Value → Shared → Prop}
  (B : Below callerA h₀ [] h₀) (F : Fr h₀ L s.heap m) (X : (hp w.params).In h₀) (N : News h₀ L s.heap news) (T : Top vw (looseW vw [Str.ofString "GateloomError", Str.ofString "vec"]) mean mg mb h₀)
  (hnext : ∀ sc de sl bp ob R h' tk' m', Fr h₀ L h' m' → News h₀ L h' ((sl, listOf #[] 0) :: (bp, ob) :: R) → Dsg R sc de sl bp → ByP w ob 0 → (∀ p ∈ news, p ∈ R) → m' (Str.ofString "design") = some (.ref de) → m' (Str.ofString "scope") = some (.ref sc) →
    wpAny (model PySem.Challenge.rw_pq0461_01.row.prog w) (callerA.deeper (lawE L a ccd)) (execs rest (lawE L a ccd)) Q E { s with heap := h', toks := tk' }) :
  wpAny (model PySem.Challenge.rw_pq0461_01.row.prog w) (callerA.deeper (lawE L a ccd)) (execs (b0 :: b1 :: rest) (lawE L a ccd)) Q E s := by
  revert X; k_fill; intro X
  delta b0 b1
  (try k_fold)
  k_steps
  (rename News _ _ _ ((_, instObj 324 _) :: _) => hN)
  (rename AllLt _ news => l1)
  (rename AllLt _ (_ :: _) => q1)
  have e1 := fun p hp => allLt_lt l1 p hp
  have e2 := fun p hp => allLt_lt q1 p hp
  have u1 := e2 _ (.head _)
  have u2 := e2 _ (.tail _ (.head _))
  dsimp only at u1 u2
  refine hnext _ _ _ _ _ _ _ _ _ (by assumption) (cb_drop hN fun q hq => mem6 hq) ⟨⟨_, _, _, _, _, _, .head _, .tail _ (.head _), .tail _ (.tail _ (.head _)), .tail _ (.tail _ (.tail _ (.head _))), by assumption, by assumption, by assumption, by assumption⟩, ?_, by omega⟩ ⟨[], [], by assumption, .nil, Nat.le_refl _⟩ (fun p hp => .tail _ (.tail _ (.tail _ (.tail _ hp)))) rfl rfl
  refine List.forall_mem_cons.mpr ⟨?_, List.forall_mem_cons.mpr ⟨?_, List.forall_mem_cons.mpr ⟨?_, List.forall_mem_cons.mpr ⟨?_, fun p hp => ?_⟩⟩⟩⟩
  any_goals (intro b hb; (show @Ne Nat _ _); simp only [List.mem_cons, List.not_mem_nil, or_false] at hb; rcases hb with rfl | rfl <;> ((try dsimp only); omega))
  have := e1 p hp
  intro b hb; (show @Ne Nat _ _); simp only [List.mem_cons, List.not_mem_nil, or_false] at hb; rcases hb with rfl | rfl <;> ((try dsimp only); omega)
end
section
local macro_rules | `(tactic| walk_at "getMethod ref") => `(tactic| (k_here; k_dflt (refine' Mine.Dsg.method (by assumption) (by k_asm) (by k_asm) (by k_asm) (by (intro p hp; repeat (first | exact hp | apply List.Mem.tail))) ?_; k_whole)))
local macro_rules | `(tactic| walk_at "call ref") => `(tactic| (k_here; (with_reducible show wpAny _ _ (call (Value.ref 209) _) _ _ _); k_dflt (
  (show wpAny _ _ (call (Value.ref 209) _) _ _ _)
  refine' Mine.add_call (by k_asm) (by k_asm) (by k_asm) (by assumption) (by k_asm) (by first | exact rfl | assumption) (by assumption) (by assumption) (by exact Nat.le_of_ble_eq_true rfl) (by exact Nat.le_of_ble_eq_true rfl) (by ktr_room) (by ktr_units) ?_
  intros
  walk_at "mine end")))
theorem Dsg.upd {R : List (Addr × Obj)} {sc de sl bp x d : Addr} {ox od od' : Obj} (D : Dsg ((x, ox) :: (d, od) :: R) sc de sl bp) (D0 : Dsg R sc de sl bp) : Dsg ((x, ox) :: (d, od') :: R) sc de sl bp :=
  D0.more (fun _ hp => .tail _ (.tail _ hp)) (List.forall_mem_cons.mpr ⟨fun b hb => D.off _ (.head _) b hb, List.forall_mem_cons.mpr ⟨fun b hb => D.off _ (.tail _ (.head _)) b hb, fun p hp => D0.off p hp⟩⟩)
local macro_rules | `(tactic| walk_at "setAttr ref") => `(tactic| (k_here; k_dflt (
   (rename Mine.SigD _ _ _ _ _ _ _ _ _ _ _ => S8); (rename List.length _ ≤ _ => z8); (rename Mine.Dsg ((_, _) :: (_, _) :: _) _ _ _ _ => D8);
   refine' Mine.set_sig (by first | exact Mine.Late.s | exact Mine.Late.f | exact Mine.Late.l) (by k_asm) (by k_asm) (by k_asm) (by k_mem) (by k_mem) (by exact UpdF.tail (by assumption) (UpdF.tail (by assumption) (UpdF.tail (by assumption) (UpdF.head (by assumption))))) S8 (by exact Nat.le_trans z8 (by decide)) ?_; k_whole;
   intro e7 n7 h' F' N' z7 S7; (replace z7 := Nat.le_trans z7 (Nat.succ_le_succ z8)); (first | rw [if_neg (by decide +kernel), if_neg (by decide +kernel)] at S7 | rw [if_neg (by decide +kernel), if_pos rfl] at S7 | rw [if_pos rfl, if_neg (by decide +kernel)] at S7);
   (have D7 := Mine.Dsg.upd (od' := dictOf e7 n7) D8 (by assumption)); clear D8 S8 z8; (try dsimp only at N'); (try k_sweep))))
/-- a signal among the made things, found by the scope under its number -/
structure SigIn (R : List (Addr × Obj)) (sc : Addr) (i wd : Int) (tw : Tok) (sd : Bool) (ms : Int) (tm : Tok) (ls : Int) (tl : Tok) (fi scl : Value) : Prop where
  h : ∃ dsc es1 n1 de dde es2 n2 sl vs n3 sg ds es3 n4 ky, ((sc, instObj 324 dsc) ∈ R ∧ (dsc, dictOf es1 n1) ∈ R ∧ (de, instObj 247 dde) ∈ R ∧ (dde, dictOf es2 n2) ∈ R ∧ (sl, listOf (List.toArray vs) n3) ∈ R ∧ (sg, instObj 184 ds) ∈ R ∧ (ds, dictOf es3 n4) ∈ R) ∧
    getL (Str.ofString "design") es1 = some (some (.ref de)) ∧ getL (Str.ofString "signals") es2 = some (some (.ref sl)) ∧ 0 ≤ i ∧ i < 8 ∧ vs[i.toNat]? = some (.ref sg) ∧ SigD es3 ky wd tw sd ms tm ls tl fi scl
theorem SigIn.of {R R' : List (Addr × Obj)} {sc de sl bp : Addr} {i wd : Int} {tw : Tok} {sd : Bool} {ms : Int} {tm : Tok} {ls : Int} {tl : Tok} {fi scl ky : Value} {vs : List Value} {n3 n4 : Nat} {sg ds : Addr} {es3 : List DictEntry}
    (D : Dsg R sc de sl bp) (hR : ∀ p ∈ R, p ∈ R') (m1 : (sl, listOf (List.toArray vs) n3) ∈ R') (m2 : (sg, instObj 184 ds) ∈ R') (m3 : (ds, dictOf es3 n4) ∈ R') (i0 : 0 ≤ i) (i1 : i < 8) (gi : vs[i.toNat]? = some (.ref sg)) (S : SigD es3 ky wd tw sd ms tm ls tl fi scl) :
    SigIn R' sc i wd tw sd ms tm ls tl fi scl := by
  obtain ⟨⟨dsc, es1, n1, dde, es, n, a, b, c, d, g1, g2, -, -⟩, -, -⟩ := D
  exact ⟨dsc, es1, n1, de, dde, es, n, sl, vs, n3, sg, ds, es3, n4, ky, ⟨hR _ a, hR _ b, hR _ c, hR _ d, m1, m2, m3⟩, g1, g2, i0, i1, gi, S⟩
theorem pc_b {w : World} {mean : ExcName → Option Value} {mg mb : Str → Option Value} {rest : List Stmt} {c2 : Addr × Obj} {oS : Obj} {R : List (Addr × Obj)} {sc de sl bp l : Addr} {vs : List Value} {ns : List Int} {ob : Obj}
  {a : Addr} {ccd : Value} {h₀ : Heap} {L : Addr} {m : Str → Option Value} {s : Shared} {Q : Flow → Shared → Prop} {E : Value → Shared → Prop}
  (B : Below callerA h₀ [] h₀) (F : Fr h₀ L s.heap m) (X : (hp w.params).In h₀) (N : News h₀ L s.heap ((sl, listOf #[] 0) :: (bp, ob) :: c2 :: (L + 1, oS) :: R)) (T : Top vw (looseW vw [Str.ofString "GateloomError", Str.ofString "vec"]) mean mg mb h₀)
  (hS : oS.data = .cell (some (.ref l))) (hl : h₀.IsList l vs.toArray) (hi : IntsAre vs ns) (hf : ns.length < 2 ^ 62) (D : Dsg (c2 :: (L + 1, oS) :: R) sc de sl bp) (P : ByP w ob 0)
  (hde : m (Str.ofString "design") = some (.ref de)) (hsc : m (Str.ofString "scope") = some (.ref sc))
  (hnext : ∀ R' h' tk' m' t0 tw0 tw1 tw2 tm0 tm1 tm2 tl0 tl1 tl2 tf, Fr h₀ L h' m' → News h₀ L h' (c2 :: (L + 1, oS) :: R') → SigIn R' sc 0 (part ns 0 30 + 1) tw0 (part ns 1 2 == 1) (part ns 0 30) tm0 0 tl0 .none (.bool false) → SigIn R' sc 1 1 tw1 false 0 tm1 0 tl1 .none (.bool true) → SigIn R' sc 2 4 tw2 true 0 tm2 3 tl2 (.int 2 tf) (.bool false) →
    m' (Str.ofString "high") = some (.int (part ns 0 30) t0) → m' (Str.ofString "scope") = some (.ref sc) → wpAny (model PySem.Challenge.rw_pq0461_01.row.prog w) (callerA.deeper (lawE L a ccd)) (execs rest (lawE L a ccd)) Q E { s with heap := h', toks := tk' }) :
  wpAny (model PySem.Challenge.rw_pq0461_01.row.prog w) (callerA.deeper (lawE L a ccd)) (execs (b2 :: b3 :: b4 :: b5 :: b6 :: b7 :: b8 :: rest) (lawE L a ccd)) Q E s := by
  revert X; k_fill; intro X
  rw [← nameIn hde, ← nameIn hsc] at F
  dsimp only at F
  delta b2 b3 b4 b5 b6 b7 b8
  k_steps
  (rename News _ _ _ ((_, listOf _ _) :: _) => hN)
  (rename Dsg _ _ _ _ _ => hD)
  refine hnext _ _ _ _ _ _ _ _ _ _ _ _ _ _ _ (by assumption) (cb_drop hN (List.forall_mem_cons.mpr ⟨?_, List.forall_mem_cons.mpr ⟨?_, fun q hq => hq⟩⟩)) (SigIn.of hD ?_ (.head _) (.tail _ (.tail _ (.tail _ (.tail _ (.tail _ (.tail _ (.head _))))))) (.tail _ (.tail _ (.tail _ (.tail _ (.tail _ (.tail _ (.tail _ (.head _)))))))) (by decide) (by decide) rfl (by assumption)) (SigIn.of hD ?_ (.head _) (.tail _ (.tail _ (.tail _ (.tail _ (.head _))))) (.tail _ (.tail _ (.tail _ (.tail _ (.tail _ (.head _)))))) (by decide) (by decide) rfl (by assumption)) (SigIn.of hD ?_ (.head _) (.tail _ (.tail _ (.head _))) (.tail _ (.tail _ (.tail _ (.head _)))) (by decide) (by decide) rfl (by assumption)) rfl rfl
  any_goals exact fun p hp => .tail _ (.tail _ hp)
  all_goals (repeat (first | exact .head _ | apply List.Mem.tail))
end
/-- what a call gives, over any made things that hold R: a new tuple that reads as d -/
noncomputable def Answers (w : World) (h₀ : Heap) (L a : Addr) (ccd : Value) (R : List (Addr × Obj)) (f : Addr) (args : List Value) (d : PyData) : Prop :=
  ∀ (m : Str → Option Value) (s : Shared) (Q E : Value → Shared → Prop) (led : List (Addr × Obj)), Fr h₀ L s.heap m → News h₀ L s.heap led → (∀ p ∈ R, p ∈ led) →
    (∀ r o h' tk', Fr h₀ L h' m → News h₀ L h' ((r, o) :: led) → AllLt r led → Reads h' (.ref r) d [] → Q (.ref r) { s with heap := h', toks := tk' }) → wpAny (model PySem.Challenge.rw_pq0461_01.row.prog w) (callerA.deeper (lawE L a ccd)) (call (.ref f) args) Q E s
/-- what a call gives, over any made things that hold R: a truth value -/
noncomputable def AnswersB (w : World) (h₀ : Heap) (L a : Addr) (ccd : Value) (R : List (Addr × Obj)) (f : Addr) (args : List Value) (b : Bool) : Prop :=
  ∀ (m : Str → Option Value) (s : Shared) (Q E : Value → Shared → Prop) (led : List (Addr × Obj)), Fr h₀ L s.heap m → News h₀ L s.heap led → (∀ p ∈ R, p ∈ led) →
    (∀ h' tk', Fr h₀ L h' m → News h₀ L h' led → Q (.bool b) { s with heap := h', toks := tk' }) → wpAny (model PySem.Challenge.rw_pq0461_01.row.prog w) (callerA.deeper (lawE L a ccd)) (call (.ref f) args) Q E s
/-- a made thing that reads as d -/
noncomputable def ReadsIn (h₀ : Heap) (L : Addr) (R : List (Addr × Obj)) (v : Value) (d : PyData) : Prop := ∀ (h : Heap) (led : List (Addr × Obj)), News h₀ L h led → (∀ p ∈ R, p ∈ led) → Reads h v d []
/-- one row: what the three calls give is what the row says -/
structure RowOk (w : World) (h₀ : Heap) (L a : Addr) (ccd : Value) (R : List (Addr × Obj)) (sc e f r : Addr) : Prop where
  sh : ∃ d, (∀ t, Answers w h₀ L a ccd R 111 [.ref sc, .ref e, .int 7 t] d) ∧ ReadsIn h₀ L R (.ref f) d ∧ SeqAt.shaped d = true ∧ PyData.eqv d d = true
  rd : ∃ d, Answers w h₀ L a ccd R 118 [.ref sc, .ref e, .none] d ∧ ReadsIn h₀ L R (.ref r) d ∧ SeqAt.shaped d = true ∧ PyData.eqv d d = true
  me : AnswersB w h₀ L a ccd R 104 [.ref sc, .ref e] false
theorem row_sig {w : World} {mean : ExcName → Option Value} {mg mb : Str → Option Value} {h₀ : Heap} {L a : Addr} {ccd : Value} {R : List (Addr × Obj)} {sc : Addr} {i wd ms ls : Int} {sd scl : Bool} {tw tm tl : Tok} {e f r : Addr} {u0 u1 v0 v2 v3 z0 z1 z2 : Tok}
  (B : Below callerA h₀ [] h₀) (X : (hp w.params).In h₀) (T : Top vw (looseW vw [Str.ofString "GateloomError", Str.ofString "vec"]) mean mg mb h₀) (me : (e, { cls := .type "tuple", data := .seq #[.str (Str.ofString "sig") u0, .int i u1] }) ∈ R) (S : SigIn R sc i wd tw sd ms tm ls tl .none (.bool scl)) 
  (mf : (f, { cls := .type "tuple", data := .seq #[.int wd v0, .bool sd, .int ms v2, .int ls v3, .bool scl] }) ∈ R) (mr : (r, { cls := .type "tuple", data := .seq #[.str (Str.ofString "sig") z0, .int wd z1, .int i z2] }) ∈ R) : RowOk w h₀ L a ccd R sc e f r := by
  obtain ⟨dsc, es1, n1, de, dde, es2, n2, sl, vs, n3, sg, ds, es3, n4, ky, ⟨a1, a2, a3, a4, a5, a6, a7⟩, g1, g2, i0, i1, gi, S⟩ := S.h
  have hsh : SeqAt.shaped (.tuple [.int (wd), .bool sd, .int (ms), .int (ls), .bool scl]) = true := by first | rfl | (simp [SeqAt.shaped, PyData.canLay0, PyData.canLayAll0, PyData.depth, PyData.depthAll]; done) | (simp [SeqAt.shaped, PyData.canLay0, PyData.canLayAll0, PyData.depth, PyData.depthAll]; decide +kernel)
  have hrd : SeqAt.shaped (.tuple [.str (Str.ofString "sig"), .int (wd), .int (i)]) = true := by first | rfl | (simp [SeqAt.shaped, PyData.canLay0, PyData.canLayAll0, PyData.depth, PyData.depthAll]; done) | (simp [SeqAt.shaped, PyData.canLay0, PyData.canLayAll0, PyData.depth, PyData.depthAll]; decide +kernel)
  refine ⟨⟨.tuple [.int (wd), .bool sd, .int (ms), .int (ls), .bool scl], fun t => ?sh, fun h led N hR => reads_tuple_at (N _ (hR _ mf)).1 rfl rfl (.cons (as := []) (bs := []) (.int ..) (.cons (as := []) (bs := []) (.bool ..) (.cons (as := []) (bs := []) (.int ..) (.cons (as := []) (bs := []) (.int ..) (.cons (as := []) (bs := []) (.bool ..) .nil))))), hsh, by simp [PyData.eqv, PyData.eqvAll]⟩, ⟨.tuple [.str (Str.ofString "sig"), .int (wd), .int (i)], ?rd, fun h led N hR => reads_tuple_at (N _ (hR _ mr)).1 rfl rfl (.cons (as := []) (bs := []) (.str ..) (.cons (as := []) (bs := []) (.int ..) (.cons (as := []) (bs := []) (.int ..) .nil))), hrd, by simp [PyData.eqv, PyData.eqvAll]⟩, ?me⟩
  case sh =>
    intro m s Q E led F N hR k
    refine' shape_sig (news := led) B F X (cb_drop N (List.forall_mem_cons.mpr ⟨hR _ me, List.forall_mem_cons.mpr ⟨hR _ a1, List.forall_mem_cons.mpr ⟨hR _ a2, List.forall_mem_cons.mpr ⟨hR _ a3, List.forall_mem_cons.mpr ⟨hR _ a4, List.forall_mem_cons.mpr ⟨hR _ a5, List.forall_mem_cons.mpr ⟨hR _ a6, List.forall_mem_cons.mpr ⟨hR _ a7, fun q hq => hq⟩⟩⟩⟩⟩⟩⟩⟩)) T ?ka1 g1 g2 S.width S.signed S.msb S.lsb S.scalar i0 i1 gi ?kb1 ?kc1 (fun r  h' tk' F' N' l => k r _ h' tk' F' (cb_drop N' (List.forall_mem_cons.mpr ⟨.head _, fun q hq => .tail _ (.tail _ (.tail _ (.tail _ (.tail _ (.tail _ (.tail _ (.tail _ (.tail _ hq))))))))⟩)) l (reads_tuple_at (N' _ (.head _)).1 rfl rfl (.cons (as := []) (bs := []) (.int ..) (.cons (as := []) (bs := []) (.bool ..) (.cons (as := []) (bs := []) (.int ..) (.cons (as := []) (bs := []) (.int ..) (.cons (as := []) (bs := []) (.bool ..) .nil)))))))
    case ka1 => exact rfl
    case kb1 => ktr_room
    case kc1 => ktr_units
    all_goals first | exact (0 : Nat) | exact (0 : Int) | exact false
  case rd =>
    intro m s Q E led F N hR k
    refine' read_sig (news := led) B F X (cb_drop N (List.forall_mem_cons.mpr ⟨hR _ me, List.forall_mem_cons.mpr ⟨hR _ a1, List.forall_mem_cons.mpr ⟨hR _ a2, List.forall_mem_cons.mpr ⟨hR _ a3, List.forall_mem_cons.mpr ⟨hR _ a4, List.forall_mem_cons.mpr ⟨hR _ a5, List.forall_mem_cons.mpr ⟨hR _ a6, List.forall_mem_cons.mpr ⟨hR _ a7, fun q hq => hq⟩⟩⟩⟩⟩⟩⟩⟩)) T ?ka2 g1 g2 S.width i0 i1 gi ?kb2 ?kc2 (fun r t3 h' tk' F' N' l => k r _ h' tk' F' (cb_drop N' (List.forall_mem_cons.mpr ⟨.head _, fun q hq => .tail _ (.tail _ (.tail _ (.tail _ (.tail _ (.tail _ (.tail _ (.tail _ (.tail _ hq))))))))⟩)) l (reads_tuple_at (N' _ (.head _)).1 rfl rfl (.cons (as := []) (bs := []) (.str ..) (.cons (as := []) (bs := []) (.int ..) (.cons (as := []) (bs := []) (.int ..) .nil)))))
    case ka2 => exact rfl
    case kb2 => ktr_room
    case kc2 => ktr_units
    all_goals first | exact (0 : Nat) | exact (0 : Int) | exact false
  case me =>
    intro m s Q E led F N hR k
    refine' mem_sigF (news := led) B F X (cb_drop N (List.forall_mem_cons.mpr ⟨hR _ me, List.forall_mem_cons.mpr ⟨hR _ a1, List.forall_mem_cons.mpr ⟨hR _ a2, List.forall_mem_cons.mpr ⟨hR _ a3, List.forall_mem_cons.mpr ⟨hR _ a4, List.forall_mem_cons.mpr ⟨hR _ a5, List.forall_mem_cons.mpr ⟨hR _ a6, List.forall_mem_cons.mpr ⟨hR _ a7, fun q hq => hq⟩⟩⟩⟩⟩⟩⟩⟩)) T ?ka3 g1 g2 S.mem S.first i0 i1 gi ?kb3 ?kc3 (fun h' tk' F' N' => k h' tk' F' (cb_drop N' fun q hq => .tail _ (.tail _ (.tail _ (.tail _ (.tail _ (.tail _ (.tail _ (.tail _ hq)))))))))
    case ka3 => exact rfl
    case kb3 => ktr_room
    case kc3 => ktr_units
    all_goals first | exact (0 : Nat) | exact (0 : Int) | exact false
theorem row_loc4 {w : World} {mean : ExcName → Option Value} {mg mb : Str → Option Value} {h₀ : Heap} {L a : Addr} {ccd : Value} {R : List (Addr × Obj)} {sc : Addr} {x wd : Int} {sd : Bool} {e f r : Addr} {u0 u1 u2 v0 v2 v3 z0 z1 z2 : Tok}
  (B : Below callerA h₀ [] h₀) (X : (hp w.params).In h₀) (T : Top vw (looseW vw [Str.ofString "GateloomError", Str.ofString "vec"]) mean mg mb h₀) (me : (e, { cls := .type "tuple", data := .seq #[.str (Str.ofString "local") u0, .int x u1, .int wd u2, .bool sd] }) ∈ R) 
  (mf : (f, { cls := .type "tuple", data := .seq #[.int wd v0, .bool sd, .int (wd - 1) v2, .int 0 v3, .bool false] }) ∈ R) (mr : (r, { cls := .type "tuple", data := .seq #[.str (Str.ofString "local") z0, .int wd z1, .int x z2] }) ∈ R) : RowOk w h₀ L a ccd R sc e f r := by
  have hsh : SeqAt.shaped (.tuple [.int (wd), .bool sd, .int (wd - 1), .int (0), .bool false]) = true := by first | rfl | (simp [SeqAt.shaped, PyData.canLay0, PyData.canLayAll0, PyData.depth, PyData.depthAll]; done) | (simp [SeqAt.shaped, PyData.canLay0, PyData.canLayAll0, PyData.depth, PyData.depthAll]; decide +kernel)
  have hrd : SeqAt.shaped (.tuple [.str (Str.ofString "local"), .int (wd), .int (x)]) = true := by first | rfl | (simp [SeqAt.shaped, PyData.canLay0, PyData.canLayAll0, PyData.depth, PyData.depthAll]; done) | (simp [SeqAt.shaped, PyData.canLay0, PyData.canLayAll0, PyData.depth, PyData.depthAll]; decide +kernel)
  refine ⟨⟨.tuple [.int (wd), .bool sd, .int (wd - 1), .int (0), .bool false], fun t => ?sh, fun h led N hR => reads_tuple_at (N _ (hR _ mf)).1 rfl rfl (.cons (as := []) (bs := []) (.int ..) (.cons (as := []) (bs := []) (.bool ..) (.cons (as := []) (bs := []) (.int ..) (.cons (as := []) (bs := []) (.int ..) (.cons (as := []) (bs := []) (.bool ..) .nil))))), hsh, by simp [PyData.eqv, PyData.eqvAll]⟩, ⟨.tuple [.str (Str.ofString "local"), .int (wd), .int (x)], ?rd, fun h led N hR => reads_tuple_at (N _ (hR _ mr)).1 rfl rfl (.cons (as := []) (bs := []) (.str ..) (.cons (as := []) (bs := []) (.int ..) (.cons (as := []) (bs := []) (.int ..) .nil))), hrd, by simp [PyData.eqv, PyData.eqvAll]⟩, ?me⟩
  case sh =>
    intro m s Q E led F N hR k
    refine' shape_loc4 (news := led) B F X (cb_drop N (List.forall_mem_cons.mpr ⟨hR _ me, fun q hq => hq⟩)) T ?ka4  ?kb4 ?kc4 (fun r t7 t8 h' tk' F' N' l => k r _ h' tk' F' (cb_drop N' (List.forall_mem_cons.mpr ⟨.head _, fun q hq => .tail _ (.tail _ hq)⟩)) l (reads_tuple_at (N' _ (.head _)).1 rfl rfl (.cons (as := []) (bs := []) (.int ..) (.cons (as := []) (bs := []) (.bool ..) (.cons (as := []) (bs := []) (.int ..) (.cons (as := []) (bs := []) (.int ..) (.cons (as := []) (bs := []) (.bool ..) .nil)))))))
    case ka4 => exact rfl
    case kb4 => ktr_room
    case kc4 => ktr_units
    all_goals first | exact (0 : Nat) | exact (0 : Int) | exact false
  case rd =>
    intro m s Q E led F N hR k
    refine' read_loc4 (news := led) B F X (cb_drop N (List.forall_mem_cons.mpr ⟨hR _ me, fun q hq => hq⟩)) T ?ka5  ?kb5 ?kc5 (fun r t6 h' tk' F' N' l => k r _ h' tk' F' (cb_drop N' (List.forall_mem_cons.mpr ⟨.head _, fun q hq => .tail _ (.tail _ hq)⟩)) l (reads_tuple_at (N' _ (.head _)).1 rfl rfl (.cons (as := []) (bs := []) (.str ..) (.cons (as := []) (bs := []) (.int ..) (.cons (as := []) (bs := []) (.int ..) .nil)))))
    case ka5 => exact rfl
    case kb5 => ktr_room
    case kc5 => ktr_units
    all_goals first | exact (0 : Nat) | exact (0 : Int) | exact false
  case me =>
    intro m s Q E led F N hR k
    refine' mem_loc4 (news := led) B F X (cb_drop N (List.forall_mem_cons.mpr ⟨hR _ me, fun q hq => hq⟩)) T ?ka6  ?kb6 ?kc6 (fun h' tk' F' N' => k h' tk' F' (cb_drop N' fun q hq => .tail _ hq))
    case ka6 => exact rfl
    case kb6 => ktr_room
    case kc6 => ktr_units
    all_goals first | exact (0 : Nat) | exact (0 : Int) | exact false
theorem row_loc6 {w : World} {mean : ExcName → Option Value} {mg mb : Str → Option Value} {h₀ : Heap} {L a : Addr} {ccd : Value} {R : List (Addr × Obj)} {sc : Addr} {x wd ms ls : Int} {sd : Bool} {e f r : Addr} {u0 u1 u2 u4 u5 v0 v2 v3 z0 z1 z2 : Tok}
  (B : Below callerA h₀ [] h₀) (X : (hp w.params).In h₀) (T : Top vw (looseW vw [Str.ofString "GateloomError", Str.ofString "vec"]) mean mg mb h₀) (me : (e, { cls := .type "tuple", data := .seq #[.str (Str.ofString "local") u0, .int x u1, .int wd u2, .bool sd, .int ms u4, .int ls u5] }) ∈ R) 
  (mf : (f, { cls := .type "tuple", data := .seq #[.int wd v0, .bool sd, .int ms v2, .int ls v3, .bool false] }) ∈ R) (mr : (r, { cls := .type "tuple", data := .seq #[.str (Str.ofString "local") z0, .int wd z1, .int x z2] }) ∈ R) : RowOk w h₀ L a ccd R sc e f r := by
  have hsh : SeqAt.shaped (.tuple [.int (wd), .bool sd, .int (ms), .int (ls), .bool false]) = true := by first | rfl | (simp [SeqAt.shaped, PyData.canLay0, PyData.canLayAll0, PyData.depth, PyData.depthAll]; done) | (simp [SeqAt.shaped, PyData.canLay0, PyData.canLayAll0, PyData.depth, PyData.depthAll]; decide +kernel)
  have hrd : SeqAt.shaped (.tuple [.str (Str.ofString "local"), .int (wd), .int (x)]) = true := by first | rfl | (simp [SeqAt.shaped, PyData.canLay0, PyData.canLayAll0, PyData.depth, PyData.depthAll]; done) | (simp [SeqAt.shaped, PyData.canLay0, PyData.canLayAll0, PyData.depth, PyData.depthAll]; decide +kernel)
  refine ⟨⟨.tuple [.int (wd), .bool sd, .int (ms), .int (ls), .bool false], fun t => ?sh, fun h led N hR => reads_tuple_at (N _ (hR _ mf)).1 rfl rfl (.cons (as := []) (bs := []) (.int ..) (.cons (as := []) (bs := []) (.bool ..) (.cons (as := []) (bs := []) (.int ..) (.cons (as := []) (bs := []) (.int ..) (.cons (as := []) (bs := []) (.bool ..) .nil))))), hsh, by simp [PyData.eqv, PyData.eqvAll]⟩, ⟨.tuple [.str (Str.ofString "local"), .int (wd), .int (x)], ?rd, fun h led N hR => reads_tuple_at (N _ (hR _ mr)).1 rfl rfl (.cons (as := []) (bs := []) (.str ..) (.cons (as := []) (bs := []) (.int ..) (.cons (as := []) (bs := []) (.int ..) .nil))), hrd, by simp [PyData.eqv, PyData.eqvAll]⟩, ?me⟩
  case sh =>
    intro m s Q E led F N hR k
    refine' shape_loc6 (news := led) B F X (cb_drop N (List.forall_mem_cons.mpr ⟨hR _ me, fun q hq => hq⟩)) T ?ka7  ?kb7 ?kc7 (fun r  h' tk' F' N' l => k r _ h' tk' F' (cb_drop N' (List.forall_mem_cons.mpr ⟨.head _, fun q hq => .tail _ (.tail _ hq)⟩)) l (reads_tuple_at (N' _ (.head _)).1 rfl rfl (.cons (as := []) (bs := []) (.int ..) (.cons (as := []) (bs := []) (.bool ..) (.cons (as := []) (bs := []) (.int ..) (.cons (as := []) (bs := []) (.int ..) (.cons (as := []) (bs := []) (.bool ..) .nil)))))))
    case ka7 => exact rfl
    case kb7 => ktr_room
    case kc7 => ktr_units
    all_goals first | exact (0 : Nat) | exact (0 : Int) | exact false
  case rd =>
    intro m s Q E led F N hR k
    refine' read_loc6 (news := led) B F X (cb_drop N (List.forall_mem_cons.mpr ⟨hR _ me, fun q hq => hq⟩)) T ?ka8  ?kb8 ?kc8 (fun r t6 h' tk' F' N' l => k r _ h' tk' F' (cb_drop N' (List.forall_mem_cons.mpr ⟨.head _, fun q hq => .tail _ (.tail _ hq)⟩)) l (reads_tuple_at (N' _ (.head _)).1 rfl rfl (.cons (as := []) (bs := []) (.str ..) (.cons (as := []) (bs := []) (.int ..) (.cons (as := []) (bs := []) (.int ..) .nil)))))
    case ka8 => exact rfl
    case kb8 => ktr_room
    case kc8 => ktr_units
    all_goals first | exact (0 : Nat) | exact (0 : Int) | exact false
  case me =>
    intro m s Q E led F N hR k
    refine' mem_loc6 (news := led) B F X (cb_drop N (List.forall_mem_cons.mpr ⟨hR _ me, fun q hq => hq⟩)) T ?ka9  ?kb9 ?kc9 (fun h' tk' F' N' => k h' tk' F' (cb_drop N' fun q hq => .tail _ hq))
    case ka9 => exact rfl
    case kb9 => ktr_room
    case kc9 => ktr_units
    all_goals first | exact (0 : Nat) | exact (0 : Int) | exact false
theorem row_par {w : World} {mean : ExcName → Option Value} {mg mb : Str → Option Value} {h₀ : Heap} {L a : Addr} {ccd : Value} {R : List (Addr × Obj)} {sc : Addr} {wd av bv : Int} {sd : Bool} {pv : Addr} {p0 p1 p2 : Tok} {e f r : Addr} {u0 v0 v2 v3 z0 z1 z2 z3 : Tok}
  (B : Below callerA h₀ [] h₀) (X : (hp w.params).In h₀) (T : Top vw (looseW vw [Str.ofString "GateloomError", Str.ofString "vec"]) mean mg mb h₀) (me : (e, { cls := .type "tuple", data := .seq #[.str (Str.ofString "param") u0, .ref pv, .bool sd] }) ∈ R) (mp : (pv, { cls := .type "tuple", data := .seq #[.int wd p0, .int av p1, .int bv p2] }) ∈ R) 
  (mf : (f, { cls := .type "tuple", data := .seq #[.int wd v0, .bool sd, .int (wd - 1) v2, .int 0 v3, .bool false] }) ∈ R) (mr : (r, { cls := .type "tuple", data := .seq #[.str (Str.ofString "const") z0, .int wd z1, .int av z2, .int bv z3] }) ∈ R) : RowOk w h₀ L a ccd R sc e f r := by
  have hsh : SeqAt.shaped (.tuple [.int (wd), .bool sd, .int (wd - 1), .int (0), .bool false]) = true := by first | rfl | (simp [SeqAt.shaped, PyData.canLay0, PyData.canLayAll0, PyData.depth, PyData.depthAll]; done) | (simp [SeqAt.shaped, PyData.canLay0, PyData.canLayAll0, PyData.depth, PyData.depthAll]; decide +kernel)
  have hrd : SeqAt.shaped (.tuple [.str (Str.ofString "const"), .int (wd), .int (av), .int (bv)]) = true := by first | rfl | (simp [SeqAt.shaped, PyData.canLay0, PyData.canLayAll0, PyData.depth, PyData.depthAll]; done) | (simp [SeqAt.shaped, PyData.canLay0, PyData.canLayAll0, PyData.depth, PyData.depthAll]; decide +kernel)
  refine ⟨⟨.tuple [.int (wd), .bool sd, .int (wd - 1), .int (0), .bool false], fun t => ?sh, fun h led N hR => reads_tuple_at (N _ (hR _ mf)).1 rfl rfl (.cons (as := []) (bs := []) (.int ..) (.cons (as := []) (bs := []) (.bool ..) (.cons (as := []) (bs := []) (.int ..) (.cons (as := []) (bs := []) (.int ..) (.cons (as := []) (bs := []) (.bool ..) .nil))))), hsh, by simp [PyData.eqv, PyData.eqvAll]⟩, ⟨.tuple [.str (Str.ofString "const"), .int (wd), .int (av), .int (bv)], ?rd, fun h led N hR => reads_tuple_at (N _ (hR _ mr)).1 rfl rfl (.cons (as := []) (bs := []) (.str ..) (.cons (as := []) (bs := []) (.int ..) (.cons (as := []) (bs := []) (.int ..) (.cons (as := []) (bs := []) (.int ..) .nil)))), hrd, by simp [PyData.eqv, PyData.eqvAll]⟩, ?me⟩
  case sh =>
    intro m s Q E led F N hR k
    refine' shape_par (news := led) B F X (cb_drop N (List.forall_mem_cons.mpr ⟨hR _ me, List.forall_mem_cons.mpr ⟨hR _ mp, fun q hq => hq⟩⟩)) T ?ka10  ?kb10 ?kc10 (fun r t7 t8 h' tk' F' N' l => k r _ h' tk' F' (cb_drop N' (List.forall_mem_cons.mpr ⟨.head _, fun q hq => .tail _ (.tail _ (.tail _ hq))⟩)) l (reads_tuple_at (N' _ (.head _)).1 rfl rfl (.cons (as := []) (bs := []) (.int ..) (.cons (as := []) (bs := []) (.bool ..) (.cons (as := []) (bs := []) (.int ..) (.cons (as := []) (bs := []) (.int ..) (.cons (as := []) (bs := []) (.bool ..) .nil)))))))
    case ka10 => exact rfl
    case kb10 => ktr_room
    case kc10 => ktr_units
    all_goals first | exact (0 : Nat) | exact (0 : Int) | exact false
  case rd =>
    intro m s Q E led F N hR k
    refine' read_par (news := led) B F X (cb_drop N (List.forall_mem_cons.mpr ⟨hR _ me, List.forall_mem_cons.mpr ⟨hR _ mp, fun q hq => hq⟩⟩)) T ?ka11  ?kb11 ?kc11 (fun r t6 h' tk' F' N' l => k r _ h' tk' F' (cb_drop N' (List.forall_mem_cons.mpr ⟨.head _, fun q hq => .tail _ (.tail _ (.tail _ hq))⟩)) l (reads_tuple_at (N' _ (.head _)).1 rfl rfl (.cons (as := []) (bs := []) (.str ..) (.cons (as := []) (bs := []) (.int ..) (.cons (as := []) (bs := []) (.int ..) (.cons (as := []) (bs := []) (.int ..) .nil))))))
    case ka11 => exact rfl
    case kb11 => ktr_room
    case kc11 => ktr_units
    all_goals first | exact (0 : Nat) | exact (0 : Int) | exact false
  case me =>
    intro m s Q E led F N hR k
    refine' mem_par (news := led) B F X (cb_drop N (List.forall_mem_cons.mpr ⟨hR _ me, List.forall_mem_cons.mpr ⟨hR _ mp, fun q hq => hq⟩⟩)) T ?ka12  ?kb12 ?kc12 (fun h' tk' F' N' => k h' tk' F' (cb_drop N' fun q hq => .tail _ (.tail _ hq)))
    case ka12 => exact rfl
    case kb12 => ktr_room
    case kc12 => ktr_units
    all_goals first | exact (0 : Nat) | exact (0 : Int) | exact false
theorem row_gen {w : World} {mean : ExcName → Option Value} {mg mb : Str → Option Value} {h₀ : Heap} {L a : Addr} {ccd : Value} {R : List (Addr × Obj)} {sc : Addr} {nv : Int} {e f r : Addr} {u0 u1 v0 v2 v3 z0 z1 z2 z3 : Tok}
  (B : Below callerA h₀ [] h₀) (X : (hp w.params).In h₀) (T : Top vw (looseW vw [Str.ofString "GateloomError", Str.ofString "vec"]) mean mg mb h₀) (me : (e, { cls := .type "tuple", data := .seq #[.str (Str.ofString "genvar") u0, .int nv u1] }) ∈ R) 
  (mf : (f, { cls := .type "tuple", data := .seq #[.int 32 v0, .bool true, .int 31 v2, .int 0 v3, .bool false] }) ∈ R) (mr : (r, { cls := .type "tuple", data := .seq #[.str (Str.ofString "const") z0, .int 32 z1, .int (nv.fmod (2 ^ 32)) z2, .int 0 z3] }) ∈ R) : RowOk w h₀ L a ccd R sc e f r := by
  have hsh : SeqAt.shaped (.tuple [.int (32), .bool true, .int (31), .int (0), .bool false]) = true := by first | rfl | (simp [SeqAt.shaped, PyData.canLay0, PyData.canLayAll0, PyData.depth, PyData.depthAll]; done) | (simp [SeqAt.shaped, PyData.canLay0, PyData.canLayAll0, PyData.depth, PyData.depthAll]; decide +kernel)
  have hrd : SeqAt.shaped (.tuple [.str (Str.ofString "const"), .int (32), .int (nv.fmod (2 ^ 32)), .int (0)]) = true := by first | rfl | (simp [SeqAt.shaped, PyData.canLay0, PyData.canLayAll0, PyData.depth, PyData.depthAll]; done) | (simp [SeqAt.shaped, PyData.canLay0, PyData.canLayAll0, PyData.depth, PyData.depthAll]; decide +kernel)
  refine ⟨⟨.tuple [.int (32), .bool true, .int (31), .int (0), .bool false], fun t => ?sh, fun h led N hR => reads_tuple_at (N _ (hR _ mf)).1 rfl rfl (.cons (as := []) (bs := []) (.int ..) (.cons (as := []) (bs := []) (.bool ..) (.cons (as := []) (bs := []) (.int ..) (.cons (as := []) (bs := []) (.int ..) (.cons (as := []) (bs := []) (.bool ..) .nil))))), hsh, by simp [PyData.eqv, PyData.eqvAll]⟩, ⟨.tuple [.str (Str.ofString "const"), .int (32), .int (nv.fmod (2 ^ 32)), .int (0)], ?rd, fun h led N hR => reads_tuple_at (N _ (hR _ mr)).1 rfl rfl (.cons (as := []) (bs := []) (.str ..) (.cons (as := []) (bs := []) (.int ..) (.cons (as := []) (bs := []) (.int ..) (.cons (as := []) (bs := []) (.int ..) .nil)))), hrd, by simp [PyData.eqv, PyData.eqvAll]⟩, ?me⟩
  case sh =>
    intro m s Q E led F N hR k
    refine' shape_gen (news := led) B F X (cb_drop N (List.forall_mem_cons.mpr ⟨hR _ me, fun q hq => hq⟩)) T ?ka13  ?kb13 ?kc13 (fun r t6 t7 t8 h' tk' F' N' l => k r _ h' tk' F' (cb_drop N' (List.forall_mem_cons.mpr ⟨.head _, fun q hq => .tail _ (.tail _ hq)⟩)) l (reads_tuple_at (N' _ (.head _)).1 rfl rfl (.cons (as := []) (bs := []) (.int ..) (.cons (as := []) (bs := []) (.bool ..) (.cons (as := []) (bs := []) (.int ..) (.cons (as := []) (bs := []) (.int ..) (.cons (as := []) (bs := []) (.bool ..) .nil)))))))
    case ka13 => exact rfl
    case kb13 => ktr_room
    case kc13 => ktr_units
    all_goals first | exact (0 : Nat) | exact (0 : Int) | exact false
  case rd =>
    intro m s Q E led F N hR k
    refine' read_gen (news := led) B F X (cb_drop N (List.forall_mem_cons.mpr ⟨hR _ me, fun q hq => hq⟩)) T ?ka14  ?kb14 ?kc14 (fun r t6 t7 t8 t9 h' tk' F' N' l => k r _ h' tk' F' (cb_drop N' (List.forall_mem_cons.mpr ⟨.head _, fun q hq => .tail _ (.tail _ hq)⟩)) l (reads_tuple_at (N' _ (.head _)).1 rfl rfl (.cons (as := []) (bs := []) (.str ..) (.cons (as := []) (bs := []) (.int ..) (.cons (as := []) (bs := []) (.int ..) (.cons (as := []) (bs := []) (.int ..) .nil))))))
    case ka14 => exact rfl
    case kb14 => ktr_room
    case kc14 => ktr_units
    all_goals first | exact (0 : Nat) | exact (0 : Int) | exact false
  case me =>
    intro m s Q E led F N hR k
    refine' mem_gen (news := led) B F X (cb_drop N (List.forall_mem_cons.mpr ⟨hR _ me, fun q hq => hq⟩)) T ?ka15  ?kb15 ?kc15 (fun h' tk' F' N' => k h' tk' F' (cb_drop N' fun q hq => .tail _ hq))
    case ka15 => exact rfl
    case kb15 => ktr_room
    case kc15 => ktr_units
    all_goals first | exact (0 : Nat) | exact (0 : Int) | exact false
section
theorem SigIn.more {R R' : List (Addr × Obj)} {sc : Addr} {i wd : Int} {tw : Tok} {sd : Bool} {ms : Int} {tm : Tok} {ls : Int} {tl : Tok} {fi scl : Value} (S : SigIn R sc i wd tw sd ms tm ls tl fi scl) (h : ∀ p ∈ R, p ∈ R') : SigIn R' sc i wd tw sd ms tm ls tl fi scl := by
  obtain ⟨dsc, es1, n1, de, dde, es2, n2, sl, vs, n3, sg, ds, es3, n4, ky, ⟨a1, a2, a3, a4, a5, a6, a7⟩, r⟩ := S.h
  exact ⟨dsc, es1, n1, de, dde, es2, n2, sl, vs, n3, sg, ds, es3, n4, ky, ⟨h _ a1, h _ a2, h _ a3, h _ a4, h _ a5, h _ a6, h _ a7⟩, r⟩
noncomputable def RowIn (w : World) (h₀ : Heap) (L a : Addr) (ccd : Value) (R : List (Addr × Obj)) (sc : Addr) (v : Value) : Prop :=
  ∃ q e f r, v = .ref q ∧ (q, { cls := .type "tuple", data := .seq #[.ref e, .ref f, .ref r] }) ∈ R ∧ RowOk w h₀ L a ccd R sc e f r
theorem RowIn.more {w : World} {h₀ : Heap} {L a : Addr} {ccd : Value} {R R' : List (Addr × Obj)} {sc : Addr} {v : Value} (h : RowIn w h₀ L a ccd R sc v) (k : ∀ p ∈ R, p ∈ R') : RowIn w h₀ L a ccd R' sc v := by
  obtain ⟨q, e, f, r, hv, hm, ⟨d1, s1, s2, s3⟩, ⟨d2, t1, t2, t3⟩, me⟩ := h
  exact ⟨q, e, f, r, hv, k _ hm, ⟨d1, fun t m s Q E led F N hR => s1 t m s Q E led F N fun p hp => hR p (k p hp), fun h led N hR => s2 h led N fun p hp => hR p (k p hp), s3⟩,
    ⟨d2, fun m s Q E led F N hR => t1 m s Q E led F N fun p hp => hR p (k p hp), fun h led N hR => t2 h led N fun p hp => hR p (k p hp), t3⟩, fun m s Q E led F N hR => me m s Q E led F N fun p hp => hR p (k p hp)⟩
/-- the rows made so far -/
noncomputable def RowsIn (w : World) (h₀ : Heap) (L a : Addr) (ccd : Value) (sc : Addr) (R R' : List (Addr × Obj)) (rows : List Value) : Prop :=
  (∀ p ∈ R, p ∈ R') ∧ ∀ v ∈ rows, RowIn w h₀ L a ccd R' sc v
theorem RowsIn.cons {w : World} {h₀ : Heap} {L a : Addr} {ccd : Value} {R R' R'' : List (Addr × Obj)} {sc : Addr} {v : Value} {rows : List Value} (h : RowsIn w h₀ L a ccd sc R R' rows) (k : ∀ p ∈ R', p ∈ R'') (q : RowIn w h₀ L a ccd R'' sc v) : RowsIn w h₀ L a ccd sc R R'' (v :: rows) :=
  ⟨fun p hp => k p (h.1 p hp), List.forall_mem_cons.mpr ⟨q, fun u hu => (h.2 u hu).more k⟩⟩
theorem RowsIn.more {w : World} {h₀ : Heap} {L a : Addr} {ccd : Value} {R R' R'' : List (Addr × Obj)} {sc : Addr} {rows : List Value} (h : RowsIn w h₀ L a ccd sc R R' rows) (k : ∀ p ∈ R', p ∈ R'') : RowsIn w h₀ L a ccd sc R R'' rows :=
  ⟨fun p hp => k p (h.1 p hp), fun u hu => (h.2 u hu).more k⟩
/-- what the rows read -/
structure RowsAt (h₀ : Heap) (R : List (Addr × Obj)) (sc l : Addr) (vs : List Value) (ns : List Int) (oS : Obj) (m : Str → Option Value) : Prop where
  hS : oS.data = .cell (some (.ref l))
  hl : h₀.IsList l vs.toArray
  hi : IntsAre vs ns
  hf : ns.length < 2 ^ 62
  hhi : ∃ t, m (Str.ofString "high") = some (.int (part ns 0 30) t)
  hva : ∃ v av bv p0 p1 p2, m (Str.ofString "value") = some (.ref v) ∧ (v, ({ cls := .type "tuple", data := .seq #[.int 3 p0, .int av p1, .int bv p2] } : Obj)) ∈ R
  hnu : ∃ k t, m (Str.ofString "number") = some (.int k t)
  S0 : ∃ tw tm tl, SigIn R sc 0 (part ns 0 30 + 1) tw (part ns 1 2 == 1) (part ns 0 30) tm 0 tl .none (.bool false)
  S1 : ∃ tw tm tl, SigIn R sc 1 1 tw false 0 tm 0 tl .none (.bool true)
@[reducible] noncomputable def g0 : PySem.Expr := by
  refine' (?f : ∀ (x0 x1 x2 x3 x4 x5 : PySem.Expr) tg ps pp, b11 = Stmt.Assign tg (.List [x0, x1, x2, x3, x4, x5] ps) pp → PySem.Expr) _ _ _ _ _ _ _ _ _ ?hE
  case hE => (delta b11; exact rfl)
  case f => exact fun x0 x1 x2 x3 x4 x5 _ _ _ _ => x0
@[reducible] noncomputable def g1 : PySem.Expr := by
  refine' (?f : ∀ (x0 x1 x2 x3 x4 x5 : PySem.Expr) tg ps pp, b11 = Stmt.Assign tg (.List [x0, x1, x2, x3, x4, x5] ps) pp → PySem.Expr) _ _ _ _ _ _ _ _ _ ?hE
  case hE => (delta b11; exact rfl)
  case f => exact fun x0 x1 x2 x3 x4 x5 _ _ _ _ => x1
@[reducible] noncomputable def g2 : PySem.Expr := by
  refine' (?f : ∀ (x0 x1 x2 x3 x4 x5 : PySem.Expr) tg ps pp, b11 = Stmt.Assign tg (.List [x0, x1, x2, x3, x4, x5] ps) pp → PySem.Expr) _ _ _ _ _ _ _ _ _ ?hE
  case hE => (delta b11; exact rfl)
  case f => exact fun x0 x1 x2 x3 x4 x5 _ _ _ _ => x2
@[reducible] noncomputable def g3 : PySem.Expr := by
  refine' (?f : ∀ (x0 x1 x2 x3 x4 x5 : PySem.Expr) tg ps pp, b11 = Stmt.Assign tg (.List [x0, x1, x2, x3, x4, x5] ps) pp → PySem.Expr) _ _ _ _ _ _ _ _ _ ?hE
  case hE => (delta b11; exact rfl)
  case f => exact fun x0 x1 x2 x3 x4 x5 _ _ _ _ => x3
@[reducible] noncomputable def g4 : PySem.Expr := by
  refine' (?f : ∀ (x0 x1 x2 x3 x4 x5 : PySem.Expr) tg ps pp, b11 = Stmt.Assign tg (.List [x0, x1, x2, x3, x4, x5] ps) pp → PySem.Expr) _ _ _ _ _ _ _ _ _ ?hE
  case hE => (delta b11; exact rfl)
  case f => exact fun x0 x1 x2 x3 x4 x5 _ _ _ _ => x4
@[reducible] noncomputable def g5 : PySem.Expr := by
  refine' (?f : ∀ (x0 x1 x2 x3 x4 x5 : PySem.Expr) tg ps pp, b11 = Stmt.Assign tg (.List [x0, x1, x2, x3, x4, x5] ps) pp → PySem.Expr) _ _ _ _ _ _ _ _ _ ?hE
  case hE => (delta b11; exact rfl)
  case f => exact fun x0 x1 x2 x3 x4 x5 _ _ _ _ => x5
theorem ev0 {w : World} {mean : ExcName → Option Value} {mg mb : Str → Option Value} {c2 : Addr × Obj} {oS : Obj} {R R1 : List (Addr × Obj)} {rows : List Value} {l : Addr} {vs : List Value} {ns : List Int} {sc : Addr}
  {a : Addr} {ccd : Value} {h₀ : Heap} {L : Addr} {m : Str → Option Value} {s : Shared} {Q E : Value → Shared → Prop}
  (B : Below callerA h₀ [] h₀) (F : Fr h₀ L s.heap m) (X : (hp w.params).In h₀) (N : News h₀ L s.heap (c2 :: (L + 1, oS) :: R1)) (T : Top vw (looseW vw [Str.ofString "GateloomError", Str.ofString "vec"]) mean mg mb h₀)
  (A : RowsAt h₀ R sc l vs ns oS m) (J : RowsIn w h₀ L a ccd sc R R1 rows)
  (hnext : ∀ q R' h' tk', Fr h₀ L h' m → News h₀ L h' (c2 :: (L + 1, oS) :: R') → RowsIn w h₀ L a ccd sc R R' (.ref q :: rows) → Q (.ref q) { s with heap := h', toks := tk' }) :
  wpAny (model PySem.Challenge.rw_pq0461_01.row.prog w) (callerA.deeper (lawE L a ccd)) (eval g0 (lawE L a ccd)) Q E s := by
  obtain ⟨t0, hm⟩ := A.hhi
  obtain ⟨_, _, _, S⟩ := A.S0
  have hS := A.hS; have hl := A.hl; have hi := A.hi; have hf := A.hf
  rw [← nameIn hm] at F; (try dsimp only at F)
  revert X; k_fill; intro X
  delta g0
  (try k_fold)
  (try dsimp only)
  k_steps
  (rename News _ _ _ _ => hN)
  (rename Fr _ _ _ _ => hF)
  rw [nameIn hm] at hF
  generalize hR : _ :: _ = R' at hN
  have mR : ∀ p ∈ R1, p ∈ R' := by rw [← hR]; intro p hp; repeat (first | exact hp | apply List.Mem.tail)
  exact hnext _ R' _ _ hF (cb_drop hN (List.forall_mem_cons.mpr ⟨(by rw [← hR]; repeat (first | exact .head _ | apply List.Mem.tail)), List.forall_mem_cons.mpr ⟨(by rw [← hR]; repeat (first | exact .head _ | apply List.Mem.tail)), fun q hq => hq⟩⟩)) (J.cons mR ⟨_, _, _, _, rfl, (by rw [← hR]; repeat (first | exact .head _ | apply List.Mem.tail)), row_sig B X T (by rw [← hR]; repeat (first | exact .head _ | apply List.Mem.tail)) (S.more fun p hp => mR p (J.1 p hp)) (by rw [← hR]; repeat (first | exact .head _ | apply List.Mem.tail)) (by rw [← hR]; repeat (first | exact .head _ | apply List.Mem.tail))⟩)
theorem ev1 {w : World} {mean : ExcName → Option Value} {mg mb : Str → Option Value} {c2 : Addr × Obj} {oS : Obj} {R R1 : List (Addr × Obj)} {rows : List Value} {l : Addr} {vs : List Value} {ns : List Int} {sc : Addr}
  {a : Addr} {ccd : Value} {h₀ : Heap} {L : Addr} {m : Str → Option Value} {s : Shared} {Q E : Value → Shared → Prop}
  (B : Below callerA h₀ [] h₀) (F : Fr h₀ L s.heap m) (X : (hp w.params).In h₀) (N : News h₀ L s.heap (c2 :: (L + 1, oS) :: R1)) (T : Top vw (looseW vw [Str.ofString "GateloomError", Str.ofString "vec"]) mean mg mb h₀)
  (A : RowsAt h₀ R sc l vs ns oS m) (J : RowsIn w h₀ L a ccd sc R R1 rows)
  (hnext : ∀ q R' h' tk', Fr h₀ L h' m → News h₀ L h' (c2 :: (L + 1, oS) :: R') → RowsIn w h₀ L a ccd sc R R' (.ref q :: rows) → Q (.ref q) { s with heap := h', toks := tk' }) :
  wpAny (model PySem.Challenge.rw_pq0461_01.row.prog w) (callerA.deeper (lawE L a ccd)) (eval g1 (lawE L a ccd)) Q E s := by
  obtain ⟨_, _, _, S⟩ := A.S1
  revert X; k_fill; intro X
  delta g1
  (try k_fold)
  (try dsimp only)
  k_steps
  (rename News _ _ _ _ => hN)
  (rename Fr _ _ _ _ => hF)
  generalize hR : _ :: _ = R' at hN
  have mR : ∀ p ∈ R1, p ∈ R' := by rw [← hR]; intro p hp; repeat (first | exact hp | apply List.Mem.tail)
  exact hnext _ R' _ _ hF (cb_drop hN (List.forall_mem_cons.mpr ⟨(by rw [← hR]; repeat (first | exact .head _ | apply List.Mem.tail)), List.forall_mem_cons.mpr ⟨(by rw [← hR]; repeat (first | exact .head _ | apply List.Mem.tail)), fun q hq => hq⟩⟩)) (J.cons mR ⟨_, _, _, _, rfl, (by rw [← hR]; repeat (first | exact .head _ | apply List.Mem.tail)), row_sig B X T (by rw [← hR]; repeat (first | exact .head _ | apply List.Mem.tail)) (S.more fun p hp => mR p (J.1 p hp)) (by rw [← hR]; repeat (first | exact .head _ | apply List.Mem.tail)) (by rw [← hR]; repeat (first | exact .head _ | apply List.Mem.tail))⟩)
theorem ev2 {w : World} {mean : ExcName → Option Value} {mg mb : Str → Option Value} {c2 : Addr × Obj} {oS : Obj} {R R1 : List (Addr × Obj)} {rows : List Value} {l : Addr} {vs : List Value} {ns : List Int} {sc : Addr}
  {a : Addr} {ccd : Value} {h₀ : Heap} {L : Addr} {m : Str → Option Value} {s : Shared} {Q E : Value → Shared → Prop}
  (B : Below callerA h₀ [] h₀) (F : Fr h₀ L s.heap m) (X : (hp w.params).In h₀) (N : News h₀ L s.heap (c2 :: (L + 1, oS) :: R1)) (T : Top vw (looseW vw [Str.ofString "GateloomError", Str.ofString "vec"]) mean mg mb h₀)
  (A : RowsAt h₀ R sc l vs ns oS m) (J : RowsIn w h₀ L a ccd sc R R1 rows)
  (hnext : ∀ q R' h' tk', Fr h₀ L h' m → News h₀ L h' (c2 :: (L + 1, oS) :: R') → RowsIn w h₀ L a ccd sc R R' (.ref q :: rows) → Q (.ref q) { s with heap := h', toks := tk' }) :
  wpAny (model PySem.Challenge.rw_pq0461_01.row.prog w) (callerA.deeper (lawE L a ccd)) (eval g2 (lawE L a ccd)) Q E s := by
  revert X; k_fill; intro X
  delta g2
  (try k_fold)
  (try dsimp only)
  k_steps
  (rename News _ _ _ _ => hN)
  (rename Fr _ _ _ _ => hF)
  generalize hR : _ :: _ = R' at hN
  have mR : ∀ p ∈ R1, p ∈ R' := by rw [← hR]; intro p hp; repeat (first | exact hp | apply List.Mem.tail)
  exact hnext _ R' _ _ hF (cb_drop hN (List.forall_mem_cons.mpr ⟨(by rw [← hR]; repeat (first | exact .head _ | apply List.Mem.tail)), List.forall_mem_cons.mpr ⟨(by rw [← hR]; repeat (first | exact .head _ | apply List.Mem.tail)), fun q hq => hq⟩⟩)) (J.cons mR ⟨_, _, _, _, rfl, (by rw [← hR]; repeat (first | exact .head _ | apply List.Mem.tail)), row_loc4 B X T (by rw [← hR]; repeat (first | exact .head _ | apply List.Mem.tail)) (by rw [← hR]; repeat (first | exact .head _ | apply List.Mem.tail)) (by rw [← hR]; repeat (first | exact .head _ | apply List.Mem.tail))⟩)
theorem ev3 {w : World} {mean : ExcName → Option Value} {mg mb : Str → Option Value} {c2 : Addr × Obj} {oS : Obj} {R R1 : List (Addr × Obj)} {rows : List Value} {l : Addr} {vs : List Value} {ns : List Int} {sc : Addr}
  {a : Addr} {ccd : Value} {h₀ : Heap} {L : Addr} {m : Str → Option Value} {s : Shared} {Q E : Value → Shared → Prop}
  (B : Below callerA h₀ [] h₀) (F : Fr h₀ L s.heap m) (X : (hp w.params).In h₀) (N : News h₀ L s.heap (c2 :: (L + 1, oS) :: R1)) (T : Top vw (looseW vw [Str.ofString "GateloomError", Str.ofString "vec"]) mean mg mb h₀)
  (A : RowsAt h₀ R sc l vs ns oS m) (J : RowsIn w h₀ L a ccd sc R R1 rows)
  (hnext : ∀ q R' h' tk', Fr h₀ L h' m → News h₀ L h' (c2 :: (L + 1, oS) :: R') → RowsIn w h₀ L a ccd sc R R' (.ref q :: rows) → Q (.ref q) { s with heap := h', toks := tk' }) :
  wpAny (model PySem.Challenge.rw_pq0461_01.row.prog w) (callerA.deeper (lawE L a ccd)) (eval g3 (lawE L a ccd)) Q E s := by
  revert X; k_fill; intro X
  delta g3
  (try k_fold)
  (try dsimp only)
  k_steps
  (rename News _ _ _ _ => hN)
  (rename Fr _ _ _ _ => hF)
  generalize hR : _ :: _ = R' at hN
  have mR : ∀ p ∈ R1, p ∈ R' := by rw [← hR]; intro p hp; repeat (first | exact hp | apply List.Mem.tail)
  exact hnext _ R' _ _ hF (cb_drop hN (List.forall_mem_cons.mpr ⟨(by rw [← hR]; repeat (first | exact .head _ | apply List.Mem.tail)), List.forall_mem_cons.mpr ⟨(by rw [← hR]; repeat (first | exact .head _ | apply List.Mem.tail)), fun q hq => hq⟩⟩)) (J.cons mR ⟨_, _, _, _, rfl, (by rw [← hR]; repeat (first | exact .head _ | apply List.Mem.tail)), row_loc6 B X T (by rw [← hR]; repeat (first | exact .head _ | apply List.Mem.tail)) (by rw [← hR]; repeat (first | exact .head _ | apply List.Mem.tail)) (by rw [← hR]; repeat (first | exact .head _ | apply List.Mem.tail))⟩)
theorem ev4 {w : World} {mean : ExcName → Option Value} {mg mb : Str → Option Value} {c2 : Addr × Obj} {oS : Obj} {R R1 : List (Addr × Obj)} {rows : List Value} {l : Addr} {vs : List Value} {ns : List Int} {sc : Addr}
  {a : Addr} {ccd : Value} {h₀ : Heap} {L : Addr} {m : Str → Option Value} {s : Shared} {Q E : Value → Shared → Prop}
  (B : Below callerA h₀ [] h₀) (F : Fr h₀ L s.heap m) (X : (hp w.params).In h₀) (N : News h₀ L s.heap (c2 :: (L + 1, oS) :: R1)) (T : Top vw (looseW vw [Str.ofString "GateloomError", Str.ofString "vec"]) mean mg mb h₀)
  (A : RowsAt h₀ R sc l vs ns oS m) (J : RowsIn w h₀ L a ccd sc R R1 rows)
  (hnext : ∀ q R' h' tk', Fr h₀ L h' m → News h₀ L h' (c2 :: (L + 1, oS) :: R') → RowsIn w h₀ L a ccd sc R R' (.ref q :: rows) → Q (.ref q) { s with heap := h', toks := tk' }) :
  wpAny (model PySem.Challenge.rw_pq0461_01.row.prog w) (callerA.deeper (lawE L a ccd)) (eval g4 (lawE L a ccd)) Q E s := by
  obtain ⟨v, av, bv, p0, p1, p2, hm, hv⟩ := A.hva
  have N := led_dup N (.tail _ (.tail _ (J.1 _ hv)))
  rw [← nameIn hm] at F; (try dsimp only at F)
  revert X; k_fill; intro X
  delta g4
  (try k_fold)
  (try dsimp only)
  k_steps
  (rename News _ _ _ _ => hN)
  (rename Fr _ _ _ _ => hF)
  rw [nameIn hm] at hF
  generalize hR : _ :: _ = R' at hN
  have mR : ∀ p ∈ R1, p ∈ R' := by rw [← hR]; intro p hp; repeat (first | exact hp | apply List.Mem.tail)
  exact hnext _ R' _ _ hF (cb_drop hN (List.forall_mem_cons.mpr ⟨(by rw [← hR]; repeat (first | exact .head _ | apply List.Mem.tail)), List.forall_mem_cons.mpr ⟨(by rw [← hR]; repeat (first | exact .head _ | apply List.Mem.tail)), fun q hq => hq⟩⟩)) (J.cons mR ⟨_, _, _, _, rfl, (by rw [← hR]; repeat (first | exact .head _ | apply List.Mem.tail)), row_par B X T (by rw [← hR]; repeat (first | exact .head _ | apply List.Mem.tail)) (mR _ (J.1 _ hv)) (by rw [← hR]; repeat (first | exact .head _ | apply List.Mem.tail)) (by rw [← hR]; repeat (first | exact .head _ | apply List.Mem.tail))⟩)
theorem ev5 {w : World} {mean : ExcName → Option Value} {mg mb : Str → Option Value} {c2 : Addr × Obj} {oS : Obj} {R R1 : List (Addr × Obj)} {rows : List Value} {l : Addr} {vs : List Value} {ns : List Int} {sc : Addr}
  {a : Addr} {ccd : Value} {h₀ : Heap} {L : Addr} {m : Str → Option Value} {s : Shared} {Q E : Value → Shared → Prop}
  (B : Below callerA h₀ [] h₀) (F : Fr h₀ L s.heap m) (X : (hp w.params).In h₀) (N : News h₀ L s.heap (c2 :: (L + 1, oS) :: R1)) (T : Top vw (looseW vw [Str.ofString "GateloomError", Str.ofString "vec"]) mean mg mb h₀)
  (A : RowsAt h₀ R sc l vs ns oS m) (J : RowsIn w h₀ L a ccd sc R R1 rows)
  (hnext : ∀ q R' h' tk', Fr h₀ L h' m → News h₀ L h' (c2 :: (L + 1, oS) :: R') → RowsIn w h₀ L a ccd sc R R' (.ref q :: rows) → Q (.ref q) { s with heap := h', toks := tk' }) :
  wpAny (model PySem.Challenge.rw_pq0461_01.row.prog w) (callerA.deeper (lawE L a ccd)) (eval g5 (lawE L a ccd)) Q E s := by
  obtain ⟨k, t, hm⟩ := A.hnu
  rw [← nameIn hm] at F; (try dsimp only at F)
  revert X; k_fill; intro X
  delta g5
  (try k_fold)
  (try dsimp only)
  k_steps
  (rename News _ _ _ _ => hN)
  (rename Fr _ _ _ _ => hF)
  rw [nameIn hm] at hF
  generalize hR : _ :: _ = R' at hN
  have mR : ∀ p ∈ R1, p ∈ R' := by rw [← hR]; intro p hp; repeat (first | exact hp | apply List.Mem.tail)
  exact hnext _ R' _ _ hF (cb_drop hN (List.forall_mem_cons.mpr ⟨(by rw [← hR]; repeat (first | exact .head _ | apply List.Mem.tail)), List.forall_mem_cons.mpr ⟨(by rw [← hR]; repeat (first | exact .head _ | apply List.Mem.tail)), fun q hq => hq⟩⟩)) (J.cons mR ⟨_, _, _, _, rfl, (by rw [← hR]; repeat (first | exact .head _ | apply List.Mem.tail)), row_gen B X T (by rw [← hR]; repeat (first | exact .head _ | apply List.Mem.tail)) (by rw [← hR]; repeat (first | exact .head _ | apply List.Mem.tail)) (by rw [← hR]; repeat (first | exact .head _ | apply List.Mem.tail))⟩)
theorem ev_row {w : World} {mean : ExcName → Option Value} {mg mb : Str → Option Value} {c2 : Addr × Obj} {oS : Obj} {R R1 : List (Addr × Obj)} {rows : List Value} {l : Addr} {vs : List Value} {ns : List Int} {sc : Addr}
  {a : Addr} {ccd : Value} {h₀ : Heap} {L : Addr} {m : Str → Option Value} {s : Shared} {Q E : Value → Shared → Prop} {g : PySem.Expr}
  (hg : g = g0 ∨ g = g1 ∨ g = g2 ∨ g = g3 ∨ g = g4 ∨ g = g5) (B : Below callerA h₀ [] h₀) (F : Fr h₀ L s.heap m) (X : (hp w.params).In h₀) (N : News h₀ L s.heap (c2 :: (L + 1, oS) :: R1)) (T : Top vw (looseW vw [Str.ofString "GateloomError", Str.ofString "vec"]) mean mg mb h₀)
  (A : RowsAt h₀ R sc l vs ns oS m) (J : RowsIn w h₀ L a ccd sc R R1 rows)
  (hnext : ∀ q R' h' tk', Fr h₀ L h' m → News h₀ L h' (c2 :: (L + 1, oS) :: R') → RowsIn w h₀ L a ccd sc R R' (.ref q :: rows) → Q (.ref q) { s with heap := h', toks := tk' }) :
  wpAny (model PySem.Challenge.rw_pq0461_01.row.prog w) (callerA.deeper (lawE L a ccd)) (eval g (lawE L a ccd)) Q E s := by
  rcases hg with rfl | rfl | rfl | rfl | rfl | rfl
  · with_reducible exact ev0 B F X N T A J hnext
  · with_reducible exact ev1 B F X N T A J hnext
  · with_reducible exact ev2 B F X N T A J hnext
  · with_reducible exact ev3 B F X N T A J hnext
  · with_reducible exact ev4 B F X N T A J hnext
  · with_reducible exact ev5 B F X N T A J hnext
theorem pc_c1 {w : World} {mean : ExcName → Option Value} {mg mb : Str → Option Value} {rest : List Stmt} {c2 : Addr × Obj} {oS : Obj} {R : List (Addr × Obj)} {l : Addr} {vs : List Value} {ns : List Int} {t0 tw0 tw1 tm0 tm1 tl0 tl1 : Tok} {sc : Addr}
  {a : Addr} {ccd : Value} {h₀ : Heap} {L : Addr} {m : Str → Option Value} {s : Shared} {Q : Flow → Shared → Prop} {E : Value → Shared → Prop}
  (B : Below callerA h₀ [] h₀) (F : Fr h₀ L s.heap m) (X : (hp w.params).In h₀) (N : News h₀ L s.heap (c2 :: (L + 1, oS) :: R)) (T : Top vw (looseW vw [Str.ofString "GateloomError", Str.ofString "vec"]) mean mg mb h₀)
  (hS : oS.data = .cell (some (.ref l))) (hl : h₀.IsList l vs.toArray) (hi : IntsAre vs ns) (hf : ns.length < 2 ^ 62)
  (hhi : m (Str.ofString "high") = some (.int (part ns 0 30) t0)) (hsc : m (Str.ofString "scope") = some (.ref sc))
  (S0 : SigIn R sc 0 (part ns 0 30 + 1) tw0 (part ns 1 2 == 1) (part ns 0 30) tm0 0 tl0 .none (.bool false)) (S1 : SigIn R sc 1 1 tw1 false 0 tm1 0 tl1 .none (.bool true))
  (hnext : ∀ R' h' tk' m', Fr h₀ L h' m' → News h₀ L h' (c2 :: (L + 1, oS) :: R') → (∀ p ∈ R, p ∈ R') → m' (Str.ofString "scope") = some (.ref sc) → RowsAt h₀ R' sc l vs ns oS m' →
    wpAny (model PySem.Challenge.rw_pq0461_01.row.prog w) (callerA.deeper (lawE L a ccd)) (execs rest (lawE L a ccd)) Q E { s with heap := h', toks := tk' }) :
  wpAny (model PySem.Challenge.rw_pq0461_01.row.prog w) (callerA.deeper (lawE L a ccd)) (execs (b9 :: b10 :: rest) (lawE L a ccd)) Q E s := by
  rw [← nameIn hhi, ← nameIn hsc] at F
  (try dsimp only at F)
  revert X; k_fill; intro X
  delta b9 b10
  k_steps
  (rename News _ _ _ _ => hN)
  generalize hR : _ :: _ = R' at hN
  have mR : ∀ p ∈ R, p ∈ R' := by rw [← hR]; intro p hp; repeat (first | exact hp | apply List.Mem.tail)
  exact hnext R' _ _ _ (by assumption) (cb_drop hN (List.forall_mem_cons.mpr ⟨(by rw [← hR]; repeat (first | exact .head _ | apply List.Mem.tail)), List.forall_mem_cons.mpr ⟨(by rw [← hR]; repeat (first | exact .head _ | apply List.Mem.tail)), fun q hq => hq⟩⟩)) mR rfl ⟨hS, hl, hi, hf, ⟨_, rfl⟩, ⟨_, _, _, _, _, _, rfl, by rw [← hR]; exact .head _⟩, ⟨_, _, rfl⟩, ⟨_, _, _, S0.more mR⟩, ⟨_, _, _, S1.more mR⟩⟩
local macro_rules | `(tactic| walk_at "eval Tuple") => `(tactic| (k_here; k_dflt (
  refine' Mine.ev_row (by with_reducible first | exact .inl rfl | exact .inr (.inl rfl) | exact .inr (.inr (.inl rfl)) | exact .inr (.inr (.inr (.inl rfl))) | exact .inr (.inr (.inr (.inr (.inl rfl)))) | exact .inr (.inr (.inr (.inr (.inr rfl))))) (by k_asm) (by k_asm) (by k_asm) (by k_asm) (by k_asm) (by assumption) (by assumption) ?_
  intros
  walk_at "mine end")))
theorem pc_c2 {w : World} {mean : ExcName → Option Value} {mg mb : Str → Option Value} {rest : List Stmt} {c2 : Addr × Obj} {oS : Obj} {R : List (Addr × Obj)} {l : Addr} {vs : List Value} {ns : List Int} {sc : Addr}
  {a : Addr} {ccd : Value} {h₀ : Heap} {L : Addr} {m : Str → Option Value} {s : Shared} {Q : Flow → Shared → Prop} {E : Value → Shared → Prop}
  (B : Below callerA h₀ [] h₀) (F : Fr h₀ L s.heap m) (X : (hp w.params).In h₀) (N : News h₀ L s.heap (c2 :: (L + 1, oS) :: R)) (T : Top vw (looseW vw [Str.ofString "GateloomError", Str.ofString "vec"]) mean mg mb h₀)
  (hsc : m (Str.ofString "scope") = some (.ref sc)) (A : RowsAt h₀ R sc l vs ns oS m)
  (hnext : ∀ R' rl q0 q1 q2 q3 q4 q5 n h' tk' m', Fr h₀ L h' m' → News h₀ L h' (c2 :: (L + 1, oS) :: R') → (rl, listOf #[.ref q0, .ref q1, .ref q2, .ref q3, .ref q4, .ref q5] n) ∈ R' → RowsIn w h₀ L a ccd sc R R' [.ref q5, .ref q4, .ref q3, .ref q2, .ref q1, .ref q0] →
    m' (Str.ofString "rows") = some (.ref rl) → m' (Str.ofString "scope") = some (.ref sc) → wpAny (model PySem.Challenge.rw_pq0461_01.row.prog w) (callerA.deeper (lawE L a ccd)) (execs rest (lawE L a ccd)) Q E { s with heap := h', toks := tk' }) :
  wpAny (model PySem.Challenge.rw_pq0461_01.row.prog w) (callerA.deeper (lawE L a ccd)) (execs (b11 :: rest) (lawE L a ccd)) Q E s := by
  have J : RowsIn w h₀ L a ccd sc R R [] := ⟨fun _ h => h, fun _ h => nomatch h⟩
  revert X; k_fill; intro X
  delta b11
  k_steps
  (rename News _ _ _ ((_, listOf _ _) :: _) => hN)
  (rename RowsIn _ _ _ _ _ _ _ _ [_, _, _, _, _, _] => hJ)
  generalize hR : _ :: _ = R' at hN
  exact hnext R' _ _ _ _ _ _ _ _ _ _ _ (by assumption) (cb_drop hN (List.forall_mem_cons.mpr ⟨(by rw [← hR]; repeat (first | exact .head _ | apply List.Mem.tail)), List.forall_mem_cons.mpr ⟨(by rw [← hR]; repeat (first | exact .head _ | apply List.Mem.tail)), fun q hq => hq⟩⟩)) (by rw [← hR]; repeat (first | exact .head _ | apply List.Mem.tail)) (hJ.more (by rw [← hR]; intro p hp; repeat (first | exact hp | apply List.Mem.tail))) (by exact rfl) (by exact hsc)
theorem pc_c {w : World} {mean : ExcName → Option Value} {mg mb : Str → Option Value} {rest : List Stmt} {c2 : Addr × Obj} {oS : Obj} {R : List (Addr × Obj)} {l : Addr} {vs : List Value} {ns : List Int} {t0 tw0 tw1 tm0 tm1 tl0 tl1 : Tok} {sc : Addr}
  {a : Addr} {ccd : Value} {h₀ : Heap} {L : Addr} {m : Str → Option Value} {s : Shared} {Q : Flow → Shared → Prop} {E : Value → Shared → Prop}
  (B : Below callerA h₀ [] h₀) (F : Fr h₀ L s.heap m) (X : (hp w.params).In h₀) (N : News h₀ L s.heap (c2 :: (L + 1, oS) :: R)) (T : Top vw (looseW vw [Str.ofString "GateloomError", Str.ofString "vec"]) mean mg mb h₀)
  (hS : oS.data = .cell (some (.ref l))) (hl : h₀.IsList l vs.toArray) (hi : IntsAre vs ns) (hf : ns.length < 2 ^ 62)
  (hhi : m (Str.ofString "high") = some (.int (part ns 0 30) t0)) (hsc : m (Str.ofString "scope") = some (.ref sc))
  (S0 : SigIn R sc 0 (part ns 0 30 + 1) tw0 (part ns 1 2 == 1) (part ns 0 30) tm0 0 tl0 .none (.bool false)) (S1 : SigIn R sc 1 1 tw1 false 0 tm1 0 tl1 .none (.bool true))
  (hnext : ∀ R' rl q0 q1 q2 q3 q4 q5 n h' tk' m', Fr h₀ L h' m' → News h₀ L h' (c2 :: (L + 1, oS) :: R') → (∀ p ∈ R, p ∈ R') → (rl, listOf #[.ref q0, .ref q1, .ref q2, .ref q3, .ref q4, .ref q5] n) ∈ R' → (∀ v ∈ [Value.ref q0, .ref q1, .ref q2, .ref q3, .ref q4, .ref q5], RowIn w h₀ L a ccd R' sc v) →
    m' (Str.ofString "rows") = some (.ref rl) → m' (Str.ofString "scope") = some (.ref sc) → wpAny (model PySem.Challenge.rw_pq0461_01.row.prog w) (callerA.deeper (lawE L a ccd)) (execs rest (lawE L a ccd)) Q E { s with heap := h', toks := tk' }) :
  wpAny (model PySem.Challenge.rw_pq0461_01.row.prog w) (callerA.deeper (lawE L a ccd)) (execs (b9 :: b10 :: b11 :: rest) (lawE L a ccd)) Q E s := by
  with_reducible refine pc_c1 B F X N T hS hl hi hf hhi hsc S0 S1 fun R1 h1 tk1 m1 F1 N1 k1 hs1 A => ?_
  with_reducible refine pc_c2 B F1 X N1 T hs1 A fun R' rl q0 q1 q2 q3 q4 q5 n h' tk' m' F' N' hrl J hr hs => ?_
  exact hnext R' rl q0 q1 q2 q3 q4 q5 n h' tk' m' F' N' (fun p hp => J.1 p (k1 p hp)) hrl (fun v hv => J.2 v (List.mem_reverse.mp hv)) hr hs
end
section
noncomputable def fTgt : Stmt → PySem.Expr
  | .For t _ _ _ _ => t
  | _ => .Constant .none 0 ⟨0, 0, 0, 0⟩
noncomputable def fLoop : Stmt → List Stmt
  | .For _ _ b _ _ => b
  | _ => []
theorem ans_use {w : World} {h₀ : Heap} {L a : Addr} {ccd : Value} {R led : List (Addr × Obj)} {f sc e : Addr} {d : PyData} {t : Tok} {m : Str → Option Value} {s : Shared} {Q E : Value → Shared → Prop}
    (A1 : ∀ t, Answers w h₀ L a ccd R f [.ref sc, .ref e, .int 7 t] d) (F : Fr h₀ L s.heap m) (N : News h₀ L s.heap led) (hR : ∀ p ∈ R, p ∈ led)
    (k : ∀ r o h' tk', Fr h₀ L h' m → News h₀ L h' ((r, o) :: led) → AllLt r led → Reads h' (.ref r) d [] → Q (.ref r) { s with heap := h', toks := tk' }) :
    wpAny (model PySem.Challenge.rw_pq0461_01.row.prog w) (callerA.deeper (lawE L a ccd)) (call (.ref f) [.ref sc, .ref e, .int 7 t]) Q E s := A1 t _ _ _ _ _ F N hR k
theorem ans_use0 {w : World} {h₀ : Heap} {L a : Addr} {ccd : Value} {R led : List (Addr × Obj)} {f sc e : Addr} {d : PyData} {m : Str → Option Value} {s : Shared} {Q E : Value → Shared → Prop}
    (A1 : Answers w h₀ L a ccd R f [.ref sc, .ref e, .none] d) (F : Fr h₀ L s.heap m) (N : News h₀ L s.heap led) (hR : ∀ p ∈ R, p ∈ led)
    (k : ∀ r o h' tk', Fr h₀ L h' m → News h₀ L h' ((r, o) :: led) → AllLt r led → Reads h' (.ref r) d [] → Q (.ref r) { s with heap := h', toks := tk' }) :
    wpAny (model PySem.Challenge.rw_pq0461_01.row.prog w) (callerA.deeper (lawE L a ccd)) (call (.ref f) [.ref sc, .ref e, .none]) Q E s := A1 _ _ _ _ _ F N hR k
theorem ans_useB {w : World} {h₀ : Heap} {L a : Addr} {ccd : Value} {R led : List (Addr × Obj)} {f sc e : Addr} {b : Bool} {m : Str → Option Value} {s : Shared} {Q E : Value → Shared → Prop}
    (A1 : AnswersB w h₀ L a ccd R f [.ref sc, .ref e] b) (F : Fr h₀ L s.heap m) (N : News h₀ L s.heap led) (hR : ∀ p ∈ R, p ∈ led)
    (k : ∀ h' tk', Fr h₀ L h' m → News h₀ L h' led → Q (.bool b) { s with heap := h', toks := tk' }) :
    wpAny (model PySem.Challenge.rw_pq0461_01.row.prog w) (callerA.deeper (lawE L a ccd)) (call (.ref f) [.ref sc, .ref e]) Q E s := A1 _ _ _ _ _ F N hR k
theorem ne_same {prog : PySem.Program} {w : World} {A : Around} {h₀ : Heap} {L : Addr} {R led : List (Addr × Obj)} {x y : Value} {d : PyData} {s : Shared} {Q E : Value → Shared → Prop}
    (r1 : Reads s.heap x d []) (r2 : ReadsIn h₀ L R y d) (N : News h₀ L s.heap led) (hR : ∀ p ∈ R, p ∈ led) (sh : SeqAt.shaped d = true) (he : PyData.eqv d d = true) (hu : A.units + 64 < cLine) (h : Q (.bool false) s) :
    wpAny (model prog w) A (compareOp .NotEq x y) Q E s := ne_dataH r1 (r2 _ _ N hR) sh sh hu (by rw [he]; exact h)
local macro_rules | `(tactic| walk_at "call ref") => `(tactic| (k_here; (with_reducible show wpAny _ _ (call (Value.ref _) [Value.ref _, Value.ref _, Value.int _ _]) _ _ _); k_dflt (
  refine' Mine.ans_use (by assumption) (by k_asm) (by k_asm) (by (intro p hp; repeat (first | exact hp | apply List.Mem.tail))) ?_
  intros
  walk_at "mine end")))
local macro_rules | `(tactic| walk_at "call ref") => `(tactic| (k_here; (with_reducible show wpAny _ _ (call (Value.ref _) [Value.ref _, Value.ref _, Value.none]) _ _ _); k_dflt (
  refine' Mine.ans_use0 (by assumption) (by k_asm) (by k_asm) (by (intro p hp; repeat (first | exact hp | apply List.Mem.tail))) ?_
  intros
  walk_at "mine end")))
local macro_rules | `(tactic| walk_at "call ref") => `(tactic| (k_here; (with_reducible show wpAny _ _ (call (Value.ref _) [Value.ref _, Value.ref _]) _ _ _); k_dflt (
  refine' Mine.ans_useB (by assumption) (by k_asm) (by k_asm) (by (intro p hp; repeat (first | exact hp | apply List.Mem.tail))) ?_
  intros
  walk_at "mine end")))
local macro_rules | `(tactic| walk_at "compareOp NotEq ref ref") => `(tactic| (k_here; k_dflt (
  refine' Mine.ne_same (by assumption) (by assumption) (by k_asm) (by (intro p hp; repeat (first | exact hp | apply List.Mem.tail))) (by assumption) (by assumption) (by ke_room) ?_)))
theorem row_body {w : World} {mean : ExcName → Option Value} {mg mb : Str → Option Value} {R : List (Addr × Obj)} {sc e f r q : Addr} {k1 k2 k3 : Addr × Obj} {dS dR : PyData}
  {a : Addr} {ccd : Value} {h₀ : Heap} {L : Addr} {m : Str → Option Value} {s : Shared} {Q : Flow → Shared → Prop} {E : Value → Shared → Prop}
  (B : Below callerA h₀ [] h₀) (F : Fr h₀ L s.heap m) (X : (hp w.params).In h₀) (N : News h₀ L s.heap ((q, { cls := .type "tuple", data := .seq #[.ref e, .ref f, .ref r] }) :: k1 :: k2 :: k3 :: R)) (T : Top vw (looseW vw [Str.ofString "GateloomError", Str.ofString "vec"]) mean mg mb h₀)
  (hsc : m (Str.ofString "scope") = some (.ref sc))
  (a1 : ∀ t, Answers w h₀ L a ccd R 111 [.ref sc, .ref e, .int 7 t] dS) (a2 : ReadsIn h₀ L R (.ref f) dS) (a3 : SeqAt.shaped dS = true) (a4 : PyData.eqv dS dS = true)
  (b1 : Answers w h₀ L a ccd R 118 [.ref sc, .ref e, .none] dR) (b2 : ReadsIn h₀ L R (.ref r) dR) (b3 : SeqAt.shaped dR = true) (b4 : PyData.eqv dR dR = true)
  (c1 : AnswersB w h₀ L a ccd R 104 [.ref sc, .ref e] false)
  (hnext : ∀ h' tk' m', Fr h₀ L h' m' → News h₀ L h' (k1 :: k2 :: k3 :: R) → m' (Str.ofString "scope") = some (.ref sc) → Q .next { s with heap := h', toks := tk' }) :
  wpAny (model PySem.Challenge.rw_pq0461_01.row.prog w) (callerA.deeper (lawE L a ccd)) (assign (fTgt b12) (lawE L a ccd) (.ref q)) (fun _ s₂ => wpAny (model PySem.Challenge.rw_pq0461_01.row.prog w) (callerA.deeper (lawE L a ccd)) (execs (fLoop b12) (lawE L a ccd)) Q E s₂) E s := by
  revert X; k_fill; intro X
  rw [← nameIn hsc] at F
  (try dsimp only at F)
  delta b12
  dsimp only [fTgt, fLoop]
  k_steps
  (rename News _ _ _ _ => hN)
  exact hnext _ _ _ (by assumption) (cb_drop hN (by intro p hp; repeat (first | exact hp | apply List.Mem.tail))) rfl
theorem rows_rest {w : World} {mean : ExcName → Option Value} {mg mb : Str → Option Value} {R : List (Addr × Obj)} {sc I ax : Addr} {lo : Obj} {c2 cS : Addr × Obj}
  {a : Addr} {ccd : Value} {h₀ : Heap} {L : Addr} {s : Shared} {Q : Flow → Shared → Prop} {E : Value → Shared → Prop}
  (B : Below callerA h₀ [] h₀) (X : (hp w.params).In h₀) (T : Top vw (looseW vw [Str.ofString "GateloomError", Str.ofString "vec"]) mean mg mb h₀)
  (hax : (ax, lo) ∈ c2 :: cS :: R) (hoff : ∀ p ∈ c2 :: cS :: R, p.1 < I)
  (hend : ∀ h' tk' m', Fr h₀ L h' m' → News h₀ L h' (c2 :: cS :: R) → m' (Str.ofString "scope") = some (.ref sc) → Q .next { s with heap := h', toks := tk' }) :
  ∀ (vs : List Value) (m : Str → Option Value) (news : List (Addr × Obj)), (∀ v ∈ vs, RowIn w h₀ L a ccd R sc v) → (∀ p ∈ c2 :: cS :: R, p ∈ news) → m (Str.ofString "scope") = some (.ref sc) →
    ItemsRest PySem.Challenge.rw_pq0461_01.row.prog w (callerA.deeper (lawE L a ccd)) E h₀ (lawE L a ccd) (fTgt b12) (fLoop b12) Q s [(I, "list_iterator")] [(ax, lo)] (vs.map .val) m news
  | [], m, news, _, hs, hm => ItemsRest.zero fun h tk F N => hend h tk m F (cb_drop N hs) hm
  | v :: vs, m, news, hv, hs, hm => by
    obtain ⟨q, e, f, r, rfl, hq, O⟩ := hv v (.head _)
    obtain ⟨⟨dS, a1, a2, a3, a4⟩, ⟨dR, b1, b2, b3, b4⟩, c1⟩ := O
    refine ItemsRest.val fun h tk F' => AllObj.cons fun o' hc' => AllObj.nil fun N' => ?_
    simp only [List.nil_append, List.cons_append] at N'
    refine row_body (k1 := (I, o')) (k2 := c2) (k3 := cS) (R := R) B F' X (cb_drop N' (List.forall_mem_cons.mpr ⟨.tail _ (hs _ (.tail _ (.tail _ hq))), List.forall_mem_cons.mpr ⟨.head _, fun p hp => .tail _ (hs p hp)⟩⟩)) T hm a1 a2 a3 a4 b1 b2 b3 b4 c1 fun h' tk' m' F2 N2 hm2 => ?_
    refine ⟨h', tk', m', c2 :: cS :: R, rfl, F2, N2, fun p hp q hq => ?_, ⟨hax, trivial⟩, rows_rest B X T hax hoff hend vs m' _ (fun v hv' => hv v (.tail _ hv')) (fun p hp => hp) hm2⟩
    rw [List.mem_singleton.mp hq]
    exact Nat.ne_of_lt (hoff p hp)
local macro_rules | `(tactic| walk_at "exec For Tuple Name cons nil") => `(tactic| (k_here; (rename Fr _ _ _ _ => lF'); (with_unfolding_all refine' For_turns lF' ?_ (by (intro _; rfl)) (by assumption); k_whole)))
local macro_rules | `(tactic| walk_at "pyIter ref") => `(tactic| (k_here; k_dflt ((rename Fr _ _ _ _ => lF'); refine' iter_listTurns (by exact rfl) lF' (by k_asm) (by exact .tail _ (.tail _ (by assumption))) (by exact rfl) (by exact rfl) ?_; intro I' l1; refine Mine.rows_rest (by k_asm) (by k_asm) (by k_asm) (.tail _ (.tail _ (by assumption))) l1 ?_ _ _ _ (by assumption) (fun p hp => hp) rfl; intro h' tk' m' F' N' hsc')))
theorem pc_d {w : World} {mean : ExcName → Option Value} {mg mb : Str → Option Value} {rest : List Stmt} {c2 cS : Addr × Obj} {R : List (Addr × Obj)} {sc rl q0 q1 q2 q3 q4 q5 : Addr} {n : Nat}
  {a : Addr} {ccd : Value} {h₀ : Heap} {L : Addr} {m : Str → Option Value} {s : Shared} {Q : Flow → Shared → Prop} {E : Value → Shared → Prop}
  (B : Below callerA h₀ [] h₀) (F : Fr h₀ L s.heap m) (X : (hp w.params).In h₀) (N : News h₀ L s.heap (c2 :: cS :: R)) (T : Top vw (looseW vw [Str.ofString "GateloomError", Str.ofString "vec"]) mean mg mb h₀)
  (hrl : (rl, listOf #[.ref q0, .ref q1, .ref q2, .ref q3, .ref q4, .ref q5] n) ∈ R) (hv : ∀ v ∈ [Value.ref q0, .ref q1, .ref q2, .ref q3, .ref q4, .ref q5], RowIn w h₀ L a ccd R sc v)
  (hrw : m (Str.ofString "rows") = some (.ref rl)) (hsc : m (Str.ofString "scope") = some (.ref sc))
  (hE : PassesOwn (model PySem.Challenge.rw_pq0461_01.row.prog w) (callerA.deeper (lawE L a ccd)) (lawE L a ccd) E)
  (hnext : ∀ h' tk' m', Fr h₀ L h' m' → News h₀ L h' (c2 :: cS :: R) → m' (Str.ofString "scope") = some (.ref sc) → wpAny (model PySem.Challenge.rw_pq0461_01.row.prog w) (callerA.deeper (lawE L a ccd)) (execs rest (lawE L a ccd)) Q E { s with heap := h', toks := tk' }) :
  wpAny (model PySem.Challenge.rw_pq0461_01.row.prog w) (callerA.deeper (lawE L a ccd)) (execs (b12 :: rest) (lawE L a ccd)) Q E s := by
  revert X; k_fill; intro X
  rw [← nameIn hrw, ← nameIn hsc] at F
  (try dsimp only at F)
  delta b12
  k_steps
  exact hnext _ _ _ (by assumption) (by assumption) (by assumption)
end
theorem dict_map (f : Array Value → Array Value) (o : Obj) : (Obj.mapFields f o).dict = o.dict := by
  obtain ⟨c, d, dt, sl⟩ := o
  cases dt <;> rfl
/-- an exception in flight whose attribute dict is told -/
structure FlX (base h : Heap) (l : List Env) (e : Addr) (cls : Value) (d : Addr) (fl : Value) : Prop where
  stays : base.StaysIn h
  fresh : base.get? e = none
  frames : h.FunFrames base l
  lies : ∃ oe vs T oT ts, h.get? e = some oe ∧ oe.cls = cls ∧ oe.dict = some d ∧ oe.data = .fields vs ∧ vs[1]? = some (.ref T) ∧ base.get? T = none ∧ T ≠ e ∧ h.get? T = some oT ∧ oT.data = .fields ts ∧ ts[3]? = some fl
section
variable {M : Model} {A : Around} {E : Value → Shared → Prop} {s : Shared} {base : Heap} {l : List Env} {e : Addr} {cls : Value} {d : Addr}
theorem setX {fl : Value} {Q : Unit → Shared → Prop} (x : FlX base s.heap l e cls d fl) (hQ : ∀ h', FlX base h' l e cls d .none → s.heap.UpToSlots h' → Q () { s with heap := h' }) : wpAny M A (setFlight (.ref e) none) Q E s := by
  obtain ⟨f1, f2, f3, oe, vs, T, oT, ts, he, hc, hdd, hd, h1, hn, hT, ho, hdT, h3⟩ := x
  have off : ∀ b, b ≠ T → (s.heap.update T (Obj.mapFields (·.setIfInBounds 3 ((none : Option Addr).elim Value.none fun f => rawInt f)))).get? b = s.heap.get? b := fun b hb => Heap.get?_update_other _ _ (Ne.symm hb)
  have nf : ∀ b o, s.heap.get? b = some o → (∀ vs, o.data ≠ .fields vs) → b ≠ T := fun b o hb k q => by
    subst q; rw [ho] at hb; cases hb; exact k ts hdT
  unfold setFlight
  refine wpAny_bind (wpAny_field he hd h1 ?_)
  rw [if_pos (by simp)]
  refine wpAny_setField ho hdT (Array.getElem?_eq_some_iff.mp h3).1 (hQ _ ⟨fun b o q => (off b fun z => by rw [z, hn] at q; cases q).trans (f1 b o q), f2, f3.of_keeps fun b o hb k => ⟨o, (off b (nf b o hb k)).trans hb, rfl⟩, ?_⟩ fun b o hb k => ⟨o.slots, (off b (nf b o hb k)).trans hb⟩)
  exact ⟨oe, vs, T, _, _, (off e (Ne.symm hT)).trans he, hc, hdd, hd, h1, hn, hT, Heap.get?_update_self _ ho (Obj.isFreed_of_fields (Obj.data_mapFields hdT _)), Obj.data_mapFields hdT _, by simp [(Array.getElem?_eq_some_iff.mp h3).1]⟩
theorem entryX {env : Env} {outer : List Env} {L : Addr} {oe : Obj} {vs : Array Value} {head : Value} {hadNext : Bool} {Q : Unit → Shared → Prop}
    (hfr : A.frames = some (env :: outer)) (hl : s.heap.FunFrames base (env :: outer)) (hf : env.frame = some L) (he : s.heap.get? e = some oe) (hkb : base.StaysIn s.heap) (hen : base.get? e = none) (hd : oe.data = .fields vs) (hsz : 1 < vs.size) (hdd : oe.dict = some d)
    (hQ : ∀ h', FlX base h' (env :: outer) e oe.cls d (rawInt L) → s.heap.UpToSlots h' → Q () { s with heap := h' }) :
    wpAny M A (do let a ← frameOf env; let pl ← entryPlaceOf L hadNext; let b ← EntryCells.newEntry head a .none (rawInt L) .none pl; setField (.ref e) 1 b) Q E s := by
  have hene : e ∉ (env :: outer).filterMap (·.frame) := fun hm => by
    obtain ⟨_, o, ho, hnf⟩ := hl.mem hm
    rw [he] at ho; cases ho; exact hnf vs hd
  refine wpAny_bind (wpAny_frameOf_fun hfr hl hf fun h₁ hs₁ => wpAny_bind (wpAny_entryPlaceOf fun pl hpl => ?_))
  unfold EntryCells.newEntry newFields
  refine wpAny_bind (wpAny_newObj_type ?_ (hpl.sizeOk5 _ _ _ _ _))
  have he₁ : h₁.get? e = some oe := (hs₁.2.1 e hene).trans he
  have kb : base.StaysIn h₁ := fun b o q => (hs₁.2.1 b fun hm => by rw [(hl.mem hm).1] at q; cases q).trans (hkb b o q)
  generalize htb : ({ cls := .type "traceback", dict := none, data := .fields ([head, .ref L, .none, rawInt L, .none] ++ (if pl.isEmpty then List.replicate 6 Value.none else pl)).toArray } : Obj) = tb
  have htd : tb.data = .fields ([head, .ref L, .none, rawInt L, .none] ++ (if pl.isEmpty then List.replicate 6 Value.none else pl)).toArray := by rw [← htb]
  have htf : tb.isFreed = false := by rw [← htb]; rfl
  have he₂ := Heap.get?_push_of_some (h := h₁) tb he₁
  have hTe : h₁.objs.size ≠ e := Nat.ne_of_gt (Heap.lt_size he₁)
  have hd₃ := Obj.data_mapFields hd (·.setIfInBounds 1 (Value.ref h₁.objs.size))
  refine wpAny_setField he₂ hd hsz (hQ _ ?_ ?_)
  · refine ⟨fun b o q => ?_, hen, hl.of_keeps fun b o hb k => ?_, ?_⟩
    · rw [Heap.get?_update_other _ _ (Ne.symm fun z => by rw [z, hen] at q; cases q)]
      exact Heap.get?_push_of_some _ (kb b o q)
    · obtain ⟨sl, hs⟩ := hs₁.2.2 b o hb
      refine ⟨_, (Heap.get?_update_other _ _ (Ne.symm fun z => ?_)).trans (Heap.get?_push_of_some _ hs), rfl⟩
      subst z; rw [he] at hb; cases hb; exact k vs hd
    · exact ⟨_, _, h₁.objs.size, tb, _, Heap.get?_update_self _ he₂ (Obj.isFreed_of_fields hd₃), Obj.cls_mapFields _ _, (dict_map _ _).trans hdd, hd₃, by simp [hsz], kb.fresh, hTe,
        (Heap.get?_update_other _ _ (Ne.symm hTe)).trans (Heap.get?_push_size h₁ htf), htd, by first | (simp; done) | (rcases hpl with rfl | ⟨_, _, _, _, _, _, _, rfl⟩ <;> simp)⟩
  · intro b o hb k
    obtain ⟨sl, hs⟩ := hs₁.2.2 b o hb
    refine ⟨sl, (Heap.get?_update_other _ _ (Ne.symm fun z => ?_)).trans (Heap.get?_push_of_some _ hs)⟩
    subst z; rw [he] at hb; cases hb; exact k vs hd
theorem noteX_first {env : Env} {outer : List Env} {L : Addr} {oe : Obj} {vs : Array Value} {Q : Unit → Shared → Prop}
    (hfr : A.frames = some (env :: outer)) (hl : s.heap.FunFrames base (env :: outer)) (hf : env.frame = some L) (he : s.heap.get? e = some oe) (hkb : base.StaysIn s.heap) (hen : base.get? e = none) (hd : oe.data = .fields vs) (h1 : vs[1]? = some .none) (hdd : oe.dict = some d)
    (hQ : ∀ h', FlX base h' (env :: outer) e oe.cls d (rawInt L) → s.heap.UpToSlots h' → Q () { s with heap := h' }) : wpAny M A (noteFrame (.ref e) env) Q E s := by
  unfold noteFrame
  simp only [hf]
  refine wpAny_bind (wpAny_field he hd h1 ?_)
  rw [if_neg (by decide)]
  exact entryX hfr hl hf he hkb hen hd (Array.getElem?_eq_some_iff.mp h1).1 hdd hQ
theorem noteX_next {env : Env} {outer : List Env} {L : Addr} {Q : Unit → Shared → Prop} (hfr : A.frames = some (env :: outer)) (hf : env.frame = some L) (x : FlX base s.heap (env :: outer) e cls d .none)
    (hQ : ∀ h', FlX base h' (env :: outer) e cls d (rawInt L) → s.heap.UpToSlots h' → Q () { s with heap := h' }) : wpAny M A (noteFrame (.ref e) env) Q E s := by
  obtain ⟨f1, f2, f3, oe, vs, T, oT, ts, he, hc, hdd, hd, h1, hn, hT, ho, hdT, h3⟩ := x
  subst hc
  have off : ∀ b, b ≠ T → (s.heap.update T (Obj.mapFields (·.setIfInBounds 3 Value.none))).get? b = s.heap.get? b := fun b hb => Heap.get?_update_other _ _ (Ne.symm hb)
  have nf : ∀ b o, s.heap.get? b = some o → (∀ vs, o.data ≠ .fields vs) → b ≠ T := fun b o hb k q => by
    subst q; rw [ho] at hb; cases hb; exact k ts hdT
  unfold noteFrame
  simp only [hf]
  refine wpAny_bind (wpAny_field he hd h1 ?_)
  rw [if_pos (by simp)]
  refine wpAny_bind (wpAny_field ho hdT h3 ?_)
  rw [if_neg (by simp [rawInt])]
  refine wpAny_bind (wpAny_setField ho hdT (Array.getElem?_eq_some_iff.mp h3).1 ?_)
  refine entryX hfr (f3.of_keeps fun b o hb k => ⟨o, (off b (nf b o hb k)).trans hb, rfl⟩) hf ((off e (Ne.symm hT)).trans he) (fun b o q => (off b fun z => by rw [z, hn] at q; cases q).trans (f1 b o q)) f2 hd (Array.getElem?_eq_some_iff.mp h1).1 hdd fun h' y1 y2 => hQ h' y1 fun b o hb k => ?_
  exact y2 b o ((off b (nf b o hb k)).trans hb) k
end
noncomputable def RaisedX (base G : Heap) (l : List Env) (e : Addr) (cls : Value) (d : Addr) (news : List (Addr × Obj)) (h : Heap) : Prop :=
  ∃ B, base.StaysIn B ∧ (∀ b o, G.get? b = some o → b ∉ l.filterMap (·.frame) → B.get? b = some o) ∧ (∀ q ∈ news, B.get? q.1 = some q.2 ∧ G.get? q.1 = none ∧ base.get? q.1 = none) ∧ FlX B h l e cls d .none
/-- the object of an exception that its maker has just handed on -/
abbrev excO (C t : Addr) (od : Option Addr) : Obj := { cls := .ref C, dict := od, data := .fields #[.ref t, .none, .none, .none, .bool false, .none] }
section
variable {M : Model} {A : Around} {E : Value → Shared → Prop} {s' : Shared} {base g : Heap} {outer : List Env} {L a e t C d : Addr} {m : Str → Option Value} {name : Str} {scope : PySem.Scope} {cd : Value} {Q : Unit → Shared → Prop} {news : List (Addr × Obj)}
theorem leaveX (K : Below A base outer g) (F : Fr g L s'.heap m) (N : News g L s'.heap ((e, excO C t (some d)) :: news)) (hne : ∀ p ∈ news, p.1 ≠ e)
    (hQ : ∀ h', RaisedX base g outer e (.ref C) d news h' → g.UpToSlots h' → Q () { s' with heap := h' }) (hk : scope.kind = .function := by rfl) :
    wpAny M (A.deeper (envOf name scope L a cd)) (leaving (envOf name scope L a cd) (.ref e)) Q E s' := by
  have K' := K.push (name := name) (a := a) (cd := cd) F hk
  have ne := N _ (.head _)
  have nb : base.get? e = none := fresh_of_stays K.stays ne.2.2
  have hin : ∀ env ∈ (envOf name scope L a cd :: outer), ∀ b, env.frame = some b → b ∈ e :: (envOf name scope L a cd :: outer).filterMap (·.frame) := fun env he b hb => .tail _ (List.mem_filterMap.mpr ⟨env, he, hb⟩)
  have st : base.StaysIn (hideAll s'.heap (e :: (envOf name scope L a cd :: outer).filterMap (·.frame))) := fun b o q => hideAll_get _ (K'.stays b o q) fun hm => by
    rcases List.mem_cons.mp hm with rfl | hm
    · rw [nb] at q; cases q
    · rw [(K'.frames.mem hm).1] at q; cases q
  have sg : ∀ b o, g.get? b = some o → b ∉ outer.filterMap (·.frame) → (hideAll s'.heap (e :: (envOf name scope L a cd :: outer).filterMap (·.frame))).get? b = some o := fun b o q nm => hideAll_get _ (F.keep b o q) fun hm => by
    rcases List.mem_cons.mp hm with rfl | hm
    · rw [ne.2.2] at q; cases q
    · rcases kts_mem hm with z | z
      · rw [z, kts_self F] at q
        cases q
      · exact nm z
  have hl : ∀ q ∈ news, (hideAll s'.heap (e :: (envOf name scope L a cd :: outer).filterMap (·.frame))).get? q.1 = some q.2 ∧ g.get? q.1 = none ∧ base.get? q.1 = none := fun q hq => by
    have Nq := N q (.tail _ hq)
    refine ⟨hideAll_get _ Nq.1 fun hm => ?_, Nq.2.2, fresh_of_stays K.stays Nq.2.2⟩
    rcases List.mem_cons.mp hm with z | hm
    · exact hne q hq z
    · obtain ⟨env, he, hf⟩ := List.mem_filterMap.mp hm
      rcases List.mem_cons.mp he with rfl | he
      · exact Nq.2.1 (Option.some.inj hf).symm
      · obtain ⟨o, ho, _⟩ := (K.frames.mem (List.mem_filterMap.mpr ⟨env, he, hf⟩)).2
        rw [Nq.2.2] at ho; cases ho
  unfold leaving
  refine wpAny_bind (noteX_first K'.stack (funFrames_hide K'.frames hin) rfl ne.1 (fun b o q => of_hideAll _ q) (hideAll_none _ (.head _)) rfl rfl rfl fun h1 x1 u1 => ?_)
  exact setX x1 fun h2 x2 u2 => hQ h2 ⟨_, st, sg, hl, x2.stays, x2.fresh, x2.frames.2.2, x2.lies⟩ ((Heap.UpToSlots.of_keeps F.keep).trans (u1.trans u2))
end
section
variable {prog : Program} {w : World} {A₀ : Around} {E : Value → Shared → Prop} {s' : Shared} {base g G : Heap} {outer : List Env} {L a e C d : Addr} {m : Str → Option Value} {name : Str} {scope : PySem.Scope} {cd : Value}
  {n : Str} {b₀ : Stmt} {suite : List Stmt} {pos np : Pos} {rest : List ExceptHandler} {Q : Flow → Shared → Prop} {news : List (Addr × Obj)} {KF : Frag}
  {p : Program} {loose : List Str} {mean : ExcName → Option Value} {mg mb : Str → Option Value} {x : Str}
theorem caughtX (R : RaisedX base G (envOf name scope L a cd :: outer) e (.ref C) d news s'.heap) (F : Fr g L G m) (K : Below A₀ base outer g) (hsm : G.UpToSlots s'.heap) (XB : KF.In base) (TB : Top p loose mean mg mb base)
    (D : KtsDicts (outer.filterMap (·.frame)) g) (q : ktsIn KF C "Exception" = true) (ex : nsIn KF mainGlobals x = some (some (.ref C)))
    (k : ∀ h' g' tk oe ws, KtsTurn (outer.filterMap (·.frame)) g g' → Fr g' L h' (fun y => if y = n then some (.ref e) else m y) → News g' L h' ((e, oe) :: news) → oe.cls = .ref C → oe.dict = some d → oe.data = .fields ws → Below A₀ base outer g' → KF.In g' → Top p loose mean mg mb g' → KtsDicts (outer.filterMap (·.frame)) g' →
      wpAny (model prog w) ((A₀.deeper (envOf name scope L a cd)).mark (some (.ref e))) (execs (b₀ :: suite) (envOf name scope L a cd))
        (fun f s₄ => wpAny (model prog w) (A₀.deeper (envOf name scope L a cd)) (do bindName (envOf name scope L a cd) n .none; unbindBehindTheSuite (envOf name scope L a cd) n pos) (fun _ s₅ => Q f s₅) E s₄)
        (AsSuiteRaised (model prog w) ((A₀.deeper (envOf name scope L a cd)).mark (some (.ref e))) (envOf name scope L a cd) n pos (notedBy (model prog w) ((A₀.deeper (envOf name scope L a cd)).mark (some (.ref e))) (envOf name scope L a cd) (cameBackBy (model prog w) (A₀.deeper (envOf name scope L a cd)) (envOf name scope L a cd) E)))
        { s' with heap := h', toks := tk })
    (hk : scope.kind = .function := by rfl) (hlo : (envOf name scope L a cd).kindOf n = some .local := by rfl) (hx : (envOf name scope L a cd).kindOf x = some .globalImplicit := by rfl) (hd : (x == ("__debug__" : Str)) = false := by decide) :
    wpAny (model prog w) (A₀.deeper (envOf name scope L a cd)) (noteFrame (.ref e) (envOf name scope L a cd))
      (fun _ s₂ => wpAny (model prog w) (A₀.deeper (envOf name scope L a cd)) (setFlight (.ref e) none) (fun _ s₃ =>
        wpAny (model prog w) (A₀.deeper (envOf name scope L a cd)) (handleBy (.ref e) (envOf name scope L a cd) (.ExceptHandler (some (.Name x np)) (some n) (b₀ :: suite) pos :: rest)) Q E s₃) E s₂) E s' := by
  obtain ⟨B, hB, hBG, hl, fl⟩ := R
  have hL : B.get? L = none := by
    obtain ⟨_, ⟨L', _, hf, hn', _⟩, _⟩ := fl.frames
    obtain rfl : L = L' := Option.some.inj hf
    exact hn'
  refine noteX_next (Around.frames_deeper K.stack) rfl fl fun h₄ x4 u4 => ?_
  refine setX x4 fun h₅ x5 u5 => ?_
  obtain ⟨g₅, T₅, F₅, K₅⟩ := kts_ground K F hBG x5.stays (hsm.trans (u4.trans u5))
  have X₅ : KF.In g₅ := XB.keeps K₅.stays
  obtain ⟨nm, q', N, bs, bm, hdct, sn, sub, ab, col, dd, k0, k1, k2, k3, k5, newId, hC, hbase, -⟩ := kts_cls X₅ q
  have hC₅ := F₅.keep _ _ hC
  obtain ⟨ob, vs, _, _, _, hob, hobc, hobd, hobf, -⟩ := x5.lies
  refine wpAny_handleBy_cons (codeAny_handlers_test (name_K F₅ X₅ (topRead_of (TB.keeps K₅.stays)) ex ?_ hk hx hd)) (by intro q; cases q)
  refine wpAny_excMatches_sub_self hC₅ hob hobc hbase (codeAny_handlers_suite_as ?_)
  refine setX x5 fun h₆ x6 u6 => ?_
  have u := (hsm.trans (u4.trans u5)).trans u6
  obtain ⟨g₆, T₆, F₆, K₆⟩ := kts_ground K F hBG x6.stays u
  obtain ⟨oe, ws, _, _, _, hoe, hoec, hoeD, hoed, -⟩ := x6.lies
  have ne₆ : g₆.get? e = none := T₆.none_ _ (kts_fresh F hBG x6.fresh fun o ho m => by
    obtain ⟨_, o', ho', hd⟩ := K.frames.mem m
    rw [ho] at ho'
    cases ho'
    obtain ⟨sl, hs⟩ := u _ _ (F.keep _ _ ho) hd
    rw [hoe] at hs
    cases hs
    exact hd _ hoed)
  have Nl : News g₆ L h₆ news := fun q hq => ⟨x6.stays _ _ (hl q hq).1, (fun z => by have := (hl q hq).1; rw [z, hL] at this; cases this), T₆.none_ _ (kts_none F.keep (hl q hq).2.1)⟩
  have N₆ := News.more F₆ Nl hoe (fun es n q => by rw [hoed] at q; cases q) ne₆
  refine stN F₆ N₆ (fun h₇ F₇ N₇ => ?_) hk hlo
  exact k h₇ g₆ _ oe ws T₆ F₇ N₇ hoec hoeD hoed K₆ (XB.keeps K₆.stays) (TB.keeps K₆.stays) (D.turn T₆)
end
noncomputable def RaisX (C : Addr) (E : Value → Shared → Prop) (v : Value) (s₁ : Shared) : Prop := ∃ a t od, v = .ref a ∧ s₁.heap.get? a = some (excO C t od) ∧ (∃ K : Frag, K.In s₁.heap ∧ ktsIn K C "Exception" = true) ∧ E (.ref a) s₁
theorem Raise_X {M : Model} {A : Around} {E : Value → Shared → Prop} {s : Shared} {env : Env} {x : Expr} {pos : Pos} {C : Addr} {Q : Flow → Shared → Prop} (hh : A.handled = none)
    (h : wpAny M A (eval x env) (RaisX C E) E s) : wpAny M A (exec (.Raise (some x) none pos) env) Q E s := by
  show wpAny M A (do standAt pos; raiseStmt env (some (do let v ← eval x env; standAt pos; pure v)) none) Q E s
  refine wpAny_bind (wpAny_standAt ?_)
  unfold raiseStmt
  dsimp only
  refine wpAny_bind (wpAny_bind (wpAny_mono h (fun v s₁ h₁ => wpAny_bind (wpAny_standAt (wpAny_pure ?_))) fun _ _ x => x))
  obtain ⟨e, t, od, rfl, he, ⟨K, X, q⟩, hE⟩ := h₁
  obtain ⟨nm, q', N, bs, bm, hdct, sn, sub, ab, col, dd, k0, k1, k2, k3, k5, newId, hC, hbase, -⟩ := kts_cls X q
  have hcB : (Value.ref C :: bm).contains (.type "BaseException") = true := by rw [List.contains_cons, hbase, Bool.or_true]
  obtain ⟨hp, g, d, tk, os⟩ := s₁
  repeat (first | with_reducible refine wpAny_loadPart_at he ?_ | with_reducible refine wpAny_loadPart_at hC ?_ | (with_reducible refine wpAny_isSubtype_exc hC ?_; rw [hcB]) | wp_step)
  exact wpAny_raiseNew_none hh hE
section
variable {prog : Program} {w : World} {A₀ A : Around} {s : Shared} {base h₀ : Heap} {L : Addr} {m : Str → Option Value} {news : List (Addr × Obj)} {K : Frag} {p : Program} {loose : List Str} {mean : ExcName → Option Value} {mg mb : Str → Option Value}
    {R : Result → Shared → Prop} {name qual : Str} {params : Arguments} {body : List Stmt} {scope : PySem.Scope} {dV kV doc pm cdv ct oc : Value} {an od : Option Addr} {osl : Array (Option Value)} {f : Addr} {args : Args} {binds : List (Str × Value)}
/-- a def that catches, called from the outermost frame, which may hold cells -/
theorem code_defX {env : Env} (B : Below A₀ base [] h₀) (F : Fr h₀ L s.heap m) (X₀ : K.In h₀) (N : News h₀ L s.heap news) (T : Top p loose mean mg mb h₀) (hA : A.frames = some [env]) (hf : env.frame = some L) (hke : env.scope.kind ≠ .module)
    (ho : K.lookup f = some ⟨oc, od, .func (fnOf name qual params body scope dV kV doc pm an cdv ct), osl⟩) (hcd : codeIn K cdv qual = true) (hroom : A.depth < recursionLimit)
    (hbind : BindsTo s (fnOf name qual params body scope dV kV doc pm an cdv ct) args binds) (hloc : ∀ y ∈ binds, scope.names.lookup y.1 = some .local)
    (h : ∀ g L' h₁, Fr h₀ L g m → Fr g L' h₁ (fun y => binds.reverse.lookup y) → News g L' h₁ news → Below A base [env] g → K.In g → Top p loose mean mg mb g → KtsDicts ([env].filterMap (·.frame)) g →
      wpAny (model prog w) (A.deeper (envOf qual scope L' f cdv)) (execs body (envOf qual scope L' f cdv))
        (fun fl s' => LeaveS0 ([env].filterMap (·.frame)) h₀ L m g R (match fl with | .ret v => v | _ => .none) s')
        (fun e s' => wpAny (model prog w) (A.deeper (envOf qual scope L' f cdv)) (leaving (envOf qual scope L' f cdv) e) (fun _ s'' => R (.error e) s'') (fun e' s'' => R (.error e') s'') s')
        { s with heap := h₁, toks := s.toks + binds.length })
    (hco : scope.isCoroutine = false) (hgen : scope.isGenerator = false) (hk : scope.kind = .function)
    (hcell : ∀ x ∈ scope.names, x.2 ≠ .cell) : codeAny (model prog w) A (.call (.ref f) args) R s := by
  have X := X₀.keeps F.keep
  have nL₀ : h₀.get? L = none := kts_self F
  have hfs : [env].filterMap (·.frame) = [L] := by simp [List.filterMap, hf]
  have nm : ∀ b o, h₀.get? b = some o → b ∉ news.map (·.1) := fun b o e q => by
    obtain ⟨p, hp, rfl⟩ := List.mem_map.mp q
    rw [(N p hp).2.2] at e; cases e
  have st : h₀.StaysIn (hideAll s.heap (news.map (·.1))) := fun b o e => hideAll_get _ (F.keep b o e) (nm b o e)
  obtain ⟨oL, es, ep, hL, hLd, hLk, hLf⟩ := F.ns
  have nL : L ∉ news.map (·.1) := fun q => by
    obtain ⟨p, hp, e⟩ := List.mem_map.mp q
    exact (N p hp).2.1 e
  have hLg := hideAll_get (news.map (·.1)) hL nL
  refine codeAny_call_def (fd := fnOf name qual params body scope dV kV doc pm an cdv ct) (body := body) (binds := binds) hroom (X _ _ ho) rfl (T.nolimit.keeps F.keep) (codeRec_of X hcd) rfl hbind hcell hloc (fun h₁ hns hk₁ => ?_) hco hgen hk
  refine wpAny_mono (h _ s.heap.objs.size h₁ ⟨⟨oL, es, ep, hLg, hLd, hLk, hLf⟩, st, F.above⟩ ⟨hns, fun b o e => hk₁ b o (of_hideAll _ e), Nat.le_of_eq (hideAll_size _ _)⟩
    (fun p hp => ⟨hk₁ _ _ (N p hp).1, Nat.ne_of_lt (Heap.lt_size (N p hp).1), hideAll_none _ (List.mem_map_of_mem hp)⟩)
    ⟨hA, fun b o e => st b o (B.stays b o e), hke, ⟨L, oL, hf, fresh_of_stays B.stays nL₀, hLg, fun vs q => by rw [hLd] at q; cases q⟩, trivial⟩ (X₀.keeps st) (T.keeps st) (fun b hb => by
      rw [hfs] at hb
      rw [List.mem_singleton.mp hb]
      exact ⟨oL, es, ep, hLg, hLd⟩)) (fun fl s' hl => ?_) fun _ _ y => y
  rw [hfs] at hl
  obtain ⟨g', L', m', news', T', F', N', k⟩ := hl
  obtain ⟨sl, hs⟩ := T'.up hLg
  refine k ⟨⟨_, es, ep, F'.keep _ _ hs, hLd, hLk, hLf⟩, fun b o e => F'.keep b o (T'.other b o (st b o e) (fun q => by
    rw [List.mem_singleton.mp q, nL₀] at e
    cases e)), F.above⟩ fun p hp => ⟨(N' p hp).1, fun q => ?_, ?_⟩
  · have := (N' p hp).2.2; rw [q, hs] at this; cases this
  · cases q : h₀.get? p.1 with
    | none => rfl
    | some o =>
      obtain ⟨sl', hs'⟩ := T'.up (st _ _ q)
      have := (N' p hp).2.2
      rw [hs'] at this
      cases this
end
structure ExcCls (K : Frag) (C : Addr) : Prop where
  sa : findIn K (.ref C) "__setattr__" = some (some (.builtin "object.__setattr__"))
  ga : findIn K (.ref C) "__getattribute__" = some (some (.builtin "BaseException.__getattribute__"))
  gn : findIn K (.ref C) "__getattr__" = some none
  cls : ∃ cd, clsIn K C = some cd ∧ cd.hasDict = true ∧ cd.mro.isEmpty = false ∧ cd.mro.contains (.type "object") = true ∧ cd.mro.contains (.type "BaseException") = true ∧ ∀ x, refuseLoop x "__setattr__" cd.mro = pure ()
section
open PySem.Builtin PySem.Builtin.ObjectAttr PySem.Calls
variable {prog : Program} {w : World} {A : Around} {E : Value → Shared → Prop} {s : Shared} {K : Frag} {x C dx L : Addr} {h₀ : Heap} {m : Str → Option Value} {news : List (Addr × Obj)} {ox : Obj} {es es' : List DictEntry} {n n' : Nat} {name : Str} {v : Value}
theorem store_in {od od' : Obj} {tk : Tok} {pre post : List (Addr × Obj)} {Q : Fin → Shared → Prop} (F : Fr h₀ L s.heap m) (N : News h₀ L s.heap (pre ++ (dx, od) :: post))
    (hl : (lookIn name od).isSome = true) (h1 : ∀ p ∈ pre, p.1 ≠ dx) (h2 : ∀ p ∈ post, p.1 ≠ dx)
    (e : Obj.putName name (PyData.keyHash w.params name) (.str name s.toks) v od = od') (e' : od'.data = .dict es.toArray n) (hz : es.length ≤ 1000)
    (h : ∀ h', Fr h₀ L h' m → News h₀ L h' (pre ++ (dx, od') :: post) → Q (.done (.ret .none)) { s with heap := h', toks := s.toks + 1 }) :
    wpAny (model prog w) A (storeInDict dx (.str name tk) name v) Q E s := by
  obtain ⟨U1, U2⟩ := news_upd (f := Obj.putName name (PyData.keyHash w.params name) (.str name s.toks) v) F N h1 h2 e (by obtain ⟨_, _, dd, _⟩ := od'; cases e'; rfl)
  have D := (N (dx, od) (by simp)).1
  have D' := (U2 (dx, od') (by simp)).1
  unfold storeInDict newKeyGuard
  refine wpAny_bind (wpAny_pure (wpAny_bind ?_))
  unfold nsSet
  refine wpAny_bind (wpAny_bind (wpAny_askSetting (wpAny_pure (wpAny_bind (wpAny_mkText (wpAny_bind (wpAny_loadPart D ?_)))))))
  unfold lookIn at hl
  split at hl
  · rename_i es₀ n₀ q
    rw [q]
    dsimp only
    have c : (!es₀.any (·.key.isStr name) && es₀.any (·.refKey)) = false := by
      rw [← Array.any_toList, ← Array.any_toList]
      split at hl
      · rename_i en he
        rw [List.any_eq_true.mpr ⟨en, List.mem_of_find?_eq_some he, List.find?_some he⟩]; rfl
      · split at hl
        · cases hl
        · rename_i z; rw [Bool.not_eq_true] at z; rw [z, Bool.and_false]
    rw [aRefKeyMayBeTheName_at, c]
    refine wpAny_updatePart D ?_
    refine wpAny_bind (wpAny_lookBehind D' (by rw [e']; exact pastItsLine_dict (by rw [List.size_toArray, sizeLine_eq]; omega)) ?_)
    exact wpAny_pure (h _ U1 U2)
  · cases hl
theorem osaX {od : Option Obj} {tk : Tok} {R : Result → Shared → Prop} (X : K.In s.heap) (I : InstAt s.heap x ox C od) (H : ExcCls K C) (ht : takerIn K C name = some none)
    (h : ∀ b, wpAny (model prog w) A.in1 (storeInOwnDict (.ref x) (.ref C) (.str name tk) name v b)
      (fun fin s' => match fin with | .done f => R (.ok f) s' | .again c' => c'.quiet = true ∧ codeAny (model prog w) A c' R s') (fun e s' => R (.error e) s') s) :
    codeAny (model prog w) A (.call (.builtin "object.__setattr__") ⟨[.ref x, .str name tk, v], []⟩) R s := by
  have SF := PySem.F.store_object
  obtain ⟨cd, hc, -, ne, ho, -, hr⟩ := H.cls
  have sub : Looks (model prog w) s.heap (isInstance (.ref x) (.type "object")) true := I.type.andThen (looks_mroIn X (by unfold mroIn; rw [hc, Option.bind_some, if_neg (by rw [ne]; decide), ho]))
  refine codeAny_call_builtin SF.slot.plain SF.entry (@check_slot (model prog w) _ _ s "object.__setattr__" "object" "__setattr__" (.ref x) [.str name tk, v] [] _ SF.kind SF.split sub (SF.args (.ref x) (.str name tk) v) ?_)
  obtain ⟨attr, ha, hq⟩ := Option.bind_eq_some_iff.mp ht
  have hm : Looks (model prog w) s.heap (mroOf (.ref C)) cd.mro := (looks_clsIn X hc).andThen .now
  have L3 : Looks (model prog w) s.heap (storeTaker? attr) none := by
    cases attr with
    | none => exact .now
    | some a =>
      obtain ⟨b, hb, hq⟩ := Option.map_eq_some_iff.mp hq
      refine (looks_takesIn X hb).andThen ?_
      cases b <;> first | exact .now | cases hq
  rw [osa_eq, refuse_eq]
  refine wpAny_bind (wpAny_bind (I.type.here (wpAny_bind (hm.here ?_))))
  rw [hr]
  refine wpAny_pure (wpAny_bind (I.type.here (wpAny_bind ((looks_findIn X ha).here (wpAny_bind (L3.here ?_))))))
  exact h _
theorem setX_next {Q : Unit → Shared → Prop} {news' : List (Addr × Obj)} (F : Fr h₀ L s.heap m) (X₀ : K.In h₀) (N : News h₀ L s.heap news) (I : InstAt s.heap x ox C (some (dictOf es n))) (hd : ox.dict = some dx) (H : ExcCls K C)
    (ht : takerIn K C name = some none) (hl : (getL name es).isSome = true)
    (e : (putL name (PyData.keyHash w.params name) (.str name (s.toks + 1)) v es, putN name es n) = (es', n')) (U : Upd dx (dictOf es n) (dictOf es' n') news news') (hz : es'.length ≤ 1000)
    (h : ∀ h', Fr h₀ L h' m → News h₀ L h' news' → Q () { s with heap := h', toks := s.toks + 2 }) : wpAny (model prog w) A (setAttr (.ref x) name v) Q E s := by
  obtain ⟨pre, post, rfl, rfl, a, b⟩ := U.split
  obtain ⟨e1, e2⟩ := Prod.mk.inj e
  have X := X₀.keeps F.keep
  refine set_plain X I H.sa (osaX (s := { s with toks := s.toks + 1 }) X I H ht fun bb => ?_)
  obtain ⟨cd, hc, hd', -⟩ := H.cls
  obtain ⟨hx, hcl, hn, -⟩ := I
  obtain ⟨oc, odi, oda, osl⟩ := ox
  dsimp only at hcl hd
  subst hcl hd
  refine wpAny_bind (wpAny_pure (wpAny_bind (wpAny_bind (wpAny_loadPart hx (wpAny_bind (looks_clsIn (M := model prog w) X hc _ _ _ _ (fun _ _ e => e) ?_))))))
  rw [hd']
  refine wpAny_pure (a := some dx) ?_
  exact store_in (s := { s with toks := s.toks + 1 }) F N hl a b (by rw [putName_dict, e1, e2]) rfl hz fun h' F' N' => h h' F' N'
theorem setX_first {Q : Unit → Shared → Prop} {t : Addr} (F : Fr h₀ L s.heap m) (X₀ : K.In h₀) (N : News h₀ L s.heap ((x, excO C t none) :: news)) (hne : ∀ p ∈ news, p.1 ≠ x) (H : ExcCls K C) (ht : takerIn K C name = some none)
    (h : ∀ d h', Fr h₀ L h' m → News h₀ L h' ((d, dictOf [⟨PyData.keyHash w.params name, .str name (s.toks + 1), v⟩] 1) :: (x, excO C t (some d)) :: news) → (∀ p ∈ ((x, excO C t (some d)) : Addr × Obj) :: news, p.1 ≠ d) → Q () { s with heap := h', toks := s.toks + 2 }) :
    wpAny (model prog w) A (setAttr (.ref x) name v) Q E s := by
  have X := X₀.keeps F.keep
  have hx := (N _ (.head _)).1
  have I : InstAt s.heap x (excO C t none) C none := ⟨hx, rfl, rfl, trivial⟩
  refine set_plain X I H.sa (osaX (s := { s with toks := s.toks + 1 }) X I H ht fun bb => ?_)
  obtain ⟨cd, hc, hd', -⟩ := H.cls
  obtain ⟨hh, g, d, tk, os⟩ := s
  refine wpAny_bind (wpAny_pure (wpAny_bind (wpAny_bind (wpAny_loadPart hx (wpAny_bind (looks_clsIn (M := model prog w) X hc _ _ _ _ (fun _ _ e => e) ?_))))))
  rw [hd']
  have N1 := N.push F emptyDict
  have F1 := F.push emptyDict
  have lt : ∀ p ∈ (x, excO C t none) :: news, p.1 < hh.objs.size := fun p hp => Heap.lt_size (N p hp).1
  obtain ⟨F2, N2⟩ := news_upd (pre := [(hh.objs.size, emptyDict)]) (o := excO C t none) (o' := excO C t (some hh.objs.size)) (f := fun o => { o with dict := some hh.objs.size }) F1 N1 (by intro p hp; rw [List.mem_singleton.mp hp]; exact Nat.ne_of_gt (lt _ (.head _))) hne rfl rfl
  have hnd : ∀ p ∈ ((x, excO C t (some hh.objs.size)) : Addr × Obj) :: news, p.1 ≠ hh.objs.size := fun p hp => by
    rcases List.mem_cons.mp hp with rfl | hp
    · exact Nat.ne_of_lt (lt (x, excO C t none) (.head _))
    · exact Nat.ne_of_lt (lt _ (.tail _ hp))
  show wpAny _ _ (alloc emptyDict >>= _) _ _ _
  refine wpAny_bind (wpAny_alloc (wpAny_bind (wpAny_update (Heap.get?_push_of_some _ hx) (wpAny_pure ?_))))
  refine store_in (s := { heap := _, gens := g, drawn := d, toks := tk + 1, os := os }) (pre := []) (od := emptyDict) (od' := dictOf [⟨PyData.keyHash w.params name, .str name (tk + 1), v⟩] 1) F2 N2 rfl (fun _ q => nomatch q) hnd ?_ rfl (Nat.le_of_ble_eq_true rfl) fun h' F' N' => h _ h' F' N' hnd
  show Obj.putName _ _ _ _ (dictOf [] 0) = _
  rw [putName_dict]; rfl
end
section
open PySem.Builtin PySem.Builtin.ObjectAttr PySem.Calls
variable {prog : Program} {w : World} {A : Around} {E : Value → Shared → Prop} {s : Shared} {K : Frag} {x C dx L : Addr} {h₀ : Heap} {m : Str → Option Value} {news : List (Addr × Obj)} {ox : Obj} {es es' : List DictEntry} {n n' : Nat} {name : Str} {v : Value}
theorem getX {expr : Bool} {Q : Value → Shared → Prop} {attr : Option Value} (F : Fr h₀ L s.heap m) (X₀ : K.In h₀) (I : InstAt s.heap x ox C (some (dictOf es n))) (H : ExcCls K C) (hh : hasDictIn K C = true)
    (ha : findIn K (.ref C) name = some attr) (hn : noGet K attr = true) (hl : getL name es = some (some v)) (hv : handedIn v = true) (h : Q v { s with toks := s.toks + 1 }) :
    wpAny (model prog w) A (getAttr (.ref x) name expr) Q E s := by
  have X := X₀.keeps F.keep
  have hf := findObj_own (od := dictOf es n) hh ha hn hl
  obtain ⟨cd, hc, -, ne, -, hB, -⟩ := H.cls
  obtain ⟨hp, g, d, t, os⟩ := s
  have L0 := I.type (M := model prog w)
  have L1 := looks_findIn (M := model prog w) X H.ga
  have L2 := looks_findIn (M := model prog w) X H.gn
  have L3 := looks_find (M := model prog w) X I hf
  have hx2 : (Value.builtin "BaseException.__getattribute__" == Value.builtin "object.__getattribute__") = false := by decide +kernel
  have f3 := PySem.F.attrBase_Exception.ga.bind (.ref x)
  have sub : Looks (model prog w) hp (isInstance (.ref x) (.type "BaseException")) true := I.type.andThen (looks_mroIn X (by unfold mroIn; rw [hc, Option.bind_some, if_neg (by rw [ne]; decide), hB]))
  unfold getAttr getAttrBy
  refine wpAny_bind (wpAny_mkText (wpAny_holding (wpAny_bind (L0.at (wpAny_bind (L1.at ?_))))))
  show wpAny _ _ (if (onTheHeap (.ref C) && Value.builtin "BaseException.__getattribute__" == Value.builtin "object.__getattribute__") = true then _ else _) _ _ _
  rw [hx2, if_neg (by rw [Bool.and_false]; decide)]
  unfold getAttrByItsOwn hookBefore
  refine wpAny_bind ?_
  show wpAny _ _ (typeLookup (.ref C) "__getattr__") _ _ _
  refine L2.at (wpAny_bind (wpAny_attempt (wpAny_holding ?_)))
  have e0 : (expr && onTheHeap (Value.builtin "BaseException.__getattribute__")) = false := by cases expr <;> rfl
  unfold callGetattribute
  rw [e0, if_neg (by decide)]
  unfold boundAndCalled
  rw [f3]
  refine wpAny_bind (wpAny_pure ?_)
  refine wpAny_call (codeAny_call_builtin PySem.F.attrBase_Exception.ga.plain PySem.F.entry_bexc_ga (@check_slot (model prog w) _ _ _ "BaseException.__getattribute__" "BaseException" "__getattribute__" (.ref x) [.str name t] [] _ (by decide +kernel) (by decide +kernel) sub (PySem.F.args_bexc_ga _ _) ?_))
  unfold «object.__getattribute__»
  refine wpAny_bind (wpAny_pure (wpAny_bind (wpAny_pure (wpAny_bind (L0.at (wpAny_bind (L3.at ?_)))))))
  refine wpAny_pure ?_
  show wpAny _ _ (handedOut v) _ _ _
  rw [handedOut_of hv]; exact wpAny_pure h
end
section
variable {M : Model} {A : Around} {E : Value → Shared → Prop} {h : Heap} {g : Array GenState} {d : Drawn} {t : Nat} {os : OsState}
  {nm q : Str} {C N : Addr} {bs bm bmB : List Value} {hdct : Bool} {sn : List Str} {sub : List Value} {ab : Bool} {col : Option Bool} {dd : Option Addr} {k0 k1 k2 k3 k5 : Option Value} {B newId initId : String}
theorem check_newX (Fc : ExcBaseFacts B newId initId bmB) (hB : (Value.ref C :: bm).contains (.type B) = true) {rest : List Value} {Q : Unit → Shared → Prop} (hC : h.get? C = some (excClassObj nm q C N bs bm hdct sn sub ab col dd k0 k1 k2 k3 k5 newId))
    (hq : Q () ⟨h, g, d, t, os⟩) : wpAny M A (checkBuiltinCall newId ⟨.ref C :: rest, []⟩) Q E ⟨h, g, d, t, os⟩ := by
  have hstar := Fc.noStar
  simp only [checkBuiltinCall, Fc.newKind, Fc.newSplit, Fc.newRow]
  repeat (first | refine wpAny_loadPart_at hC ?_ | (refine wpAny_isSubtype_exc hC ?_; rw [hB]) | refine wpAny_staticBase_exc hC ?_ | refine wpAny_madeBy_exc hC ?_ | simp only [bne_self_eq_false, Bool.false_eq_true, if_false] | wp_step)
  exact hq
end
section
variable {prog : Program} {w : World} {A : Around} {R : Result → Shared → Prop} {h : Heap} {g : Array GenState} {d : Drawn} {t : Nat} {os : OsState}
  {nm q : Str} {C N : Addr} {bs bm bmB : List Value} {hdct : Bool} {sn : List Str} {sub : List Value} {ab : Bool} {col : Option Bool} {dd : Option Addr} {k0 k1 k2 k3 k5 : Option Value} {B newId initId : String}
theorem code_newX (Fc : ExcBaseFacts B newId initId bmB) (hcB : (Value.ref C :: bm).contains (.type B) = true) (hcA : (Value.ref C :: bm).contains (.type "AttributeError") = false) (hcN : (Value.ref C :: bm).contains (.type "NameError") = false)
    {rest : List Value} (hC : h.get? C = some (excClassObj nm q C N bs bm hdct sn sub ab col dd k0 k1 k2 k3 k5 newId))
    (hq : R (.ok (.ret (.ref (h.objs.size + 1)))) ⟨(h.push { cls := .type "tuple", data := .seq rest.toArray }).push (excO C h.objs.size none), g, d, t, os⟩) (hrest : rest.length ≤ sizeLine) :
    codeAny (model prog w) A (.builtin newId ⟨.ref C :: rest, []⟩) R ⟨h, g, d, t, os⟩ := by
  have hends := Fc.ends
  refine codeAny_builtinAt Fc.entry ?_
  unfold Builtin.«BaseException.__new__»
  refine PySem.wpAt_bind ?_
  show PySem.wpAt _ _ _ (stack >>= _) _ _ _
  refine PySem.wpAt_bind (PySem.wpAt_stack fun p below => PySem.wpAt_of_wpAny ?_)
  wp_walk
  refine PySem.wpAt_of_wpAny ?_
  rw [Fc.owner]
  repeat (first | with_reducible refine wpAny_madeHere_exc Fc.canon hC ?_ | with_reducible refine wpAny_loadPart_at hC ?_ | (with_reducible refine wpAny_isSubtype_exc hC ?_; first | rw [hcB] | rw [hcA] | rw [hcN]) | wp_step)
  show R _ _
  rw [Heap.size_push]
  exact hq
end
section
open PySem.Calls
variable {prog : Program} {w : World} {A : Around} {R : Result → Shared → Prop} {s : Shared} {K : Frag} {L : Addr} {h₀ : Heap} {m : Str → Option Value} {news : List (Addr × Obj)}
  {nm q : Str} {C N : Addr} {bs bm bmB : List Value} {hdct : Bool} {sn : List Str} {sub : List Value} {ab : Bool} {col : Option Bool} {dd : Option Addr} {k0 k1 k2 k3 k5 : Option Value}
/-- an own exception class whose __init__ is the text's own, called -/
theorem makeX {rest : List Value} {fI : Addr} (F : Fr h₀ L s.heap m) (X₀ : K.In h₀) (N' : News h₀ L s.heap news)
    (hK : K.lookup C = some (excClassObj nm q C N bs bm hdct sn sub ab col dd k0 k1 k2 k3 k5 "Exception.__new__"))
    (hB : bm.contains (.type "Exception") = true) (hA : bm.contains (.type "AttributeError") = false) (hN : bm.contains (.type "NameError") = false)
    (hi : findIn K (.ref C) "__init__" = some (some (.ref fI))) (hf : typeIn K (.ref fI) = some (.type "function")) (hrest : rest.length ≤ sizeLine)
    (h : ∀ e t h', Fr h₀ L h' m → News h₀ L h' ((e, excO C t none) :: (t, { cls := .type "tuple", data := .seq rest.toArray }) :: news) → (∀ p ∈ news, p.1 < t) → t < e →
      codeAny (model prog w) (A.under (.builtin "type.__call__" ⟨.ref C :: rest, []⟩)) (.call (.ref fI) ⟨.ref e :: rest, []⟩) (InitBack e R) { s with heap := h' }) :
    codeAny (model prog w) A (.call (.ref C) ⟨rest, []⟩) R s := by
  have X := X₀.keeps F.keep
  obtain ⟨hh, g, d, tk, os⟩ := s
  have hC := X _ _ hK
  have F0 := PySem.F.excBase_Exception
  have hcB : (Value.ref C :: bm).contains (.type "Exception") = true := by rw [List.contains_cons, hB, Bool.or_true]
  have hcA : (Value.ref C :: bm).contains (.type "AttributeError") = false := by rw [List.contains_cons, hA]; rfl
  have hcN : (Value.ref C :: bm).contains (.type "NameError") = false := by rw [List.contains_cons, hN]; rfl
  have hcC : (Value.ref C :: bm).contains (.ref C) = true := by simp
  have f1 := tc_lookup
  have f2 := tc_bind (.ref C)
  have hT : (⟨hh, g, d, tk, os⟩ : Shared).TypeIs (.ref C) "type" := ⟨_, hC, rfl⟩
  refine codeAny_of_tree ?_
  show wpAny _ _ (callAny (.ref C) _) _ _ _
  repeat (any_goals (first | assumption | with_reducible refine wpAny_loadPart_at hC ?_ | wp_step))
  refine ⟨rfl, ?_⟩
  refine codeAny_call_builtin_at (Code.quiet_builtin _ (by decide +kernel)) entry_typeCall (wpAny_check_type_call_sub hC ?_)
  repeat (first | with_reducible refine wpAny_loadPart_at hC ?_ | with_reducible refine wpAny_madeBy_exc hC ?_ | wp_step)
  refine codeAny_call_builtin_code (Code.quiet_builtin _ F0.quiet) (check_newX F0 hcB hC ?_)
  refine code_newX F0 hcB hcA hcN hC ?_ hrest
  show wpAny _ _ _ _ _ _
  have kk : ∀ b o, hh.get? b = some o → ((hh.push { cls := .type "tuple", data := .seq rest.toArray }).push (excO C hh.objs.size none)).get? b = some o := fun b o e => Heap.get?_push_of_some _ (Heap.get?_push_of_some _ e)
  have hC₁ := kk _ _ hC
  have hget : ((hh.push { cls := .type "tuple", data := .seq rest.toArray }).push (excO C hh.objs.size none)).get? (hh.objs.size + 1) = some (excO C hh.objs.size none) := by heap_get
  have N1 := (N'.push F { cls := .type "tuple", data := .seq rest.toArray }).push (F.push _) (excO C hh.objs.size none)
  rw [Heap.size_push] at N1
  have z := h _ hh.objs.size _ ((F.push _).push _) N1 (fun p hp => Heap.lt_size (N' p hp).1) (Nat.lt_succ_self _)
  have X1 : K.In ((hh.push { cls := .type "tuple", data := .seq rest.toArray }).push (excO C hh.objs.size none)) := fun a o e => kk _ _ (X a o e)
  have i1 := looks_findIn (M := model prog w) X1 hi
  have b1 := bind_fn (M := model prog w) X1 (.ref (hh.objs.size + 1)) hf
  have t1 : Looks (model prog w) ((hh.push { cls := .type "tuple", data := .seq rest.toArray }).push (excO C hh.objs.size none)) (typeOf (.ref (hh.objs.size + 1))) (.ref C) := (Looks.ld hget).andThen .now
  have hcl : clsIn K C = some { name := nm, bases := bs, mro := .ref C :: bm, ns := N, qualname := q, hasDict := hdct, slotNames := sn, subclasses := sub, abstract := ab, collection := col, hasDel := false } := by unfold clsIn; rw [hK]
  have s1 : Looks (model prog w) ((hh.push { cls := .type "tuple", data := .seq rest.toArray }).push (excO C hh.objs.size none)) (isSubtype (.ref C) (.ref C)) true := looks_mroIn X1 (by unfold mroIn; rw [hcl]; simp)
  show wpAny (model prog w) (A.under (.builtin "type.__call__" ⟨.ref C :: rest, []⟩)) _ _ _ ⟨(hh.push { cls := .type "tuple", data := .seq rest.toArray }).push (excO C hh.objs.size none), g, d, tk, os⟩
  unfold isInstance callSpecial? specialOf
  repeat (first | with_reducible refine wpAny_call ?_ | simp only [Bool.not_true, Bool.false_eq_true, if_false] | lk)
  refine codeAny_mono z fun r s' y => ?_
  rcases r with e | (v | _ | _ | _) <;> first | exact y | exact y.elim | skip
  obtain ⟨rfl, y⟩ := y
  exact wpAny_pure (wpAny_pure y)
end
section
theorem look52 (P : Params) : (hp P).lookup 52 = some (excClassObj (Str.ofString "DesignError") (Str.ofString "DesignError") 52 51 [.ref 39] [.ref 39, .type "Exception", .type "BaseException", .type "object"] true [] [] false none none
    (some (.ref 43)) none (some (.str (Str.ofString "DesignError") 232)) (some (.str (Str.ofString "DesignError") 240)) (some (.bool true)) "Exception.__new__") := by kernel_rfl
theorem cls52 (P : Params) : ExcCls (hp P) 52 where
  sa := by kernel_rfl
  ga := by kernel_rfl
  gn := by kernel_rfl
  cls := by
    refine ⟨_, by unfold clsIn; rw [look52], rfl, rfl, by decide +kernel, by decide +kernel, fun x => ?_⟩
    rw [refuseLoop_ref, refuseLoop_ref]
    exact PySem.F.store_Exception.passes x
theorem init52 (P : Params) : findIn (hp P) (.ref 52) "__init__" = some (some (.ref 36)) := by kernel_rfl
theorem fun36 (P : Params) : typeIn (hp P) (.ref 36) = some (.type "function") := by kernel_rfl
theorem kts52 (P : Params) : ktsIn (hp P) 52 "Exception" = true := by kernel_rfl
local macro_rules | `(tactic| walk_at "setAttr ref") => `(tactic| (k_here; k_dflt (refine' Mine.setX_first (by k_asm) (by k_asm) (by assumption) (by assumption) (Mine.cls52 _) (by k_is) ?_; k_whole); intro d' h' F' N' l1; (try dsimp only at N'); (try k_sweep)))
local macro_rules | `(tactic| walk_at "setAttr ref") => `(tactic| (k_here; k_dflt ((rename News _ _ _ ((_, dictOf _ _) :: (_, Mine.excO _ _ (some _)) :: _) => hN9); refine' Mine.setX_next (by k_asm) (by k_asm) hN9 ⟨(hN9 _ (.tail _ (.head _))).1, rfl, rfl, (hN9 _ (.head _)).1⟩ (by exact rfl) (Mine.cls52 _) (by k_is) (by k_get) (by k_put) (by exact Upd.head (by assumption)) (by exact Nat.le_of_ble_eq_true rfl) ?_; k_whole); intro h' F' N'; (try k_sweep)))
theorem exc_use {w : World} {mean : ExcName → Option Value} {mg mb : Str → Option Value} {news : List (Addr × Obj)} {kd : Str} {at9 : Int} {tk ta : Tok}
  {dp un : Nat} {gd : Option (List Code)} {cn : Str} {cs : PySem.Scope} {a : Addr} {ccd : Value} {cl : List (Str × Addr)} {outer : List Env} {A₀ : Around} {base h₀ : Heap} {L : Addr} {m : Str → Option Value} {s : Shared} {Q E : Value → Shared → Prop}
  (B : Below A₀ base outer h₀) (F : Fr h₀ L s.heap m) (X : (hp w.params).In h₀) (N : News h₀ L s.heap news) (T : Top vw (looseW vw [Str.ofString "GateloomError", Str.ofString "vec"]) mean mg mb h₀) (hk : cs.kind = .function)
  (hdp : dp + 3 < recursionLimit) (hun : un + 60 < cLine)
  (hret : ∀ e d t es n h' tk', Fr h₀ L h' m → News h₀ L h' ((e, excO 52 t (some d)) :: (d, dictOf es n) :: news) → (∀ p ∈ (d, dictOf es n) :: news, p.1 ≠ e) →
    getL (Str.ofString "kind") es = some (some (.str kd tk)) → getL (Str.ofString "at") es = some (some (.int at9 ta)) → Q (.ref e) { s with heap := h', toks := tk' }) :
  wpAny (model PySem.Challenge.rw_pq0461_01.row.prog w) (ktrTop dp un gd cn cs L a ccd cl outer) (call (.ref 52) [.str kd tk, .int at9 ta]) Q E s := by
  refine wpAny_call (makeX F X N (look52 _) rfl rfl rfl (init52 _) (fun36 _) (Nat.le_of_ble_eq_true rfl) ?_)
  revert X; k_fill; intro X
  intro e t h' F' N' l1 l2
  have l3 : ∀ p ∈ ((t, { cls := .type "tuple", data := .seq [Value.str kd tk, .int at9 ta].toArray }) : Addr × Obj) :: news, p.1 ≠ e := fun p hp => by
    rcases List.mem_cons.mp hp with rfl | hp
    · exact Nat.ne_of_lt l2
    · exact Nat.ne_of_lt (Nat.lt_trans (l1 p hp) l2)
  clear N
  k_dflt walk_at "mine enter"
  k_steps
  (rename News h₀ _ _ ((_, dictOf _ _) :: (_, excO 52 _ (some _)) :: _) => hN)
  (rename ∀ p ∈ (_, excO 52 _ (some _)) :: _, p.1 ≠ _ => hd)
  exact hret _ _ _ _ _ _ _ (by assumption) (cb_drop hN (List.forall_mem_cons.mpr ⟨.tail _ (.head _), List.forall_mem_cons.mpr ⟨.head _, fun q hq => .tail _ (.tail _ (.tail _ hq))⟩⟩)) (List.forall_mem_cons.mpr ⟨fun z => hd _ (.head _) z.symm, fun p hp => l3 p (.tail _ hp)⟩) (by k_get) (by k_get)
end
section
local macro_rules | `(tactic| walk_at "exec Raise some none") => `(tactic| (k_here; k_dflt (refine' Mine.Raise_X (C := 52) (by first | rfl | assumption) ?_; k_whole)))
local macro_rules | `(tactic| walk_at "call ref") => `(tactic| (k_here; (with_reducible show wpAny _ _ (call (Value.ref 52) _) _ _ _); k_dflt (
  refine' Mine.exc_use (by k_asm) (by k_asm) (by k_asm) (by k_asm) (by k_asm) (by first | exact rfl | assumption) (by ktr_room) (by ktr_units) ?_
  intro e9 d9 t9 es9 n9 h9 tk9 F9 N9 l9 g9 j9
  refine ⟨e9, t9, some d9, rfl, (N9 _ (.head _)).1, ⟨_, Frag.In.keeps (by k_asm) F9.keep, Mine.kts52 _⟩, ?_⟩
  (try dsimp only)
  (try k_fold))))
local macro_rules | `(tactic| walk_at "leaving ref") => `(tactic| (k_here; k_dflt (refine' Mine.leaveX ?K ?F ?N ?ne ?_; (case N => assumption); (case K => assumption); (case F => assumption); (case ne => assumption); k_whole); intro h' R' U'; (try dsimp only at R' U' ⊢)))
local macro_rules | `(tactic| walk_at "noteFrame ref") => `(tactic| (k_here; k_dflt (refine' Mine.caughtX (by assumption) (by assumption) (by assumption) (by assumption) (by assumption) (by assumption) (by assumption) (Mine.kts52 _) (by k_is) ?_; k_whole); intro h' g' tk' oe' ws' T' F' N' c1' c2' c3' K' X' P' D'; (try k_lift K'); (try k_sweep)))
theorem instX {h₀ h : Heap} {L e d C : Addr} {led : List (Addr × Obj)} {oe : Obj} {es : List DictEntry} {n : Nat} {ws : Array Value} (c1 : oe.cls = .ref C) (c2 : oe.dict = some d) (c3 : oe.data = .fields ws) (N : News h₀ L h led) (m1 : (e, oe) ∈ led) (m2 : (d, dictOf es n) ∈ led) :
    W.InstAt h e oe C (some (dictOf es n)) := by
  refine ⟨(N _ m1).1, c1, ?_, ?_⟩
  · unfold notCls; rw [c3]
  · rw [c2]; exact (N _ m2).1
local macro_rules | `(tactic| walk_at "getAttr ref") => `(tactic| (k_here; k_dflt (refine' Mine.getX ?F ?X (Mine.instX ?c1 ?c2 ?c3 ?N ?m1 ?m2) (Mine.cls52 _) ?hh ?ha ?hn ?hl ?hv ?_; (case c1 => assumption); (case c2 => assumption); (case c3 => assumption); (case N => k_asm); (case m1 => k_mem); (case m2 => k_mem); (case F => k_asm); (case X => k_asm); (case hh => k_is); (case ha => k_is); (case hn => k_is); (case hl => assumption); (case hv => k_handed); k_whole)))
theorem told_use {w : World} {mean : ExcName → Option Value} {mg mb : Str → Option Value} {news : List (Addr × Obj)} {e sc : Addr} {t1 t2 : Tok}
  {cs : PySem.Scope} {a : Addr} {ccd : Value} {h₀ : Heap} {L : Addr} {m : Str → Option Value} {s : Shared} {Q E : Value → Shared → Prop}
  (B : Below callerA h₀ [] h₀) (F : Fr h₀ L s.heap m) (X : (hp w.params).In h₀) (N : News h₀ L s.heap ((e, { cls := .type "tuple", data := .seq #[.str (Str.ofString "scope") t1, .ref sc] }) :: news)) (T : Top vw (looseW vw [Str.ofString "GateloomError", Str.ofString "vec"]) mean mg mb h₀) (hk : cs.kind = .function)
  (hret : ∀ r t3 t4 h' tk', Fr h₀ L h' m → News h₀ L h' ((r, { cls := .type "tuple", data := .seq #[.str (Str.ofString "not_a_value") t3, .int 9 t4] }) :: news) → AllLt r news → Q (.ref r) { s with heap := h', toks := tk' }) :
  wpAny (model PySem.Challenge.rw_pq0461_01.row.prog w) (callerA.deeper (envOfC (Str.ofString "law") cs L a ccd)) (call (.ref 349) [.ref 111, .ref sc, .ref e, .int 9 t2]) Q E s := by
  have XB := X
  have TB := T
  revert X; k_fill; intro X
  refine wpAny_call ?_
  k_dflt (refine' code_defX ?k1 ?k2 ?k3 ?k4 ?k5 ?kA ?kf ?kk ?k6 ?k7 ?k8 ?k9 ?kB ?_ ?c2 ?c3 ?c4 ?c5; (case kA => exact rfl); (case kf => exact rfl); (case kk => (show cs.kind ≠ _; rw [hk]; decide)); (case k2 => k_asm); (case k1 => k_asm); (case k3 => k_asm); (case k4 => k_asm); (case k5 => k_asm); (case k6 => k_is); (case k7 => k_is); (case k8 => k_room); (case k9 => first | exact binds_K (by k_in) rfl (by k_is) rfl rfl rfl | exact BindsTo.of_eq rfl); (case kB => exact locs rfl); (case c2 => exact rfl); (case c3 => exact rfl); (case c4 => exact rfl); (case c5 => decide); k_whole; intro g' L' h' FG' F' N' B' X' T' D'; (try dsimp only); (try k_lift B'); (try k_fold))
  k_steps
  (rename News h₀ _ _ ((_, { cls := .type "tuple", data := _ }) :: _) => hN)
  (rename _ ∧ _ ∧ _ ∧ AllLt _ _ => hl)
  exact hret _ _ _ _ _ (by assumption) (cb_drop hN (List.forall_mem_cons.mpr ⟨.head _, fun q hq => .tail _ (.tail _ (.tail _ (.tail _ hq)))⟩)) hl.2.2.2
end
section
theorem sig_memT {w : World} {mean : ExcName → Option Value} {mg mb : Str → Option Value} {R led : List (Addr × Obj)} {sc e : Addr} {i wd : Int} {tw : Tok} {sd : Bool} {ms : Int} {tm : Tok} {ls : Int} {tl : Tok} {scl : Value} {t1 ti : Tok}
  {a : Addr} {ccd : Value} {h₀ : Heap} {L : Addr} {m : Str → Option Value} {s : Shared} {Q E : Value → Shared → Prop} {f : Int} {tf : Tok}
  (B : Below callerA h₀ [] h₀) (F : Fr h₀ L s.heap m) (X : (hp w.params).In h₀) (N : News h₀ L s.heap led) (T : Top vw (looseW vw [Str.ofString "GateloomError", Str.ofString "vec"]) mean mg mb h₀) (hR : ∀ p ∈ R, p ∈ led)
  (me : (e, { cls := .type "tuple", data := .seq #[.str (Str.ofString "sig") t1, .int i ti] }) ∈ led) 
  (S : SigIn R sc i wd tw sd ms tm ls tl (.int f tf) scl)
  (hret : ∀ h' tk', Fr h₀ L h' m → News h₀ L h' led → Q (.bool true) { s with heap := h', toks := tk' }) :
  wpAny (model PySem.Challenge.rw_pq0461_01.row.prog w) (callerA.deeper (lawE L a ccd)) (call (.ref 104) [.ref sc, .ref e]) Q E s := by
  obtain ⟨dsc, es1, n1, de, dde, es2, n2, sl, vs, n3, sg, ds, es3, n4, ky, ⟨a1, a2, a3, a4, a5, a6, a7⟩, g1, g2, i0, i1, gi, S⟩ := S.h
  refine' mem_sigT (news := led) B F X (cb_drop N (List.forall_mem_cons.mpr ⟨me, List.forall_mem_cons.mpr ⟨hR _ a1, List.forall_mem_cons.mpr ⟨hR _ a2, List.forall_mem_cons.mpr ⟨hR _ a3, List.forall_mem_cons.mpr ⟨hR _ a4, List.forall_mem_cons.mpr ⟨hR _ a5, List.forall_mem_cons.mpr ⟨hR _ a6, List.forall_mem_cons.mpr ⟨hR _ a7, fun q hq => hq⟩⟩⟩⟩⟩⟩⟩⟩)) T ?wa1 g1 g2 S.mem S.first i0 i1 gi ?wb1 ?wc1 (fun h' tk' F' N' => hret h' tk' F' (cb_drop N' fun q hq => .tail _ (.tail _ (.tail _ (.tail _ (.tail _ (.tail _ (.tail _ (.tail _ hq)))))))))
  (case wa1 => exact rfl)
  (case wb1 => ktr_room)
  (case wc1 => ktr_units)
theorem sig_shape {w : World} {mean : ExcName → Option Value} {mg mb : Str → Option Value} {R led : List (Addr × Obj)} {sc e : Addr} {i wd : Int} {tw : Tok} {sd : Bool} {ms : Int} {tm : Tok} {ls : Int} {tl : Tok} {fi : Value} {t1 ti : Tok}
  {a : Addr} {ccd : Value} {h₀ : Heap} {L : Addr} {m : Str → Option Value} {s : Shared} {Q E : Value → Shared → Prop} {sc9 : Bool} {at8 : Int} {at9 : Tok}
  (B : Below callerA h₀ [] h₀) (F : Fr h₀ L s.heap m) (X : (hp w.params).In h₀) (N : News h₀ L s.heap led) (T : Top vw (looseW vw [Str.ofString "GateloomError", Str.ofString "vec"]) mean mg mb h₀) (hR : ∀ p ∈ R, p ∈ led)
  (me : (e, { cls := .type "tuple", data := .seq #[.str (Str.ofString "sig") t1, .int i ti] }) ∈ led) 
  (S : SigIn R sc i wd tw sd ms tm ls tl fi (.bool sc9))
  (hret : ∀ r h' tk', Fr h₀ L h' m → News h₀ L h' ((r, { cls := .type "tuple", data := .seq #[.int wd tw, .bool sd, .int ms tm, .int ls tl, .bool sc9] }) :: led) → AllLt r led → Q (.ref r) { s with heap := h', toks := tk' }) :
  wpAny (model PySem.Challenge.rw_pq0461_01.row.prog w) (callerA.deeper (lawE L a ccd)) (call (.ref 111) [.ref sc, .ref e, .int at8 at9]) Q E s := by
  obtain ⟨dsc, es1, n1, de, dde, es2, n2, sl, vs, n3, sg, ds, es3, n4, ky, ⟨a1, a2, a3, a4, a5, a6, a7⟩, g1, g2, i0, i1, gi, S⟩ := S.h
  refine' shape_sig (news := led) B F X (cb_drop N (List.forall_mem_cons.mpr ⟨me, List.forall_mem_cons.mpr ⟨hR _ a1, List.forall_mem_cons.mpr ⟨hR _ a2, List.forall_mem_cons.mpr ⟨hR _ a3, List.forall_mem_cons.mpr ⟨hR _ a4, List.forall_mem_cons.mpr ⟨hR _ a5, List.forall_mem_cons.mpr ⟨hR _ a6, List.forall_mem_cons.mpr ⟨hR _ a7, fun q hq => hq⟩⟩⟩⟩⟩⟩⟩⟩)) T ?wa2 g1 g2 S.width S.signed S.msb S.lsb S.scalar i0 i1 gi ?wb2 ?wc2 (fun r h' tk' F' N' l => hret r h' tk' F' (cb_drop N' (List.forall_mem_cons.mpr ⟨.head _, fun q hq => .tail _ (.tail _ (.tail _ (.tail _ (.tail _ (.tail _ (.tail _ (.tail _ (.tail _ hq))))))))⟩)) l)
  (case wa2 => exact rfl)
  (case wb2 => ktr_room)
  (case wc2 => ktr_units)
theorem sig_word {w : World} {mean : ExcName → Option Value} {mg mb : Str → Option Value} {R led : List (Addr × Obj)} {sc e : Addr} {i wd : Int} {tw : Tok} {sd : Bool} {ms : Int} {tm : Tok} {ls : Int} {tl : Tok} {fi scl : Value} {t1 ti : Tok}
  {a : Addr} {ccd : Value} {h₀ : Heap} {L : Addr} {m : Str → Option Value} {s : Shared} {Q E : Value → Shared → Prop} {wo w0 : Addr}
  (B : Below callerA h₀ [] h₀) (F : Fr h₀ L s.heap m) (X : (hp w.params).In h₀) (N : News h₀ L s.heap led) (T : Top vw (looseW vw [Str.ofString "GateloomError", Str.ofString "vec"]) mean mg mb h₀) (hR : ∀ p ∈ R, p ∈ led)
  (me : (e, { cls := .type "tuple", data := .seq #[.str (Str.ofString "sig") t1, .int i ti] }) ∈ led) (mw : (wo, { cls := .type "tuple", data := .seq #[.ref w0, .bool true] }) ∈ led)
  (S : SigIn R sc i wd tw sd ms tm ls tl fi scl)
  (hret : ∀ r t3 h' tk', Fr h₀ L h' m → News h₀ L h' ((r, { cls := .type "tuple", data := .seq #[.str (Str.ofString "word") t3, .int wd tw, .int i ti, .ref w0, .bool true] }) :: led) → AllLt r led → Q (.ref r) { s with heap := h', toks := tk' }) :
  wpAny (model PySem.Challenge.rw_pq0461_01.row.prog w) (callerA.deeper (lawE L a ccd)) (call (.ref 118) [.ref sc, .ref e, .ref wo]) Q E s := by
  obtain ⟨dsc, es1, n1, de, dde, es2, n2, sl, vs, n3, sg, ds, es3, n4, ky, ⟨a1, a2, a3, a4, a5, a6, a7⟩, g1, g2, i0, i1, gi, S⟩ := S.h
  refine' read_word (news := led) B F X (cb_drop N (List.forall_mem_cons.mpr ⟨me, List.forall_mem_cons.mpr ⟨mw, List.forall_mem_cons.mpr ⟨hR _ a1, List.forall_mem_cons.mpr ⟨hR _ a2, List.forall_mem_cons.mpr ⟨hR _ a3, List.forall_mem_cons.mpr ⟨hR _ a4, List.forall_mem_cons.mpr ⟨hR _ a5, List.forall_mem_cons.mpr ⟨hR _ a6, List.forall_mem_cons.mpr ⟨hR _ a7, fun q hq => hq⟩⟩⟩⟩⟩⟩⟩⟩⟩)) T ?wa3 g1 g2 S.width i0 i1 gi ?wb3 ?wc3 (fun r t3 h' tk' F' N' l => hret r t3 h' tk' F' (cb_drop N' (List.forall_mem_cons.mpr ⟨.head _, fun q hq => .tail _ (.tail _ (.tail _ (.tail _ (.tail _ (.tail _ (.tail _ (.tail _ (.tail _ (.tail _ hq)))))))))⟩)) l)
  (case wa3 => exact rfl)
  (case wb3 => ktr_room)
  (case wc3 => ktr_units)
local macro_rules | `(tactic| walk_at "call ref") => `(tactic| (k_here; (with_reducible show wpAny _ _ (call (Value.ref 104) _) _ _ _); k_dflt (
  refine' Mine.sig_memT ?cB ?cF ?cX ?cN ?cT ?cR ?ce ?cS ?_
  (case cB => k_asm)
  (case cF => k_asm)
  (case cX => k_asm)
  (case cN => k_asm)
  (case cT => k_asm)
  (case ce => k_mem)
  (case cS => assumption)
  (case cR => (intro p hp; repeat (first | exact hp | apply List.Mem.tail)))
  intros
  walk_at "mine lt"
  walk_at "mine end")))
local macro_rules | `(tactic| walk_at "call ref") => `(tactic| (k_here; (with_reducible show wpAny _ _ (call (Value.ref 111) _) _ _ _); k_dflt (
  refine' Mine.sig_shape ?cB ?cF ?cX ?cN ?cT ?cR ?ce ?cS ?_
  (case cB => k_asm)
  (case cF => k_asm)
  (case cX => k_asm)
  (case cN => k_asm)
  (case cT => k_asm)
  (case ce => k_mem)
  (case cS => assumption)
  (case cR => (intro p hp; repeat (first | exact hp | apply List.Mem.tail)))
  intros
  walk_at "mine lt"
  walk_at "mine end")))
local macro_rules | `(tactic| walk_at "call ref") => `(tactic| (k_here; (with_reducible show wpAny _ _ (call (Value.ref 118) _) _ _ _); k_dflt (
  refine' Mine.sig_word ?cB ?cF ?cX ?cN ?cT ?cR ?ce ?cw ?cS ?_
  (case cB => k_asm)
  (case cF => k_asm)
  (case cX => k_asm)
  (case cN => k_asm)
  (case cT => k_asm)
  (case ce => k_mem)
  (case cw => k_mem)
  (case cS => assumption)
  (case cR => (intro p hp; repeat (first | exact hp | apply List.Mem.tail)))
  intros
  walk_at "mine lt"
  walk_at "mine end")))
local macro_rules | `(tactic| walk_at "call ref") => `(tactic| (k_here; (with_reducible show wpAny _ _ (call (Value.ref 349) _) _ _ _); k_dflt (
  (rename News _ _ _ _ => N8)
  refine' Mine.told_use (by k_asm) (by k_asm) (by k_asm) (cb_drop N8 (List.forall_mem_cons.mpr ⟨(by k_mem), fun q hq => hq⟩)) (by k_asm) (by exact rfl) ?_
  intros
  walk_at "mine lt"
  walk_at "mine end")))
theorem pc_e {w : World} {mean : ExcName → Option Value} {mg mb : Str → Option Value} {rest : List Stmt} {c2 cS : Addr × Obj} {R : List (Addr × Obj)} {sc : Addr} {tw tm tl tf : Tok}
  {a : Addr} {ccd : Value} {h₀ : Heap} {L : Addr} {m : Str → Option Value} {s : Shared} {Q : Flow → Shared → Prop} {E : Value → Shared → Prop}
  (B : Below callerA h₀ [] h₀) (F : Fr h₀ L s.heap m) (X : (hp w.params).In h₀) (N : News h₀ L s.heap (c2 :: cS :: R)) (T : Top vw (looseW vw [Str.ofString "GateloomError", Str.ofString "vec"]) mean mg mb h₀)
  (S2 : SigIn R sc 2 4 tw true 0 tm 3 tl (.int 2 tf) (.bool false)) (hsc : m (Str.ofString "scope") = some (.ref sc))
  (hnext : ∀ h' tk' m', Fr h₀ L h' m' → News h₀ L h' [c2, cS] → wpAny (model PySem.Challenge.rw_pq0461_01.row.prog w) (callerA.deeper (lawE L a ccd)) (execs rest (lawE L a ccd)) Q E { s with heap := h', toks := tk' }) :
  wpAny (model PySem.Challenge.rw_pq0461_01.row.prog w) (callerA.deeper (lawE L a ccd)) (execs (b13 :: b14 :: b15 :: rest) (lawE L a ccd)) Q E s := by
  revert X; k_fill; intro X
  rw [← nameIn hsc] at F
  (try dsimp only at F)
  delta b13 b14 b15
  k_steps
  (rename News _ _ _ _ => hN)
  exact hnext _ _ _ (by assumption) (cb_drop hN (List.forall_mem_cons.mpr ⟨by repeat (first | exact .head _ | apply List.Mem.tail), List.forall_mem_cons.mpr ⟨by repeat (first | exact .head _ | apply List.Mem.tail), fun _ h => nomatch h⟩⟩))
end
section
noncomputable def fElt : Stmt → PySem.Expr
  | .Assign _ (.ListComp e _ _ _) _ => e
  | _ => .Constant .none 0 ⟨0, 0, 0, 0⟩
noncomputable def fCsc : Stmt → PySem.Scope
  | .Assign _ (.ListComp _ _ c _) _ => c
  | _ => sL
noncomputable def PlaceX (t1 t2 : Addr) (v : Value) : Prop := v = .none ∨ v = .ref t1 ∨ v = .ref t2
theorem place_any {prog : PySem.Program} {w : World} {A : Around} {E : Value → Shared → Prop} {s : Shared} {value slice : PySem.Expr} {P t1 t2 : Addr} {p : Int} {u : Tok} {Q : Value → Shared → Prop} (hl : s.heap.IsList P [Value.none, .ref t1, .ref t2].toArray) (h0 : 0 ≤ p) (h3 : p < 3)
    (h : ∀ v, PlaceX t1 t2 v → Q v s)
    (hs : subscripted slice false (.ref P) (.int p u) = operate [.ref P, .int p u] (getItem (.ref P) (.int p u))) :
    wpAny (model prog w) A (subscriptTail value slice (.ref P) (.int p u)) Q E s := by
  have hp : p = 0 ∨ p = 1 ∨ p = 2 := by omega
  rcases hp with rfl | rfl | rfl
  · exact item_litK hl (by decide) (by decide) (v := .none) rfl (h _ (.inl rfl)) hs
  · exact item_litK hl (by decide) (by decide) (v := .ref t1) rfl (h _ (.inr (.inl rfl))) hs
  · exact item_litK hl (by decide) (by decide) (v := .ref t2) rfl (h _ (.inr (.inr rfl))) hs
local macro_rules | `(tactic| walk_at "subscriptTail Name Call ref int") => `(tactic| (k_here; (with_reducible show wpAny _ _ (subscriptTail _ _ (Value.ref _) (Value.int _ _)) _ _ _); k_dflt (refine' Mine.place_any (by is_list) (by l_idx) (by l_idx) ?_ (by with_unfolding_all rfl); intro v9 p9)))
theorem nm_ok {i : Nat} (h : i < 3) : PyData.strOk (Str.ofString "m" ++ Str.ofString (toString (0 + (i : Int)))) = true := by
  have h3 : i = 0 ∨ i = 1 ∨ i = 2 := by omega
  rcases h3 with rfl | rfl | rfl <;> decide +kernel
theorem elt_body {w : World} {mean : ExcName → Option Value} {mg mb : Str → Option Value} {K : List (Addr × Obj)} {oP oS oI oC oD : Obj} {I C D l P t1 t2 : Addr} {nP : Nat} {vs : List Value} {ns : List Int} {i : Nat} {t : Tok} {m₂ : Str → Option Value}
  {a : Addr} {ccd : Value} {h₀ : Heap} {L : Addr} {m : Str → Option Value} {s : Shared} {Q : Value → Shared → Prop} {E : Value → Shared → Prop}
  (B : Below callerA h₀ [] h₀) (F : Fr h₀ L s.heap m) (X : (hp w.params).In h₀) (N : News h₀ L s.heap ((I, oI) :: (C, oC) :: (D, oD) :: (L + 1 + 1, oP) :: (L + 1, oS) :: (P, listOf #[.none, .ref t1, .ref t2] nP) :: K)) (T : Top vw (looseW vw [Str.ofString "GateloomError", Str.ofString "vec"]) mean mg mb h₀)
  (hP : oP.data = .cell (some (.ref P))) (hS : oS.data = .cell (some (.ref l))) (hl : h₀.IsList l vs.toArray) (hi : IntsAre vs ns) (hf : ns.length < 2 ^ 62)
  (hC : LCg.NsObj oC m₂) (hm : m₂ (Str.ofString "lap") = some (.int (0 + (i : Int)) t)) (hi3 : i < 3)
  (hret : ∀ q nm tn x h' tk', Fr h₀ L h' m → News h₀ L h' ((q, { cls := .type "tuple", data := .seq #[.str nm tn, x] }) :: (I, oI) :: (C, oC) :: (D, oD) :: (L + 1 + 1, oP) :: (L + 1, oS) :: (P, listOf #[.none, .ref t1, .ref t2] nP) :: K) → AllLt q ((I, oI) :: (C, oC) :: (D, oD) :: (L + 1 + 1, oP) :: (L + 1, oS) :: (P, listOf #[.none, .ref t1, .ref t2] nP) :: K) → PlaceX t1 t2 x → PyData.strOk nm = true → Q (.ref q) { s with heap := h', toks := tk' }) :
  wpAny (model PySem.Challenge.rw_pq0461_01.row.prog w) (callerA.deeper (lawE L a ccd)) (eval (fElt b17) (compEnvC (fCsc b17) [(Str.ofString "script", L + 1), (Str.ofString "places", L + 1 + 1)] C (lawE L a ccd))) Q E s := by
  revert X; k_fill; intro X
  delta b17
  dsimp only [fElt, fCsc]
  k_steps
  (rename I < _ ∧ _ => hl9)
  exact hret _ _ _ _ _ _ (by assumption) (by assumption) hl9 (by assumption) (nm_ok hi3)
/-- one of the law's parts: a name and a place -/
noncomputable def PartV (K : List (Addr × Obj)) (t1 t2 : Addr) (z : Value) : Prop := ∃ q nm tn x, z = .ref q ∧ (q, { cls := .type "tuple", data := .seq #[.str nm tn, x] }) ∈ K ∧ PlaceX t1 t2 x ∧ PyData.strOk nm = true
theorem PartV.more {K K' : List (Addr × Obj)} {t1 t2 : Addr} {z : Value} (p : PartV K t1 t2 z) (h : ∀ p ∈ K, p ∈ K') : PartV K' t1 t2 z := by
  obtain ⟨q, nm, tn, x, e, m, r⟩ := p
  exact ⟨q, nm, tn, x, e, h _ m, r⟩
theorem comp_rest {w : World} {mean : ExcName → Option Value} {mg mb : Str → Option Value} {oP oS : Obj} {l P t1 t2 : Addr} {nP n : Nat} {vs : List Value} {ns : List Int}
  {a : Addr} {ccd : Value} {h₀ : Heap} {L : Addr} {m : Str → Option Value} {s : Shared} {Fin : List Value → List (Addr × Obj) → Prop}
  (B : Below callerA h₀ [] h₀) (X : (hp w.params).In h₀) (T : Top vw (looseW vw [Str.ofString "GateloomError", Str.ofString "vec"]) mean mg mb h₀)
  (hP : oP.data = .cell (some (.ref P))) (hS : oS.data = .cell (some (.ref l))) (hl : h₀.IsList l vs.toArray) (hi : IntsAre vs ns) (hf : ns.length < 2 ^ 62) (hn : n ≤ 3) :
  ∀ (k i : Nat) (zs : List Value) (K : List (Addr × Obj)), i + k = n → zs.length = i → (∀ z ∈ zs, PartV K t1 t2 z) →
    (∀ zs K', (∀ p ∈ K, p ∈ K') → zs.length = n → (∀ z ∈ zs, PartV K' t1 t2 z) → Fin zs ((L + 1 + 1, oP) :: (L + 1, oS) :: (P, listOf #[.none, .ref t1, .ref t2] nP) :: K')) →
    LCg.CompRest PySem.Challenge.rw_pq0461_01.row.prog w (callerA.deeper (lawE L a ccd)) h₀ L m (lawE L a ccd) (fElt b17) (Str.ofString "lap") (fCsc b17) [(Str.ofString "script", L + 1), (Str.ofString "places", L + 1 + 1)] s (fun _ => True) (fun i v => ∃ t, v = .int (0 + (i : Int)) t) Fin k i zs ((L + 1 + 1, oP) :: (L + 1, oS) :: (P, listOf #[.none, .ref t1, .ref t2] nP) :: K)
  | 0, i, zs, K, e, hz, hp, fin => LCg.CompRest.zero (fin zs K (fun _ h => h) (by omega) hp)
  | k + 1, i, zs, K, e, hz, hp, fin => by
    refine LCg.CompRest.succ fun v I oI C oC D m₂ h tk E' hv hC hx F N off ne => ?_
    obtain ⟨t, rfl⟩ := hv
    refine elt_body B F X N T hP hS hl hi hf hC hx (by omega) fun q nm tn x h' tk' F' N' l9 px ok => ?_
    obtain ⟨l1, l2, l3, l4, l5, l6, l7⟩ := l9
    obtain ⟨o1, o2, o3, o4⟩ := off
    refine ⟨h', tk', (L + 1 + 1, oP) :: (L + 1, oS) :: (P, listOf #[.none, .ref t1, .ref t2] nP) :: (q, { cls := .type "tuple", data := .seq #[.str nm tn, x] }) :: K, rfl, F', cb_drop N' fun p hq => ?_, ⟨o1, o2, o3, ⟨Nat.ne_of_gt l1, Nat.ne_of_gt l2, Nat.ne_of_gt l3⟩, o4⟩, trivial, comp_rest B X T hP hS hl hi hf hn k (i + 1) (zs ++ [.ref q]) _ (by omega) (by simp [hz]) (fun z hz' => ?_) fun zs K' hk => fin zs K' fun p hp => hk p (.tail _ hp)⟩
    · simp only [List.mem_cons] at hq ⊢
      rcases hq with h | h | h | h | h | h | h | h <;> simp [h]
    · rcases List.mem_append.mp hz' with h | h
      · exact (hp z h).more fun p hp => .tail _ hp
      · rw [List.mem_singleton.mp h]
        exact ⟨q, nm, tn, x, rfl, .head _, px, ok⟩
end
section
theorem perm6 {h₀ h : Heap} {L : Addr} {a b c d e f : Addr × Obj} (N : News h₀ L h [a, b, c, d, e, f]) : News h₀ L h (e :: f :: a :: [b, c, d]) := cb_drop N fun p hp => by
  simp only [List.mem_cons, List.not_mem_nil, or_false] at hp ⊢
  rcases hp with h | h | h | h | h | h <;> simp [h]
theorem rng_small {p : Int} (h0 : 0 ≤ p) (h1 : p < 3) : Builtin.Range.small 0 (1 + p) 1 = true := small_one (by decide) (by decide) (by omega) (by omega)
local macro_rules | `(tactic| walk_at "exec Assign cons ListComp") => `(tactic| (k_here; k_dflt (refine LCg.Assign_ListComp_U (F₀ := by k_asm) (by rfl) (by with_unfolding_all rfl) (by with_unfolding_all rfl) (by decide) (by rfl) (by decide) (by rfl) (by rfl) (by rfl) ?_)))
local macro_rules | `(tactic| walk_at "CompSrc") => `(tactic| (k_here; k_dflt (
  (rename News _ _ _ [_, _, _, _, _, _] => N8)
  refine LCg.CompSrc.range (by rfl) (by k_asm) (Mine.perm6 N8) (by assumption) (Mine.rng_small (by assumption) (by assumption)) (rangeSize_nat _ _) (by rw [sizeLine_eq]; omega) ?_
  intros
  refine Mine.comp_rest (by k_asm) (by k_asm) (by k_asm) (by assumption) (by assumption) (by assumption) (by assumption) (by assumption) (by omega) _ 0 [] _ (Nat.zero_add _) rfl (fun _ h => nomatch h) ?_
  intro zs9 K9 mK9 hz9 hp9)))
/-- what one of the places reads as -/
noncomputable def PlaceD (h₀ : Heap) (L : Addr) (K : List (Addr × Obj)) (x : Value) : Prop := ∃ d, ReadsIn h₀ L K x d ∧ d.canLay0 = true ∧ d.depth ≤ 2 ∧ PyData.eqv d d = true ∧ ((x = .none ∧ d = .none) ∨ ∃ y, x = .ref y)
noncomputable def PartD (h₀ : Heap) (L : Addr) (K : List (Addr × Obj)) (z : Value) : Prop := ∃ q nm tn x, z = .ref q ∧ (q, { cls := .type "tuple", data := .seq #[.str nm tn, x] }) ∈ K ∧ PlaceD h₀ L K x ∧ PyData.strOk nm = true
theorem place_d {h₀ : Heap} {L : Addr} {K : List (Addr × Obj)} {t0 t1 t2 : Addr} {x : Value} {a1 a2 a3 b1 b2 c1 c2 c3 : Tok} (p : PlaceX t1 t2 x)
    (m2 : (t2, { cls := .type "tuple", data := .seq #[.str (Str.ofString "id") c1, .int 2 c2, .str (Str.ofString "i") c3] }) ∈ K)
    (m1 : (t1, { cls := .type "tuple", data := .seq #[.str (Str.ofString "num") b1, .int 1 b2, .ref t0, .bool false, .bool true] }) ∈ K)
    (m0 : (t0, { cls := .type "tuple", data := .seq #[.int 1 a1, .int 0 a2, .int 0 a3] }) ∈ K) : PlaceD h₀ L K x := by
  rcases p with rfl | rfl | rfl
  · exact ⟨.none, fun h led N hR => .none, rfl, Nat.zero_le _, by simp [PyData.eqv], .inl ⟨rfl, rfl⟩⟩
  · refine ⟨.tuple [.str (Str.ofString "num"), .int 1, .tuple [.int 1, .int 0, .int 0], .bool false, .bool true], fun h led N hR => ?_, by decide +kernel, by decide, by simp [PyData.eqv, PyData.eqvAll], .inr ⟨_, rfl⟩⟩
    have r0 : Reads h (.ref t0) (.tuple [.int 1, .int 0, .int 0]) [] := reads_tuple_at (N _ (hR _ m0)).1 rfl rfl (.cons (.int ..) (.cons (.int ..) (.cons (.int ..) .nil)))
    exact reads_tuple_at (N _ (hR _ m1)).1 rfl rfl (.cons (as := []) (bs := []) (.str ..) (.cons (as := []) (bs := []) (.int ..) (.cons (as := []) (bs := []) r0 (.cons (as := []) (bs := []) (.bool ..) (.cons (as := []) (bs := []) (.bool ..) .nil)))))
  · refine ⟨.tuple [.str (Str.ofString "id"), .int 2, .str (Str.ofString "i")], fun h led N hR => ?_, by decide +kernel, by decide, by simp [PyData.eqv, PyData.eqvAll], .inr ⟨_, rfl⟩⟩
    exact reads_tuple_at (N _ (hR _ m2)).1 rfl rfl (.cons (as := []) (bs := []) (.str ..) (.cons (as := []) (bs := []) (.int ..) (.cons (as := []) (bs := []) (.str ..) .nil)))
theorem snoc_of {zs : List Value} (h : 1 ≤ zs.length) : ∃ ys y, zs = ys ++ [y] := by
  rcases List.eq_nil_or_concat zs with rfl | ⟨ys, y, rfl⟩
  · simp at h
  · exact ⟨ys, y, by simp⟩
theorem pc_f {w : World} {mean : ExcName → Option Value} {mg mb : Str → Option Value} {rest : List Stmt} {oP oS : Obj} {vP : Option Value} {l : Addr} {vs : List Value} {ns : List Int}
  {a : Addr} {ccd : Value} {h₀ : Heap} {L : Addr} {m : Str → Option Value} {s : Shared} {Q : Flow → Shared → Prop} {E : Value → Shared → Prop}
  (B : Below callerA h₀ [] h₀) (F : Fr h₀ L s.heap m) (X : (hp w.params).In h₀) (N : News h₀ L s.heap [(L + 1 + 1, oP), (L + 1, oS)]) (T : Top vw (looseW vw [Str.ofString "GateloomError", Str.ofString "vec"]) mean mg mb h₀)
  (hP : oP.data = .cell vP) (hS : oS.data = .cell (some (.ref l))) (hl : h₀.IsList l vs.toArray) (hi : IntsAre vs ns) (hf : ns.length < 2 ^ 62)
  (hnext : ∀ D zs q nm tn x K oP' vP' h' tk' m', Fr h₀ L h' m' → News h₀ L h' ((D, LCg.lst (zs ++ [.ref q])) :: (L + 1 + 1, oP') :: (L + 1, oS) :: K) → oP'.data = .cell vP' → zs.length ≤ 2 → (∀ z ∈ zs, PartD h₀ L K z) →
    (q, { cls := .type "tuple", data := .seq #[.str nm tn, x] }) ∈ K → PlaceD h₀ L K x → PyData.strOk nm = true → m' (Str.ofString "parts") = some (.ref D) → wpAny (model PySem.Challenge.rw_pq0461_01.row.prog w) (callerA.deeper (lawE L a ccd)) (execs rest (lawE L a ccd)) Q E { s with heap := h', toks := tk' }) :
  wpAny (model PySem.Challenge.rw_pq0461_01.row.prog w) (callerA.deeper (lawE L a ccd)) (execs (b16 :: b17 :: rest) (lawE L a ccd)) Q E s := by
  revert X; k_fill; intro X
  delta b16 b17
  k_steps
  (rename List.length _ = _ => hz)
  (rename ∀ p ∈ _, p ∈ _ => hk)
  (rename ∀ z ∈ _, PartV _ _ _ z => hp)
  (rename News _ _ _ ((_, LCg.lst _) :: _) => hN)
  (rename Obj.data _ = _ => hd)
  (rename part ns 4 3 < 3 => hc)
  have pd := fun z hz => hp z hz
  have m2 := hk _ (.head _)
  have m1 := hk _ (.tail _ (.head _))
  have m0 := hk _ (.tail _ (.tail _ (.head _)))
  obtain ⟨ys, y, rfl⟩ := snoc_of (zs := _) (by rw [hz]; omega)
  obtain ⟨q, nm, tn, x, rfl, mq, px, ok⟩ := hp y (List.mem_append_right _ (.head _))
  refine hnext _ ys q nm tn x _ _ _ _ _ _ (by assumption) (cb_drop hN fun p hp => ?_) hd (by simp at hz; omega) (fun z hz => ?_) mq (place_d px m2 m1 m0) ok rfl
  · simp only [List.mem_cons] at hp ⊢
    rcases hp with h | h | h | h <;> simp [h]
  · obtain ⟨q, nm, tn, x, e, mq, px, ok⟩ := hp z (List.mem_append_left _ hz)
    exact ⟨q, nm, tn, x, e, mq, place_d px m2 m1 m0, ok⟩
end
section
section
variable {prog : PySem.Program} {w : World} {A : Around} {E : Value → Shared → Prop} {s : Shared}
theorem pop_adjust (n : Nat) (h : 1 ≤ n) : Builtin.Slice.sliceAdjust none (some (-1)) 1 (n : Int) = (0, ((n - 1 : Nat) : Int)) := by
  unfold Builtin.Slice.sliceAdjust
  have h1 : ¬ ((1 : Int) < 0) := by omega
  have h2 : ((-1 : Int) < 0) := by omega
  simp only [h1, h2, if_false, if_true]
  congr 1
  omega
theorem pop_places (n : Nat) : Builtin.Slice.slicePlaces 0 ((n - 1 : Nat) : Int) 1 = n - 1 := by
  unfold Builtin.Slice.slicePlaces
  have h1 : (1 : Int) > 0 := by omega
  simp only [h1, if_true, Int.ediv_one]
  split <;> omega
theorem pop_applied {sl : Addr} {n : Nat} {u : Tok} {Q : Int × Int × Nat → Shared → Prop} (hs : s.heap.IsSliceOf sl .none (.int (-1) u) .none) (hn : 1 ≤ n) (h : Q (0, 1, n - 1) s) :
    wpAny (model prog w) A (Builtin.Slice.sliceApplied (.ref sl) (pure (n : Int))) Q E s := by
  obtain ⟨os, hos, hcs, hds⟩ := id hs
  unfold Builtin.Slice.sliceApplied Builtin.Slice.sliceFields
  refine wpAny_bind (wpAny_bind (wpAny_field hos hds (x := .none) rfl (wpAny_bind (wpAny_field hos hds (x := .int (-1) u) rfl (wpAny_bind (wpAny_field hos hds (x := .none) rfl (wpAny_pure ?_)))))))
  refine wpAny_bind (slicePart_none ?_)
  show wpAny _ _ (if ((1 : Int) == 0) = true then _ else _) _ _ s
  rw [if_neg (by decide)]
  refine wpAny_bind (slicePart_none (wpAny_bind (slicePart_int (wpAny_bind (wpAny_pure ?_)))))
  show wpAny _ _ (match Builtin.Slice.sliceAdjust none (some (-1)) 1 (n : Int) with | (lo, hi) => pure (lo, (1 : Int), Builtin.Slice.slicePlaces lo hi 1)) _ _ s
  rw [pop_adjust n hn]
  show wpAny _ _ (pure ((0 : Int), (1 : Int), Builtin.Slice.slicePlaces (0 : Int) ((n - 1 : Nat) : Int) 1)) _ _ s
  rw [pop_places n]
  exact wpAny_pure h
theorem pop_pick (xs : Array Value) : ((List.range (xs.size - 1)).filterMap fun (k : Nat) => xs[((0 : Int) + (k : Int) * 1).toNat]?).toArray = (xs.toList.take (xs.size - 1)).toArray := by
  have e : (fun (k : Nat) => xs[((0 : Int) + (k : Int) * 1).toNat]?) = fun k => xs[0 + k]? := by
    funext k
    have : ((0 : Int) + (k : Int) * 1).toNat = 0 + k := by omega
    rw [this]
  rw [e]
  have q := pick_run xs 0 (xs.size - 1)
  rw [List.filterMap_map] at q
  have e2 : ((fun x => xs[x]?) ∘ fun x => 0 + x) = fun k => xs[0 + k]? := rfl
  rw [e2] at q
  rw [q, List.drop_zero]
theorem pop_item {t sl : Addr} {items : Array Value} {u : Tok} {Q : Value → Shared → Prop} (ht : IsTup s.heap t items) (hs : s.heap.IsSliceOf sl .none (.int (-1) u) .none) (h1 : 1 ≤ items.size)
    (h : Q (.ref s.heap.objs.size) { s with heap := s.heap.push { cls := .type "tuple", data := .seq (items.toList.take (items.size - 1)).toArray } })
    (hsz : items.size ≤ sizeLine) : wpAny (model prog w) A (getItem (.ref t) (.ref sl)) Q E s := by
  have hdrop : sizeOk (.seq (items.toList.take (items.size - 1)).toArray) := by
    show (items.toList.take (items.size - 1)).toArray.size ≤ sizeLine
    rw [List.size_toArray, List.length_take, Array.length_toList]
    omega
  obtain ⟨os, hos, hcs, hds⟩ := id hs
  have hTs : s.TypeIs (.ref sl) "slice" := ⟨os, hos, hcs⟩
  unfold getItem
  try with_reducible refine wpAny_holding ?_
  first | refine wpAny_bind (wpAny_pure ?_) | skip
  refine wpAny_bind (wpAny_sequenceKey ht.typeIs (by decide) ?_)
  refine wpAny_bind (wpAny_callSpecial?_slot (name := Str.ofString "__getitem__") ht.typeIs slot_tuple_getitem
    (wpAny_call_entry slot_tuple_getitem ht.typeIs entry_tuple_getitem ?_ (args_tuple_getitem _ _)))
  show wpAny _ _ (Builtin.Tuple.tupleItemsOf (.ref t) >>= _) _ _ s
  refine wpAny_bind (tupleItemsOf_ ht ?_)
  refine wpAny_bind (wpAny_typeOf hTs ?_)
  rw [if_pos (by decide)]
  refine wpAny_bind (pop_applied hs h1 ?_)
  have hno : ¬ (((0 : Int) == 0 && (1 : Int) == 1 && (items.size - 1) == items.size) = true) := by
    have : ((items.size - 1) == items.size) = false := by rw [beq_eq_false_iff_ne]; omega
    rw [this]; simp
  show wpAny _ _ (if ((0 : Int) == 0 && (1 : Int) == 1 && (items.size - 1) == items.size) = true then _ else _) _ _ s
  rw [if_neg hno, pop_pick items]
  first
    | exact wpAny_bind (m := Builtin.Tuple.tupleExact _) (wpAny_newObj_type (wpAny_pure ⟨_, rfl, wpAny_pure h⟩) hdrop)
    | exact wpAny_bind (m := Builtin.Tuple.tupleExact _) (wpAny_newObj_type (wpAny_bind (wpAny_pure (wpAny_pure ⟨_, rfl, wpAny_pure h⟩))) hdrop)
    | exact wpAny_bind (wpAny_bind (m := Builtin.Tuple.tupleExact _) (wpAny_newObj_type (wpAny_pure (wpAny_pure ⟨_, rfl, wpAny_pure h⟩)) hdrop))
    | exact wpAny_bind (wpAny_bind (m := Builtin.Tuple.tupleExact _) (wpAny_newObj_type (wpAny_pure ⟨_, rfl, wpAny_pure h⟩) hdrop))
theorem pop_slice {h₀ : Heap} {L : Addr} {m : Str → Option Value} {news : List (Addr × Obj)} {value slice : PySem.Expr} {t : Addr} {items : Array Value} {zs : List Value} {n : Nat} {u : Tok} {Q : Value → Shared → Prop}
    (F : Fr h₀ L s.heap m) (N : News h₀ L s.heap news) (hm : (t, { cls := .type "tuple", data := .seq items n }) ∈ news) (h1 : 1 ≤ items.size) (hz : items.toList.take (items.size - 1) = zs)
    (h : ∀ D h', Fr h₀ L h' m → News h₀ L h' ((D, { cls := .type "tuple", data := .seq zs.toArray }) :: news) → (∀ p ∈ news, p.1 < D) → Q (.ref D) { s with heap := h' })
    (hs : subscripted slice false (.ref t) (.ref s.heap.objs.size) = operate [.ref s.heap.objs.size, .ref t] (getItem (.ref t) (.ref s.heap.objs.size)))
    (hg : ∀ r, letTemporaryGo value (.ref t) r = pure ())
    (hsz : items.size ≤ sizeLine) :
    wpAny (model prog w) A (subscriptTail value slice (.ref t) (.ref s.heap.objs.size)) Q E { s with heap := s.heap.push { cls := .type "slice", data := .fields #[.none, .int (-1) u, .none] } } := by
  have ht : IsTup s.heap t items := ⟨_, (N _ hm).1, rfl, _, rfl⟩
  have ht' : IsTup (s.heap.push { cls := .type "slice", data := .fields #[.none, .int (-1) u, .none] }) t items := ht.keeps fun _ _ e => Heap.get?_push_of_some _ e
  refine subscriptTail_ops (s := { s with heap := s.heap.push { cls := .type "slice", data := .fields #[.none, .int (-1) u, .none] } }) ht'.typeIs slot_tuple_getitem.lookup
    (pop_item ht' (Heap.IsSliceOf.new ..) h1 ?_ hsz) hs hg
  have N1 := News.push (F.push { cls := .type "slice", data := .fields #[.none, .int (-1) u, .none] }) (N.grown fun _ _ e => Heap.get?_push_of_some _ e) { cls := .type "tuple", data := .seq (items.toList.take (items.size - 1)).toArray }
  rw [Heap.size_push] at N1
  show Q (.ref (s.heap.push _).objs.size) _
  rw [Heap.size_push]
  rw [hz] at N1 ⊢
  exact h _ _ ((F.push _).push _) N1 fun p hp => Nat.lt_succ_of_lt (Heap.lt_size (N p hp).1)
end
section
variable {prog : PySem.Program} {w : World} {A : Around} {E : Value → Shared → Prop} {s : Shared} {h₀ : Heap} {L : Addr} {news : List (Addr × Obj)} {value slice : PySem.Expr} {t : Addr} {zs : List Value} {x : Value} {u : Tok} {n : Nat} {Q : Value → Shared → Prop}
theorem tup_last (N : News h₀ L s.heap news) (hm : (t, { cls := .type "tuple", data := .seq (zs ++ [x]).toArray n }) ∈ news) (h : Q x s)
    (hs : subscripted slice false (.ref t) (.int (-1) u) = operate [.ref t, .int (-1) u] (getItem (.ref t) (.int (-1) u))) (hg : ∀ r, letTemporaryGo value (.ref t) r = pure ()) :
    wpAny (model prog w) A (subscriptTail value slice (.ref t) (.int (-1) u)) Q E s := by
  refine item_tupleL (l := zs ++ [x]) ⟨_, (N _ hm).1, rfl, _, rfl⟩ (by decide) (by decide) (j := zs.length) ?_ (by simp) h hs hg
  unfold seqIndex?
  simp
  omega
theorem lst_last (N : News h₀ L s.heap news) (hm : (t, { cls := .type "list", data := .seq (zs ++ [x]).toArray n }) ∈ news) (h : Q x s)
    (hs : subscripted slice false (.ref t) (.int (-1) u) = operate [.ref t, .int (-1) u] (getItem (.ref t) (.int (-1) u))) (hg : ∀ r, letTemporaryGo value (.ref t) r = pure ()) :
    wpAny (model prog w) A (subscriptTail value slice (.ref t) (.int (-1) u)) Q E s :=
  item_last (vi := zs) (v := x) ⟨_, (N _ hm).1, rfl, _, rfl⟩ h hs hg
end
local macro_rules | `(tactic| walk_at "subscriptTail Name UnaryOp ref int") => `(tactic| (k_here; k_dflt (first
  | (refine' Mine.tup_last ?N ?m ?_ ?hs ?hg; (case N => k_asm); (case m => k_mem); (case hs => with_unfolding_all rfl); (case hg => kmk_pure))
  | (refine' Mine.lst_last ?N ?m ?_ ?hs ?hg; (case N => k_asm); (case m => k_mem); (case hs => with_unfolding_all rfl); (case hg => kmk_pure)))))
theorem pop_zs (zs : List Value) (x : Value) : ((zs ++ [x]).toArray).toList.take ((zs ++ [x]).toArray.size - 1) = zs := by simp
theorem one_le (zs : List Value) (x : Value) : 1 ≤ (zs ++ [x]).toArray.size := by simp
theorem few_ok {zs : List Value} (h : zs.length ≤ 2) (x : Value) : (zs ++ [x]).toArray.size ≤ sizeLine := by
  rw [sizeLine_eq]; simp; omega
local macro_rules | `(tactic| walk_at "subscriptTail Subscript Name Constant Slice ref ref") => `(tactic| (k_here; k_dflt (refine kba_turn (value' := PySem.Expr.Name (PySem.Str.ofString "_") ⟨0, 0, 0, 0⟩) (fun _ => rfl) ?_; refine' Mine.pop_slice (by k_asm) (by k_asm) (by k_mem) (Mine.one_le _ _) (Mine.pop_zs _ _) ?_ (by with_unfolding_all rfl) (by kmk_pure) (Mine.few_ok (by assumption) _)); intro D' h' F' N' l1; (try k_lt l1); (try k_sweep)))
section
variable {prog : PySem.Program} {w : World} {A : Around} {E : Value → Shared → Prop} {s : Shared} {h₀ : Heap} {L : Addr} {m : Str → Option Value} {news : List (Addr × Obj)} {t b : Addr} {zs : List Value} {x : Value} {n k : Nat} {Q : Value → Shared → Prop}
theorem add_snoc (F : Fr h₀ L s.heap m) (N : News h₀ L s.heap news) (ha : (t, { cls := .type "tuple", data := .seq zs.toArray n }) ∈ news) (hb : (b, { cls := .type "tuple", data := .seq [x].toArray }) ∈ news) (hz : zs.length ≤ 2)
    (h : ∀ D h', Fr h₀ L h' m → News h₀ L h' ((D, { cls := .type "tuple", data := .seq (zs ++ [x]).toArray }) :: news) → Q (.ref D) { s with heap := h' }) :
    wpAny (model prog w) A (binaryOp .Add (.ref t) (.ref b)) Q E s := by
  refine add_tuples F N ⟨_, (N _ ha).1, rfl, _, rfl⟩ ⟨_, (N _ hb).1, rfl, _, rfl⟩ (fun e => ?_) (fun _ e => by simp at e) (fun _ _ h' F' N' => h _ h' F' N') (by rw [sizeLine_eq]; simp; omega)
  subst e
  exact h b s.heap F fun p hp => by
    rcases List.mem_cons.mp hp with rfl | hp
    · exact N _ hb
    · exact N _ hp
end
local macro_rules | `(tactic| walk_at "binaryOp Add ref ref") => `(tactic| (k_here; k_dflt (refine' Mine.add_snoc (by k_asm) (by k_asm) (by k_mem) (by k_mem) (by assumption) ?_); intro D' h' F' N'; (try k_sweep)))
theorem lsel_ref {w : World} {mean : ExcName → Option Value} {mg mb : Str → Option Value} {news : List (Addr × Obj)} {zs : List Value} {pth pt q y : Addr} {nm : Str} {tn t1 t2 : Tok} {p6 : Int}
  {dp un : Nat} {gd : Option (List Code)} {cn : Str} {cs : PySem.Scope} {a : Addr} {ccd : Value} {cl : List (Str × Addr)} {outer : List Env} {A₀ : Around} {base h₀ : Heap} {L : Addr} {m : Str → Option Value} {s : Shared} {Q E : Value → Shared → Prop}
  (B : Below A₀ base outer h₀) (F : Fr h₀ L s.heap m) (X : (hp w.params).In h₀) (N : News h₀ L s.heap ((pth, { cls := .type "tuple", data := .seq #[.str (Str.ofString "path") t1, .int p6 t2, .ref pt] }) :: (pt, { cls := .type "tuple", data := .seq (zs ++ [Value.ref q]).toArray }) :: (q, { cls := .type "tuple", data := .seq #[.str nm tn, .ref y] }) :: news)) (T : Top vw (looseW vw [Str.ofString "GateloomError", Str.ofString "vec"]) mean mg mb h₀) (hk : cs.kind = .function)
  (hz : zs.length ≤ 2) (hdp : dp + 5 < recursionLimit) (hun : un + 90 < cLine)
  (hret : ∀ r p2 pt2 q2 t5 t6 h' tk', Fr h₀ L h' m → News h₀ L h' ((r, { cls := .type "tuple", data := .seq #[.str (Str.ofString "index") t5, .int p6 t2, .ref p2, .ref y] }) :: (p2, { cls := .type "tuple", data := .seq #[.str (Str.ofString "path") t6, .int p6 t2, .ref pt2] }) :: (pt2, { cls := .type "tuple", data := .seq (zs ++ [Value.ref q2]).toArray }) :: (q2, { cls := .type "tuple", data := .seq #[.str nm tn, .none] }) :: (pth, { cls := .type "tuple", data := .seq #[.str (Str.ofString "path") t1, .int p6 t2, .ref pt] }) :: (pt, { cls := .type "tuple", data := .seq (zs ++ [Value.ref q]).toArray }) :: (q, { cls := .type "tuple", data := .seq #[.str nm tn, .ref y] }) :: news) → Q (.ref r) { s with heap := h', toks := tk' }) :
  wpAny (model PySem.Challenge.rw_pq0461_01.row.prog w) (ktrTop dp un gd cn cs L a ccd cl outer) (call (.ref 97) [.ref pth]) Q E s := by
  revert X; k_fill; intro X
  refine wpAny_call ?_
  k_dflt walk_at "mine enter"
  k_steps
  (rename News h₀ L _ _ => hN)
  exact hret _ _ _ _ _ _ _ _ (by assumption) (cb_drop hN (List.forall_mem_cons.mpr ⟨by repeat (first | exact .head _ | apply List.Mem.tail), List.forall_mem_cons.mpr ⟨by repeat (first | exact .head _ | apply List.Mem.tail), List.forall_mem_cons.mpr ⟨by repeat (first | exact .head _ | apply List.Mem.tail), List.forall_mem_cons.mpr ⟨by repeat (first | exact .head _ | apply List.Mem.tail), by intro p hp; repeat (first | exact hp | apply List.Mem.tail)⟩⟩⟩⟩))
theorem lsel_none {w : World} {mean : ExcName → Option Value} {mg mb : Str → Option Value} {news : List (Addr × Obj)} {zs : List Value} {pth pt q : Addr} {nm : Str} {tn t1 t2 : Tok} {p6 : Int}
  {dp un : Nat} {gd : Option (List Code)} {cn : Str} {cs : PySem.Scope} {a : Addr} {ccd : Value} {cl : List (Str × Addr)} {outer : List Env} {A₀ : Around} {base h₀ : Heap} {L : Addr} {m : Str → Option Value} {s : Shared} {Q E : Value → Shared → Prop}
  (B : Below A₀ base outer h₀) (F : Fr h₀ L s.heap m) (X : (hp w.params).In h₀) (N : News h₀ L s.heap ((pth, { cls := .type "tuple", data := .seq #[.str (Str.ofString "path") t1, .int p6 t2, .ref pt] }) :: (pt, { cls := .type "tuple", data := .seq (zs ++ [Value.ref q]).toArray }) :: (q, { cls := .type "tuple", data := .seq #[.str nm tn, .none] }) :: news)) (T : Top vw (looseW vw [Str.ofString "GateloomError", Str.ofString "vec"]) mean mg mb h₀) (hk : cs.kind = .function)
  (hz : zs.length ≤ 2) (hdp : dp + 5 < recursionLimit) (hun : un + 90 < cLine)
  (hret : ∀ h' tk', Fr h₀ L h' m → News h₀ L h' ((pth, { cls := .type "tuple", data := .seq #[.str (Str.ofString "path") t1, .int p6 t2, .ref pt] }) :: (pt, { cls := .type "tuple", data := .seq (zs ++ [Value.ref q]).toArray }) :: (q, { cls := .type "tuple", data := .seq #[.str nm tn, .none] }) :: news) → Q (.ref pth) { s with heap := h', toks := tk' }) :
  wpAny (model PySem.Challenge.rw_pq0461_01.row.prog w) (ktrTop dp un gd cn cs L a ccd cl outer) (call (.ref 97) [.ref pth]) Q E s := by
  revert X; k_fill; intro X
  refine wpAny_call ?_
  k_dflt walk_at "mine enter"
  k_steps
  (rename News h₀ L _ _ => hN)
  exact hret _ _ (by assumption) (by assumption)
theorem lsel_id {w : World} {mean : ExcName → Option Value} {mg mb : Str → Option Value} {news : List (Addr × Obj)} {pth : Addr} {t1 t2 t3 : Tok} {p6 : Int}
  {dp un : Nat} {gd : Option (List Code)} {cn : Str} {cs : PySem.Scope} {a : Addr} {ccd : Value} {cl : List (Str × Addr)} {outer : List Env} {A₀ : Around} {base h₀ : Heap} {L : Addr} {m : Str → Option Value} {s : Shared} {Q E : Value → Shared → Prop}
  (B : Below A₀ base outer h₀) (F : Fr h₀ L s.heap m) (X : (hp w.params).In h₀) (N : News h₀ L s.heap ((pth, { cls := .type "tuple", data := .seq #[.str (Str.ofString "id") t1, .int p6 t2, .str (Str.ofString "x") t3] }) :: news)) (T : Top vw (looseW vw [Str.ofString "GateloomError", Str.ofString "vec"]) mean mg mb h₀) (hk : cs.kind = .function)
  (hdp : dp + 5 < recursionLimit) (hun : un + 90 < cLine)
  (hret : ∀ h' tk', Fr h₀ L h' m → News h₀ L h' ((pth, { cls := .type "tuple", data := .seq #[.str (Str.ofString "id") t1, .int p6 t2, .str (Str.ofString "x") t3] }) :: news) → Q (.ref pth) { s with heap := h', toks := tk' }) :
  wpAny (model PySem.Challenge.rw_pq0461_01.row.prog w) (ktrTop dp un gd cn cs L a ccd cl outer) (call (.ref 97) [.ref pth]) Q E s := by
  revert X; k_fill; intro X
  refine wpAny_call ?_
  k_dflt walk_at "mine enter"
  k_steps
  (rename News h₀ L _ _ => hN)
  exact hret _ _ (by assumption) (by assumption)
end
theorem readsAll_snoc' {h : Heap} {x : Value} {d : PyData} (hx : Reads h x d []) : ∀ {zs : List Value} {ds : List PyData} {as : List Addr}, ReadsAll h zs ds as → as = [] → ReadsAll h (zs ++ [x]) (ds ++ [d]) []
  | [], _, _, r, _ => by cases r; exact .cons (as := []) (bs := []) hx .nil
  | z :: zs, _, _, r, e => by
    cases r with
    | cons a b =>
      obtain ⟨rfl, rfl⟩ := List.append_eq_nil_iff.mp e
      exact .cons (as := []) (bs := []) a (readsAll_snoc' hx b rfl)
theorem readsAll_snoc {h : Heap} {x : Value} {d : PyData} (hx : Reads h x d []) {zs : List Value} {ds : List PyData} (r : ReadsAll h zs ds []) : ReadsAll h (zs ++ [x]) (ds ++ [d]) [] := readsAll_snoc' hx r rfl
theorem canLay_snoc (d : PyData) : ∀ ds : List PyData, PyData.canLayAll0 (ds ++ [d]) = (PyData.canLayAll0 ds && d.canLay0)
  | [] => by simp [PyData.canLayAll0]
  | x :: r => by simp [PyData.canLayAll0, canLay_snoc d r, Bool.and_assoc]
theorem depth_snoc (d : PyData) : ∀ ds : List PyData, PyData.depthAll (ds ++ [d]) = max (PyData.depthAll ds) d.depth
  | [] => by simp [PyData.depthAll]
  | x :: r => by simp [PyData.depthAll, depth_snoc d r, Nat.max_assoc]
theorem eqv_snoc (d : PyData) (hd : PyData.eqv d d = true) : ∀ ds : List PyData, PyData.eqvAll ds ds = true → PyData.eqvAll (ds ++ [d]) (ds ++ [d]) = true
  | [], _ => by simp [PyData.eqvAll, hd]
  | x :: r, h => by
    simp only [PyData.eqvAll, Bool.and_eq_true] at h
    simp [PyData.eqvAll, h.1, eqv_snoc d hd r h.2]
/-- data as the law's parts have them -/
structure Good (n : Nat) (d : PyData) : Prop where
  lay : d.canLay0 = true
  dep : d.depth ≤ n
  eq : PyData.eqv d d = true
structure Goods (n : Nat) (ds : List PyData) : Prop where
  lay : PyData.canLayAll0 ds = true
  dep : PyData.depthAll ds ≤ n
  eq : PyData.eqvAll ds ds = true
theorem Goods.snoc {n : Nat} {ds : List PyData} {d : PyData} (a : Goods n ds) (b : Good n d) : Goods n (ds ++ [d]) :=
  ⟨by rw [canLay_snoc, a.lay, b.lay]; rfl, by rw [depth_snoc]; exact Nat.max_le.mpr ⟨a.dep, b.dep⟩, eqv_snoc d b.eq ds a.eq⟩
theorem Goods.cons {n : Nat} {ds : List PyData} {d : PyData} (b : Good n d) (a : Goods n ds) : Goods n (d :: ds) :=
  ⟨by simp [PyData.canLayAll0, a.lay, b.lay], by simp only [PyData.depthAll]; exact Nat.max_le.mpr ⟨b.dep, a.dep⟩, by simp [PyData.eqvAll, a.eq, b.eq]⟩
theorem Goods.nil {n : Nat} : Goods n [] := ⟨rfl, Nat.zero_le _, by simp [PyData.eqvAll]⟩
theorem Goods.tuple {n : Nat} {ds : List PyData} (a : Goods n ds) : Good (n + 1) (.tuple ds) :=
  ⟨by simp [PyData.canLay0, a.lay], by have := a.dep; simp only [PyData.depth]; omega, by simp [PyData.eqv, a.eq]⟩
theorem Good.more {n k : Nat} {d : PyData} (a : Good n d) (h : n ≤ k) : Good k d := ⟨a.lay, Nat.le_trans a.dep h, a.eq⟩
theorem Good.str {n : Nat} {x : Str} (h : PyData.strOk x = true) : Good n (.str x) := ⟨by simp [PyData.canLay0, h], Nat.zero_le _, by simp [PyData.eqv]⟩
theorem Good.int {n : Nat} {x : Int} : Good n (.int x) := ⟨rfl, Nat.zero_le _, by simp [PyData.eqv]⟩
theorem Good.none {n : Nat} : Good n .none := ⟨rfl, Nat.zero_le _, by simp [PyData.eqv]⟩
theorem Good.shaped {n : Nat} {d : PyData} (a : Good n d) (h : n ≤ 64) : SeqAt.shaped d = true := by
  unfold SeqAt.shaped
  rw [a.lay, decide_eq_true (Nat.le_trans a.dep h)]; rfl
noncomputable def ReadsAllIn (h₀ : Heap) (L : Addr) (K : List (Addr × Obj)) (zs : List Value) (ds : List PyData) : Prop := ∀ (h : Heap) (led : List (Addr × Obj)), News h₀ L h led → (∀ p ∈ K, p ∈ led) → ReadsAll h zs ds []
theorem parts_data {h₀ : Heap} {L : Addr} {K : List (Addr × Obj)} : ∀ zs : List Value, (∀ z ∈ zs, PartD h₀ L K z) → ∃ ds, ReadsAllIn h₀ L K zs ds ∧ Goods 3 ds
  | [], _ => ⟨[], fun _ _ _ _ => .nil, .nil⟩
  | z :: r, hz => by
    obtain ⟨ds, rd, gd⟩ := parts_data r fun z h => hz z (.tail _ h)
    obtain ⟨q, nm, tn, x, rfl, mq, ⟨d, r1, r2, r3, r4, -⟩, ok⟩ := hz _ (.head _)
    refine ⟨.tuple [.str nm, d] :: ds, fun h led N hR => .cons (as := []) (bs := []) (reads_tuple_at (N _ (hR _ mq)).1 rfl rfl (.cons (as := []) (bs := []) (.str ..) (.cons (as := []) (bs := []) (r1 h led N hR) .nil))) (rd h led N hR), .cons ?_ gd⟩
    exact Goods.tuple (n := 2) (.cons (.str ok) (.cons ⟨r2, r3, r4⟩ .nil))
section
variable {h₀ h : Heap} {L : Addr} {K led : List (Addr × Obj)} {zs : List Value} {ds : List PyData} {q pt pth r y : Addr} {nm : Str} {tn t1 t2 t3 t4 : Tok} {x : Value} {d : PyData} {n1 n2 : Nat}
theorem path_reads (N : News h₀ L h led) (hR : ∀ p ∈ K, p ∈ led) (rd : ReadsAllIn h₀ L K zs ds) (rx : Reads h x d []) (m1 : (pth, { cls := .type "tuple", data := .seq #[.str (Str.ofString "path") t1, .int 6 t2, .ref pt] }) ∈ led)
    (m2 : (pt, { cls := .type "tuple", data := .seq (zs ++ [Value.ref q]).toArray n1 }) ∈ led) (m3 : (q, { cls := .type "tuple", data := .seq #[.str nm tn, x] }) ∈ led) :
    Reads h (.ref pth) (.tuple [.str (Str.ofString "path"), .int 6, .tuple (ds ++ [.tuple [.str nm, d]])]) [] := by
  have r3 : Reads h (.ref q) (.tuple [.str nm, d]) [] := reads_tuple_at (N _ m3).1 rfl rfl (.cons (as := []) (bs := []) (.str ..) (.cons (as := []) (bs := []) rx .nil))
  have r2 : Reads h (.ref pt) (.tuple (ds ++ [.tuple [.str nm, d]])) [] := reads_tuple_at (N _ m2).1 rfl rfl (by rw [List.toList_toArray]; exact readsAll_snoc r3 (rd h led N hR))
  exact reads_tuple_at (N _ m1).1 rfl rfl (.cons (as := []) (bs := []) (.str ..) (.cons (as := []) (bs := []) (.int ..) (.cons (as := []) (bs := []) r2 .nil)))
theorem index_reads (N : News h₀ L h led) (rp : Reads h (.ref pth) d []) (ry : ReadsIn h₀ L K x dx) (hR : ∀ p ∈ K, p ∈ led) (m0 : (r, { cls := .type "tuple", data := .seq #[.str (Str.ofString "index") t3, .int 6 t4, .ref pth, x] }) ∈ led) :
    Reads h (.ref r) (.tuple [.str (Str.ofString "index"), .int 6, d, dx]) [] :=
  reads_tuple_at (N _ m0).1 rfl rfl (.cons (as := []) (bs := []) (.str ..) (.cons (as := []) (bs := []) (.int ..) (.cons (as := []) (bs := []) rp (.cons (as := []) (bs := []) (ry h led N hR) .nil))))
theorem path_good (g : Goods 3 ds) (ok : PyData.strOk nm = true) (gd : Good 2 d) : Good 5 (.tuple [.str (Str.ofString "path"), .int 6, .tuple (ds ++ [.tuple [.str nm, d]])]) :=
  Goods.tuple (n := 4) (.cons (.str (by decide +kernel)) (.cons .int (.cons (Goods.tuple (n := 3) (g.snoc (Goods.tuple (n := 2) (.cons (.str ok) (.cons gd .nil))))) .nil)))
theorem index_good (g : Good 5 d) (ok : Good 2 dx) : Good 6 (.tuple [.str (Str.ofString "index"), .int 6, d, dx]) :=
  Goods.tuple (n := 5) (.cons (.str (by decide +kernel)) (.cons .int (.cons g (.cons (ok.more (by decide)) .nil))))
end
theorem ne_path {prog : PySem.Program} {w : World} {A : Around} {E : Value → Shared → Prop} {s : Shared} {h₀ : Heap} {L : Addr} {K led : List (Addr × Obj)} {zs : List Value} {ds : List PyData} {q pt pth : Addr} {nm : Str} {tn t1 t2 : Tok} {n1 : Nat} {Q : Value → Shared → Prop}
    (N : News h₀ L s.heap led) (hR : ∀ p ∈ K, p ∈ led) (rd : ReadsAllIn h₀ L K zs ds) (g : Goods 3 ds) (ok : PyData.strOk nm = true) (m1 : (pth, { cls := .type "tuple", data := .seq #[.str (Str.ofString "path") t1, .int 6 t2, .ref pt] }) ∈ led)
    (m2 : (pt, { cls := .type "tuple", data := .seq (zs ++ [Value.ref q]).toArray n1 }) ∈ led) (m3 : (q, { cls := .type "tuple", data := .seq #[.str nm tn, .none] }) ∈ led) (hu : A.units + 64 < cLine) (h : Q (.bool false) s) :
    wpAny (model prog w) A (compareOp .NotEq (.ref pth) (.ref pth)) Q E s := by
  have r := path_reads N hR rd .none m1 m2 m3
  have gg := path_good g ok .none
  exact ne_dataH r r (gg.shaped (by decide)) (gg.shaped (by decide)) hu (by rw [gg.eq]; exact h)
theorem ne_index {prog : PySem.Program} {w : World} {A : Around} {E : Value → Shared → Prop} {s : Shared} {h₀ : Heap} {L : Addr} {K led : List (Addr × Obj)} {zs : List Value} {ds : List PyData} {q pt pth r q' pt' pth' r' : Addr} {nm : Str} {tn t1 t2 t3 t4 tn' t1' t2' t3' t4' : Tok} {n1 n1' : Nat} {x : Value} {dx : PyData} {Q : Value → Shared → Prop}
    (N : News h₀ L s.heap led) (hR : ∀ p ∈ K, p ∈ led) (rd : ReadsAllIn h₀ L K zs ds) (g : Goods 3 ds) (ok : PyData.strOk nm = true) (rx : ReadsIn h₀ L K x dx) (gx : Good 2 dx)
    (m0 : (r, { cls := .type "tuple", data := .seq #[.str (Str.ofString "index") t3, .int 6 t4, .ref pth, x] }) ∈ led) (m1 : (pth, { cls := .type "tuple", data := .seq #[.str (Str.ofString "path") t1, .int 6 t2, .ref pt] }) ∈ led)
    (m2 : (pt, { cls := .type "tuple", data := .seq (zs ++ [Value.ref q]).toArray n1 }) ∈ led) (m3 : (q, { cls := .type "tuple", data := .seq #[.str nm tn, .none] }) ∈ led)
    (m0' : (r', { cls := .type "tuple", data := .seq #[.str (Str.ofString "index") t3', .int 6 t4', .ref pth', x] }) ∈ led) (m1' : (pth', { cls := .type "tuple", data := .seq #[.str (Str.ofString "path") t1', .int 6 t2', .ref pt'] }) ∈ led)
    (m2' : (pt', { cls := .type "tuple", data := .seq (zs ++ [Value.ref q']).toArray n1' }) ∈ led) (m3' : (q', { cls := .type "tuple", data := .seq #[.str nm tn', .none] }) ∈ led) (hu : A.units + 64 < cLine) (h : Q (.bool false) s) :
    wpAny (model prog w) A (compareOp .NotEq (.ref r) (.ref r')) Q E s := by
  have a := index_reads N (path_reads N hR rd .none m1 m2 m3) rx hR m0
  have b := index_reads N (path_reads N hR rd .none m1' m2' m3') rx hR m0'
  have gg := index_good (path_good g ok .none) gx
  exact ne_dataH a b (gg.shaped (by decide)) (gg.shaped (by decide)) hu (by rw [gg.eq]; exact h)
section
theorem drop_mid {h₀ h : Heap} {L : Addr} {a b c d e f g : Addr × Obj} {l : List (Addr × Obj)} (N : News h₀ L h (a :: b :: c :: d :: e :: f :: g :: l)) : News h₀ L h (a :: b :: c :: d :: l) := cb_drop N fun p hp => by
  simp only [List.mem_cons] at hp ⊢
  rcases hp with h | h | h | h | h <;> simp [h]
theorem lst_snoc {prog : PySem.Program} {w : World} {A : Around} {E : Value → Shared → Prop} {s : Shared} {h₀ : Heap} {L : Addr} {m : Str → Option Value} {news : List (Addr × Obj)} {t b : Addr} {zs : List Value} {x : Value} {n k : Nat} {Q : Value → Shared → Prop}
    (F : Fr h₀ L s.heap m) (N : News h₀ L s.heap news) (ha : (t, listOf zs.toArray n) ∈ news) (hb : (b, listOf [x].toArray k) ∈ news) (hz : zs.length ≤ 2)
    (h : ∀ D h', Fr h₀ L h' m → News h₀ L h' ((D, listOf (zs ++ [x]).toArray 0) :: news) → (∀ p ∈ news, p.1 < D) → Q (.ref D) { s with heap := h' }) :
    wpAny (model prog w) A (binaryOp .Add (.ref t) (.ref b)) Q E s :=
  add_lists F N ⟨_, (N _ ha).1, rfl, _, rfl⟩ ⟨_, (N _ hb).1, rfl, _, rfl⟩ (fun h' F' N' => h _ h' F' N' fun p hp => Heap.lt_size (N p hp).1) (by rw [sizeLine_eq]; simp; omega)
theorem pick_zs (zs : List Value) (x : Value) : (slicePick (zs ++ [x]).toArray none (some (-1)) none).toList = zs := by
  have e : sliceBounds none (some (-1)) none (zs ++ [x]).toArray.size = (((0 : Nat) : Int), ((zs.length : Nat) : Int), 1) := by
    unfold sliceBounds
    simp
    omega
  rw [kmk_pick_nat _ e]
  simp
local macro_rules | `(tactic| walk_at "subscriptTail Name UnaryOp ref int") => `(tactic| (k_here; k_dflt (refine' Mine.lst_last (by k_asm) (by k_mem) ?_ (by with_unfolding_all rfl) (by kmk_pure))))
local macro_rules | `(tactic| walk_at "subscriptTail Name Slice ref ref") => `(tactic| (k_here; k_dflt (refine' kmk_slice_lit (by k_asm) (by k_asm) (by kmk_list) (by kmk_part) (by kmk_part) (Mine.pick_zs _ _) ?_ (by with_unfolding_all rfl) (by kmk_pure) (Mine.few_ok (by assumption) _)); intro D' h' F' N' l1; (try k_lt l1); (try k_sweep)))
local macro_rules | `(tactic| walk_at "binaryOp Add ref ref") => `(tactic| (k_here; k_dflt (refine' Mine.lst_snoc (by k_asm) (by k_asm) (by k_mem) (by k_mem) (by assumption) ?_); intro D' h' F' N' l1; (try k_lt l1); (try k_sweep)))
local macro_rules | `(tactic| walk_at "call ref") => `(tactic| (k_here; (with_reducible show wpAny _ _ (call (Value.ref 97) _) _ _ _); k_dflt (
  (rename News _ _ _ _ => N8)
  refine' Mine.lsel_none (by k_asm) (by k_asm) (by k_asm) (cb_drop N8 (List.forall_mem_cons.mpr ⟨(by k_mem), List.forall_mem_cons.mpr ⟨(by k_mem), List.forall_mem_cons.mpr ⟨(by k_mem), fun q hq => hq⟩⟩⟩)) (by k_asm) (by exact rfl) (by assumption) (by ktr_room) (by ktr_units) ?_
  intro h9 tk9 F9 N9
  (replace N9 := cb_drop N9 (fun q hq => .tail _ (.tail _ (.tail _ hq))))
  (try dsimp only)
  (try k_fold))))
local macro_rules | `(tactic| walk_at "call ref") => `(tactic| (k_here; (with_reducible show wpAny _ _ (call (Value.ref 97) _) _ _ _); k_dflt (
  (rename News _ _ _ _ => N8)
  refine' Mine.lsel_ref (by k_asm) (by k_asm) (by k_asm) (cb_drop N8 (List.forall_mem_cons.mpr ⟨(by k_mem), List.forall_mem_cons.mpr ⟨(by k_mem), List.forall_mem_cons.mpr ⟨(by k_mem), fun q hq => hq⟩⟩⟩)) (by k_asm) (by exact rfl) (by assumption) (by ktr_room) (by ktr_units) ?_
  intro r9 p9 w9 q9 t9 u9 h9 tk9 F9 N9
  (replace N9 := Mine.drop_mid N9)
  (try dsimp only)
  (try k_fold))))
local macro_rules | `(tactic| walk_at "call ref") => `(tactic| (k_here; (with_reducible show wpAny _ _ (call (Value.ref 97) _) _ _ _); k_dflt (
  (rename News _ _ _ _ => N8)
  refine' Mine.lsel_id (by k_asm) (by k_asm) (by k_asm) (cb_drop N8 (List.forall_mem_cons.mpr ⟨(by k_mem), fun q hq => hq⟩)) (by k_asm) (by exact rfl) (by ktr_room) (by ktr_units) ?_
  intro h9 tk9 F9 N9
  (replace N9 := cb_drop N9 (fun q hq => .tail _ hq))
  (try dsimp only)
  (try k_fold))))
local macro_rules | `(tactic| walk_at "compareOp NotEq ref ref") => `(tactic| (k_here; k_dflt (
  refine' Mine.ne_path ?N ?R ?rd ?g ?ok ?m1 ?m2 ?m3 ?hu ?_
  (case N => k_asm)
  (case rd => assumption)
  (case g => assumption)
  (case ok => assumption)
  (case m1 => k_mem)
  (case m2 => k_mem)
  (case m3 => k_mem)
  (case R => (intro p hp; repeat (first | exact hp | apply List.Mem.tail)))
  (case hu => ke_room))))
local macro_rules | `(tactic| walk_at "compareOp NotEq ref ref") => `(tactic| (k_here; k_dflt (
  refine' Mine.ne_index ?N ?R ?rd ?g ?ok ?rx ?gx ?m0 ?m1 ?m2 ?m3 ?n0 ?n1 ?n2 ?n3 ?hu ?_
  (case N => k_asm)
  (case m0 => k_mem)
  (case m1 => k_mem)
  (case m2 => k_mem)
  (case m3 => k_mem)
  (case n0 => k_mem)
  (case n1 => k_mem)
  (case n2 => k_mem)
  (case n3 => k_mem)
  (case rd => assumption)
  (case g => assumption)
  (case ok => assumption)
  (case rx => assumption)
  (case gx => assumption)
  (case R => (intro p hp; repeat (first | exact hp | apply List.Mem.tail)))
  (case hu => ke_room))))
theorem pc_gN {w : World} {mean : ExcName → Option Value} {mg mb : Str → Option Value} {rest : List Stmt} {c2 cS : Addr × Obj} {K : List (Addr × Obj)} {zs : List Value} {ds : List PyData} {D q : Addr} {nm : Str} {tn : Tok} 
  {a : Addr} {ccd : Value} {h₀ : Heap} {L : Addr} {m : Str → Option Value} {s : Shared} {Q : Flow → Shared → Prop} {E : Value → Shared → Prop}
  (B : Below callerA h₀ [] h₀) (F : Fr h₀ L s.heap m) (X : (hp w.params).In h₀) (N : News h₀ L s.heap ((D, LCg.lst (zs ++ [Value.ref q])) :: c2 :: cS :: (q, { cls := .type "tuple", data := .seq #[.str nm tn, .none] }) :: K)) (T : Top vw (looseW vw [Str.ofString "GateloomError", Str.ofString "vec"]) mean mg mb h₀)
  (hz : zs.length ≤ 2) (rd : ReadsAllIn h₀ L K zs ds) (g : Goods 3 ds) (ok : PyData.strOk nm = true) (hpt : m (Str.ofString "parts") = some (.ref D))
  (hnext : ∀ h' tk' m', Fr h₀ L h' m' → News h₀ L h' [c2, cS] → wpAny (model PySem.Challenge.rw_pq0461_01.row.prog w) (callerA.deeper (lawE L a ccd)) (execs rest (lawE L a ccd)) Q E { s with heap := h', toks := tk' }) :
  wpAny (model PySem.Challenge.rw_pq0461_01.row.prog w) (callerA.deeper (lawE L a ccd)) (execs (b18 :: b19 :: b20 :: b21 :: rest) (lawE L a ccd)) Q E s := by
  revert X; k_fill; intro X
  rw [← nameIn hpt] at F
  (try dsimp only at F)
  delta b18 b19 b20 b21
  k_steps
  (rename News _ _ _ _ => hN)
  exact hnext _ _ _ (by assumption) (cb_drop hN (List.forall_mem_cons.mpr ⟨by repeat (first | exact .head _ | apply List.Mem.tail), List.forall_mem_cons.mpr ⟨by repeat (first | exact .head _ | apply List.Mem.tail), fun _ h => nomatch h⟩⟩))
theorem pc_gR {w : World} {mean : ExcName → Option Value} {mg mb : Str → Option Value} {rest : List Stmt} {c2 cS : Addr × Obj} {K : List (Addr × Obj)} {zs : List Value} {ds : List PyData} {D q : Addr} {nm : Str} {tn : Tok} {y : Addr} {dx : PyData}
  {a : Addr} {ccd : Value} {h₀ : Heap} {L : Addr} {m : Str → Option Value} {s : Shared} {Q : Flow → Shared → Prop} {E : Value → Shared → Prop}
  (B : Below callerA h₀ [] h₀) (F : Fr h₀ L s.heap m) (X : (hp w.params).In h₀) (N : News h₀ L s.heap ((D, LCg.lst (zs ++ [Value.ref q])) :: c2 :: cS :: (q, { cls := .type "tuple", data := .seq #[.str nm tn, .ref y] }) :: K)) (T : Top vw (looseW vw [Str.ofString "GateloomError", Str.ofString "vec"]) mean mg mb h₀)
  (hz : zs.length ≤ 2) (rd : ReadsAllIn h₀ L K zs ds) (g : Goods 3 ds) (ok : PyData.strOk nm = true) (rx : ReadsIn h₀ L K (.ref y) dx) (gx : Good 2 dx) (hpt : m (Str.ofString "parts") = some (.ref D))
  (hnext : ∀ h' tk' m', Fr h₀ L h' m' → News h₀ L h' [c2, cS] → wpAny (model PySem.Challenge.rw_pq0461_01.row.prog w) (callerA.deeper (lawE L a ccd)) (execs rest (lawE L a ccd)) Q E { s with heap := h', toks := tk' }) :
  wpAny (model PySem.Challenge.rw_pq0461_01.row.prog w) (callerA.deeper (lawE L a ccd)) (execs (b18 :: b19 :: b20 :: b21 :: rest) (lawE L a ccd)) Q E s := by
  revert X; k_fill; intro X
  rw [← nameIn hpt] at F
  (try dsimp only at F)
  delta b18 b19 b20 b21
  k_steps
  (rename News _ _ _ _ => hN)
  exact hnext _ _ _ (by assumption) (cb_drop hN (List.forall_mem_cons.mpr ⟨by repeat (first | exact .head _ | apply List.Mem.tail), List.forall_mem_cons.mpr ⟨by repeat (first | exact .head _ | apply List.Mem.tail), fun _ h => nomatch h⟩⟩))
end
section
local macro_rules | `(tactic| walk_at "call ref") => `(tactic| (k_here; (with_reducible show wpAny _ _ (call (Value.ref 366) _) _ _ _); k_dflt (
  refine' Mine.lit_use (by k_asm) (by k_asm) (by k_asm) (by k_asm) (by k_asm) (by first | exact rfl | assumption) (by k_asm) (by l_ints) (by l_fit) (by ktr_room) (by ktr_units) ?_
  intros
  walk_at "mine end")))
local macro_rules | `(tactic| walk_at "call ref") => `(tactic| (k_here; (with_reducible show wpAny _ _ (call (Value.ref 356) _) _ _ _); k_dflt (
  refine' Mine.text_use (by k_asm) (by k_asm) (by k_asm) (by k_asm) (by k_asm) (by first | exact rfl | assumption) (by k_asm) (by l_ints) (by l_fit) (by ktr_room) (by ktr_units) ?_
  intros
  walk_at "mine end")))
local macro_rules | `(tactic| walk_at "call ref") => `(tactic| (k_here; (first | (with_reducible show wpAny _ _ (call (Value.ref 125) _) _ _ _) | (with_reducible show wpAny _ _ (call (Value.ref 361) _) _ _ _)); k_dflt (
  first | refine' Mine.tv_use (by k_asm) (by k_asm) (by k_asm) (by k_asm) (by k_asm) (by first | exact rfl | assumption) (by assumption) (by ktr_room) (by ktr_units) ?_ | refine' Mine.oc_call (by k_asm) (by k_asm) (by k_asm) (by k_asm) (by k_asm) (by first | exact rfl | assumption) (by assumption) (by ktr_room) (by ktr_units) ?_
  intros
  walk_at "mine lt"
  walk_at "mine end")))
theorem pc_h {w : World} {mean : ExcName → Option Value} {mg mb : Str → Option Value} {c2 : Addr × Obj} {oS : Obj} {l : Addr} {vs : List Value} {ns : List Int}
  {a : Addr} {ccd : Value} {h₀ : Heap} {L : Addr} {m : Str → Option Value} {s : Shared} {Q : Flow → Shared → Prop} {E : Value → Shared → Prop}
  (B : Below callerA h₀ [] h₀) (F : Fr h₀ L s.heap m) (X : (hp w.params).In h₀) (N : News h₀ L s.heap [c2, (L + 1, oS)]) (T : Top vw (looseW vw [Str.ofString "GateloomError", Str.ofString "vec"]) mean mg mb h₀)
  (hS : oS.data = .cell (some (.ref l))) (hl : h₀.IsList l vs.toArray) (hi : IntsAre vs ns) (hf : ns.length < 2 ^ 62)
  (hret : ∀ h' tk' m', Fr h₀ L h' m' → Q (.ret (.bool true)) { s with heap := h', toks := tk' }) :
  wpAny (model PySem.Challenge.rw_pq0461_01.row.prog w) (callerA.deeper (lawE L a ccd)) (execs [b22, b23] (lawE L a ccd)) Q E s := by
  revert X; k_fill; intro X
  delta b22 b23
  k_steps
  exact hret _ _ _ (by assumption)
end
theorem law_all {w : World} {mean : ExcName → Option Value} {mg mb : Str → Option Value} {oP oS : Obj} {vP : Option Value} {l : Addr} {vs : List Value} {ns : List Int}
  {a : Addr} {ccd : Value} {h₀ : Heap} {L : Addr} {m : Str → Option Value} {s : Shared} {Q : Flow → Shared → Prop} {E : Value → Shared → Prop}
  (B : Below callerA h₀ [] h₀) (F : Fr h₀ L s.heap m) (X : (hp w.params).In h₀) (N : News h₀ L s.heap [(L + 1 + 1, oP), (L + 1, oS)]) (T : Top vw (looseW vw [Str.ofString "GateloomError", Str.ofString "vec"]) mean mg mb h₀)
  (hP : oP.data = .cell vP) (hS : oS.data = .cell (some (.ref l))) (hl : h₀.IsList l vs.toArray) (hi : IntsAre vs ns) (hf : ns.length < 2 ^ 62)
  (hE : PassesOwn (model PySem.Challenge.rw_pq0461_01.row.prog w) (callerA.deeper (lawE L a ccd)) (lawE L a ccd) E)
  (hret : ∀ h' tk' m', Fr h₀ L h' m' → Q (.ret (.bool true)) { s with heap := h', toks := tk' }) :
  wpAny (model PySem.Challenge.rw_pq0461_01.row.prog w) (callerA.deeper (lawE L a ccd)) (execs [b0, b1, b2, b3, b4, b5, b6, b7, b8, b9, b10, b11, b12, b13, b14, b15, b16, b17, b18, b19, b20, b21, b22, b23] (lawE L a ccd)) Q E s := by
  with_reducible refine pc_a B F X N T fun sc de sl bp ob R h1 k1 m1 F1 N1 D1 P1 hn hde hsc => ?_
  have c2 := hn _ (.head _)
  have c1 := hn _ (.tail _ (.head _))
  have N1' : News h₀ L h1 ((sl, listOf #[] 0) :: (bp, ob) :: (L + 1 + 1, oP) :: (L + 1, oS) :: R) := cb_drop N1 fun p hp => by
    simp only [List.mem_cons] at hp ⊢
    rcases hp with h | h | h | h | h
    · exact .inl h
    · exact .inr (.inl h)
    · exact .inr (.inr (h ▸ c2))
    · exact .inr (.inr (h ▸ c1))
    · exact .inr (.inr h)
  have D1' : Dsg ((L + 1 + 1, oP) :: (L + 1, oS) :: R) sc de sl bp := D1.more (fun p hp => .tail _ (.tail _ hp)) (List.forall_mem_cons.mpr ⟨D1.off _ c2, List.forall_mem_cons.mpr ⟨D1.off _ c1, fun p hp => D1.off p hp⟩⟩)
  with_reducible refine pc_b B F1 X N1' T hS hl hi hf D1' P1 hde hsc fun R2 h2 k2 m2 t0 tw0 tw1 tw2 tm0 tm1 tm2 tl0 tl1 tl2 tf F2 N2 S0 S1 S2 hhi hsc => ?_
  with_reducible refine pc_c B F2 X N2 T hS hl hi hf hhi hsc S0 S1 fun R3 rl q0 q1 q2 q3 q4 q5 n h3 k3 m3 F3 N3 hR hrl hv hrw hsc => ?_
  with_reducible refine pc_d B F3 X N3 T hrl hv hrw hsc hE fun h4 k4 m4 F4 N4 hsc => ?_
  have S2' := S2.more hR
  with_reducible refine pc_e B F4 X N4 T S2' hsc fun h5 k5 m5 F5 N5 => ?_
  with_reducible refine pc_f B F5 X N5 T hP hS hl hi hf fun D zs q nm tn x K oP' vP' h6 k6 m6 F6 N6 hP' hz hp hq hx ok hpt => ?_
  obtain ⟨ds, rd, g⟩ := parts_data zs hp
  obtain ⟨d, r1, r2, r3, r4, r5⟩ := hx
  have N6' : News h₀ L h6 ((D, LCg.lst (zs ++ [Value.ref q])) :: (L + 1 + 1, oP') :: (L + 1, oS) :: (q, { cls := .type "tuple", data := .seq #[.str nm tn, x] }) :: K) := cb_drop N6 fun p hp => by
    simp only [List.mem_cons] at hp ⊢
    rcases hp with h | h | h | h | h
    · exact .inl h
    · exact .inr (.inl h)
    · exact .inr (.inr (.inl h))
    · exact .inr (.inr (.inr (h ▸ hq)))
    · exact .inr (.inr (.inr h))
  rcases r5 with ⟨rfl, rfl⟩ | ⟨y, rfl⟩
  · with_reducible refine pc_gN B F6 X N6' T hz rd g ok hpt fun h7 k7 m7 F7 N7 => ?_
    with_reducible exact pc_h B F7 X N7 T hS hl hi hf fun h8 k8 m8 F8 => hret h8 k8 m8 F8
  · have gx : Good 2 d := ⟨r2, r3, r4⟩
    with_reducible refine pc_gR B F6 X N6' T hz rd g ok r1 gx hpt fun h7 k7 m7 F7 N7 => ?_
    with_reducible exact pc_h B F7 X N7 T hS hl hi hf fun h8 k8 m8 F8 => hret h8 k8 m8 F8
theorem holds : PySem.Challenge.rw_pq0461_01.Holds := by
  w_on
  refine holds_law said_law fun said => ?_
  refine holds_open (q := vw) (loose := [Str.ofString "GateloomError", Str.ofString "vec"]) (Xt := fun s => xlAt vw [] s && recOk PySem.Challenge.rw_pq0461_01.row.records s) (XP := XL vw []) (Yf := Hook.obs (kHook hp as as_eq)) (Ya := Hook.val (kHook hp as as_eq)) (YP := Hook.says (kHook hp as as_eq)) (N := 4962) left (Hook.of (kHook hp as as_eq)) (Hook.keeps (kHook hp as as_eq)) (fun s e => xl_of s (Bool.and_eq_true_iff.mp e).1) XL.keeps (by rfl) (by rfl) (by rfl) (fun s e => recFacts_of (Bool.and_eq_true_iff.mp e).2) (by rfl) (by first | assumption | decide +kernel) (by decide +kernel) ⟨rfl, rfl, rfl, rfl, rfl, tables⟩ ?hw ?hc
  case hw => w_witness2
  case hc =>
    clear said
    k_go0
    all_goals try k_fold
    rename IntsAre _ _ => hInts
    rename Heap.IsList _ _ _ => hList
    show wpAny (model _ _) (callerA.deeper (lawE _ _ _)) (execs [b0, b1, b2, b3, b4, b5, b6, b7, b8, b9, b10, b11, b12, b13, b14, b15, b16, b17, b18, b19, b20, b21, b22, b23] (lawE _ _ _)) _ _ _
    (rename Below _ _ _ _ => g1)
    (rename Fr _ _ _ _ => g2)
    (rename Frag.In _ _ => g3)
    (rename News _ _ _ _ => g4)
    (rename Top _ _ _ _ _ _ => g5)
    (rename Obj.data _ = _ => g7)
    revert g7
    (rename Obj.data _ = _ => g6)
    intro g7
    refine law_all g1 g2 g3 g4 g5 g6 g7 hList hInts ?qa ?qb ?qc
    case qa => l_fit
    case qb => passes_own
    case qc =>
      intro h' tk' m' F'
      k_steps
end Mine
theorem PySem.Challenge.cw_pq0461_01_holds : PySem.Challenge.rw_pq0461_01.Holds := by
  exact Mine.holds
