import PyProof.Rows.All
import Wide.All
import OpenK.AllK
import Wide.FinOn
import PySem.Challenge.RW_pq0542_01
set_option Elab.async false
set_option linter.all false
set_option compiler.extract_closed false
section
open PySem PySem.W PyProof.Rows
set_option linter.unusedVariables false
namespace Mine
theorem left_of {p q : Program} {loose : List Str} {Xt : Shared → Bool} {α : Type} {Yf : Shared → α} {Ya : World → α} {N : Nat} {g0 : Bool} {H₀ : Params → Heap} {gs₀ : Array GenState} {d₀ : Drawn} {k₀ : Nat}
    (open_ : ∀ w : World, (fencedOpening treeTable p w N).map (fun s => (s.heap, s.gens, s.drawn, s.toks)) = some (H₀ w.params, gs₀, d₀, k₀))
    (h : ∀ w : World, (fun os => (topFrom treeTable p w N ⟨H₀ w.params, gs₀, d₀, k₀, os⟩).map (fun s => (openSeen q loose (importedModules p.main.body) Xt g0 s, Yf s))) = fun _ => some (openGood q loose, Ya w)) : LeftO p q loose Xt Yf Ya N g0 := fun w => by
  obtain ⟨⟨h', gs, d, k, os⟩, e, e'⟩ := Option.map_eq_some_iff.mp (open_ w)
  obtain ⟨rfl, rfl, rfl, rfl⟩ : h' = H₀ w.params ∧ gs = gs₀ ∧ d = d₀ ∧ k = k₀ := by simpa using e'
  unfold openEnds
  rw [e]
  exact congrFun (h w) os
abbrev hd.prog : Program := PySem.Challenge.rw_pq0542_01.row.prog
/-- a statement of the text's top, and one of a class's body -/
def stm (i : Nat) : Option Stmt := hd.prog.main.body[i]?
/-- a statement's block, and the test of an if (told by «cases»: a match of this kind makes a compiled text ten times as big) -/
noncomputable def blk (s : Stmt) : Option (List Stmt × Option PySem.Expr) := by
  cases s with
  | FunctionDef _ _ b => exact some (b, none)
  | ClassDef _ _ _ b => exact some (b, none)
  | For _ _ b => exact some (b, none)
  | If t => exact some ([], some t)
  | _ => exact none
noncomputable def stmIn (i j : Nat) : Option Stmt := (stm i).bind fun s => (blk s).bind fun b => b.1[j]?
/-- what a def of the text makes; its text is found by «rfl» in the statement -/
@[reducible] noncomputable def fnAt {nm : Str} {ps : Arguments} {bd : List Stmt} {de : List PySem.Expr} {rt : Option PySem.Expr} {tp : List TypeParam} {sc : Scope} {ts : Option Scope} {bi : Str} {pos : Pos} (qn : Str) (pm cd : Value) (st : Option Stmt) (_ : st = some (.FunctionDef nm ps bd de rt tp sc ts bi pos)) : Obj :=
  ⟨.type "function", none, .func ⟨nm, qn, ps, .stmts bd, sc, 3, [], .none, .none, .none, pm, none, cd, .none, 0⟩, #[]⟩
@[reducible] noncomputable def recAt {nm : Str} {ps : Arguments} {bd : List Stmt} {de : List PySem.Expr} {rt : Option PySem.Expr} {tp : List TypeParam} {sc : Scope} {ts : Option Scope} {bi : Str} {pos : Pos} (st : Option Stmt) (_ : st = some (.FunctionDef nm ps bd de rt tp sc ts bi pos)) : DefRec := ⟨nm, ps, bd, sc, pos⟩
noncomputable def o_2 (P : Params) : Obj := ⟨.none, none, .dict #[⟨PyData.keyHash P "type.__subclasses__.Exception.0", .str "type.__subclasses__.Exception.0" 205, .int 24 0⟩, ⟨PyData.keyHash P "type.__subclasses__.Exception.n", .str "type.__subclasses__.Exception.n" 206, .int 1 0⟩] 2, #[]⟩
noncomputable def o_3 (P : Params) : Obj := ⟨.type "dict", none, .dict #[⟨PyData.keyHash P "__name__", .str "__name__" 165, .str "law_pq0542_01" 566⟩, ⟨PyData.keyHash P "__doc__", .str "__doc__" 166, .none⟩, ⟨PyData.keyHash P "__package__", .str "__package__" 167, .none⟩, ⟨PyData.keyHash P "__loader__", .str "__loader__" 168, .builtin "__main__.__loader__#opaque"⟩, ⟨PyData.keyHash P "__spec__", .str "__spec__" 169, .none⟩, ⟨PyData.keyHash P "__annotations__", .str "__annotations__" 170, .ref 6⟩, ⟨PyData.keyHash P "__builtins__", .str "__builtins__" 171, .ref 4⟩, ⟨PyData.keyHash P "__file__", .str "__file__" 173, .str "/claim/cut.py" 172⟩, ⟨PyData.keyHash P "__cached__", .str "__cached__" 174, .none⟩, ⟨PyData.keyHash P "GmpError", .str "GmpError" 208, .ref 24⟩, ⟨PyData.keyHash P "OutOfRange", .str "OutOfRange" 224, .ref 37⟩, ⟨PyData.keyHash P "normal", .str "normal" 232, .ref 46⟩, ⟨PyData.keyHash P "compare", .str "compare" 241, .ref 53⟩, ⟨PyData.keyHash P "add", .str "add" 254, .ref 60⟩, ⟨PyData.keyHash P "sub", .str "sub" 268, .ref 67⟩, ⟨PyData.keyHash P "shift_left", .str "shift_left" 283, .ref 74⟩, ⟨PyData.keyHash P "shift_right", .str "shift_right" 298, .ref 81⟩, ⟨PyData.keyHash P "bits", .str "bits" 306, .ref 88⟩, ⟨PyData.keyHash P "low", .str "low" 317, .ref 95⟩, ⟨PyData.keyHash P "TRIES", .str "TRIES" 321, .int 80 320⟩, ⟨PyData.keyHash P "Congruence", .str "Congruence" 375, .ref 126⟩, ⟨PyData.keyHash P "Lagged", .str "Lagged" 416, .ref 154⟩, ⟨PyData.keyHash P "ToldRow", .str "ToldRow" 456, .ref 182⟩, ⟨PyData.keyHash P "random_bits", .str "random_bits" 469, .ref 193⟩, ⟨PyData.keyHash P "random_below", .str "random_below" 481, .ref 200⟩, ⟨PyData.keyHash P "small_below", .str "small_below" 493, .ref 207⟩, ⟨PyData.keyHash P "small_number", .str "small_number" 502, .ref 214⟩, ⟨PyData.keyHash P "row_lengths", .str "row_lengths" 515, .ref 221⟩, ⟨PyData.keyHash P "random_rows", .str "random_rows" 527, .ref 228⟩, ⟨PyData.keyHash P "ones", .str "ones" 535, .ref 235⟩, ⟨PyData.keyHash P "shuffled", .str "shuffled" 547, .ref 242⟩, ⟨PyData.keyHash P "mul_school", .str "mul_school" 565, .ref 249⟩, ⟨PyData.keyHash P "_law_limbs", .str "_law_limbs" 576, .ref 256⟩, ⟨PyData.keyHash P "_law_worth", .str "_law_worth" 582, .ref 261⟩, ⟨PyData.keyHash P "_law_size", .str "_law_size" 590, .ref 268⟩, ⟨PyData.keyHash P "_law_is_refused", .str "_law_is_refused" 597, .ref 275⟩, ⟨PyData.keyHash P "_law_below_right", .str "_law_below_right" 603, .ref 280⟩, ⟨PyData.keyHash P "_law_nothing_right", .str "_law_nothing_right" 622, .ref 287⟩, ⟨PyData.keyHash P "law", .str "law" 628, .ref 292⟩] 39, #[]⟩
noncomputable def o_15 (P : Params) : Obj := ⟨.type "tuple", none, .seq #[.type "Exception"] 0, #[]⟩
noncomputable def o_22 (P : Params) : Obj := ⟨.type "tuple", none, .seq #[] 0, #[]⟩
noncomputable def o_23 (P : Params) : Obj := ⟨.type "dict", none, .dict #[⟨PyData.keyHash P "__module__", .str "__module__" 196, .str "gmp.limbs" 187⟩, ⟨PyData.keyHash P "__firstlineno__", .str "__firstlineno__" 200, .int 2 199⟩, ⟨PyData.keyHash P "__static_attributes__", .str "__static_attributes__" 201, .ref 22⟩, ⟨PyData.keyHash P "__weakref__", .str "__weakref__" 203, .ref 25⟩, ⟨PyData.keyHash P "__doc__", .str "__doc__" 204, .none⟩] 3, #[]⟩
noncomputable def o_24 (P : Params) : Obj := ⟨.type "type", none, .cls ⟨"GmpError", [.type "Exception"], [.ref 24, .type "Exception", .type "BaseException", .type "object"], 23, "GmpError", true, [], [.ref 37], false, none, false⟩, #[some (.ref 15), none, some (.str "GmpError" 189), some (.str "GmpError" 197), some (.builtin "Exception.__new__"), some (.bool true)]⟩
noncomputable def o_25 (P : Params) : Obj := ⟨.type "getset_descriptor", none, .fields #[.str "__weakref__" 202, .ref 24, .builtin "ExceptionGroup.__weakref__", .none], #[]⟩
noncomputable def o_28 (P : Params) : Obj := ⟨.type "tuple", none, .seq #[.ref 24] 0, #[]⟩
noncomputable def o_35 (P : Params) : Obj := ⟨.type "tuple", none, .seq #[] 0, #[]⟩
noncomputable def o_36 (P : Params) : Obj := ⟨.type "dict", none, .dict #[⟨PyData.keyHash P "__module__", .str "__module__" 216, .str "gmp.limbs" 187⟩, ⟨PyData.keyHash P "__firstlineno__", .str "__firstlineno__" 220, .int 4 219⟩, ⟨PyData.keyHash P "__static_attributes__", .str "__static_attributes__" 221, .ref 35⟩, ⟨PyData.keyHash P "__doc__", .str "__doc__" 222, .none⟩] 2, #[]⟩
noncomputable def o_37 (P : Params) : Obj := ⟨.type "type", none, .cls ⟨"OutOfRange", [.ref 24], [.ref 37, .ref 24, .type "Exception", .type "BaseException", .type "object"], 36, "OutOfRange", true, [], [], false, none, false⟩, #[some (.ref 28), none, some (.str "OutOfRange" 209), some (.str "OutOfRange" 217), some (.builtin "Exception.__new__"), some (.bool true)]⟩
noncomputable def o_40 (P : Params) : Obj := ⟨.type "tuple", none, .seq #[] 0, #[]⟩
noncomputable def o_42 (P : Params) : Obj := ⟨.type "tuple", none, .seq #[.str "a" 228, .str "end" 229] 0, #[]⟩
noncomputable def o_43 (P : Params) : Obj := ⟨.type "tuple", none, .seq #[] 0, #[]⟩
noncomputable def o_45 (P : Params) : Obj := ⟨.type "code", none, .fields #[.str "normal" 225, .str "normal" 226, .str "/claim/cut.py" 227, .int 6 0, .int 1 0, .int 0 0, .int 0 0, .int 3 0, .ref 40, .bool true, .int 181 0, .ref 41, .none, .ref 42, .ref 43, .ref 44, .int 230 0, .int 6 0, .str "/claim/cut.py" 231], #[]⟩
noncomputable def o_46 (P : Params) : Obj := fnAt "normal" (.str "gmp.limbs" 187) (.ref 45) (stm 3) rfl
noncomputable def o_47 (P : Params) : Obj := ⟨.type "tuple", none, .seq #[] 0, #[]⟩
noncomputable def o_49 (P : Params) : Obj := ⟨.type "tuple", none, .seq #[.str "a" 236, .str "b" 237, .str "at" 238] 0, #[]⟩
noncomputable def o_50 (P : Params) : Obj := ⟨.type "tuple", none, .seq #[] 0, #[]⟩
noncomputable def o_52 (P : Params) : Obj := ⟨.type "code", none, .fields #[.str "compare" 233, .str "compare" 234, .str "/claim/cut.py" 235, .int 11 0, .int 2 0, .int 0 0, .int 0 0, .int 3 0, .ref 47, .bool true, .int 181 0, .ref 48, .none, .ref 49, .ref 50, .ref 51, .int 239 0, .int 11 0, .str "/claim/cut.py" 240], #[]⟩
noncomputable def o_53 (P : Params) : Obj := fnAt "compare" (.str "gmp.limbs" 187) (.ref 52) (stm 4) rfl
noncomputable def o_54 (P : Params) : Obj := ⟨.type "tuple", none, .seq #[] 0, #[]⟩
noncomputable def o_56 (P : Params) : Obj := ⟨.type "tuple", none, .seq #[.str "a" 245, .str "b" 246, .str "w" 247, .str "found" 248, .str "carry" 249, .str "mask" 250, .str "at" 251] 0, #[]⟩
noncomputable def o_57 (P : Params) : Obj := ⟨.type "tuple", none, .seq #[] 0, #[]⟩
noncomputable def o_59 (P : Params) : Obj := ⟨.type "code", none, .fields #[.str "add" 242, .str "add" 243, .str "/claim/cut.py" 244, .int 18 0, .int 3 0, .int 0 0, .int 0 0, .int 3 0, .ref 54, .bool true, .int 181 0, .ref 55, .none, .ref 56, .ref 57, .ref 58, .int 252 0, .int 18 0, .str "/claim/cut.py" 253], #[]⟩
noncomputable def o_60 (P : Params) : Obj := fnAt "add" (.str "gmp.limbs" 187) (.ref 59) (stm 5) rfl
noncomputable def o_61 (P : Params) : Obj := ⟨.type "tuple", none, .seq #[] 0, #[]⟩
noncomputable def o_63 (P : Params) : Obj := ⟨.type "tuple", none, .seq #[.str "a" 258, .str "b" 259, .str "w" 260, .str "found" 261, .str "borrow" 262, .str "base" 263, .str "at" 264, .str "limb" 265] 0, #[]⟩
noncomputable def o_64 (P : Params) : Obj := ⟨.type "tuple", none, .seq #[] 0, #[]⟩
noncomputable def o_66 (P : Params) : Obj := ⟨.type "code", none, .fields #[.str "sub" 255, .str "sub" 256, .str "/claim/cut.py" 257, .int 33 0, .int 3 0, .int 0 0, .int 0 0, .int 3 0, .ref 61, .bool true, .int 181 0, .ref 62, .none, .ref 63, .ref 64, .ref 65, .int 266 0, .int 33 0, .str "/claim/cut.py" 267], #[]⟩
noncomputable def o_67 (P : Params) : Obj := fnAt "sub" (.str "gmp.limbs" 187) (.ref 66) (stm 6) rfl
noncomputable def o_68 (P : Params) : Obj := ⟨.type "tuple", none, .seq #[] 0, #[]⟩
noncomputable def o_70 (P : Params) : Obj := ⟨.type "tuple", none, .seq #[.str "a" 272, .str "n" 273, .str "w" 274, .str "spots" 275, .str "few" 276, .str "found" 277, .str "carry" 278, .str "mask" 279, .str "one" 280] 0, #[]⟩
noncomputable def o_71 (P : Params) : Obj := ⟨.type "tuple", none, .seq #[] 0, #[]⟩
noncomputable def o_73 (P : Params) : Obj := ⟨.type "code", none, .fields #[.str "shift_left" 269, .str "shift_left" 270, .str "/claim/cut.py" 271, .int 42 0, .int 3 0, .int 0 0, .int 0 0, .int 3 0, .ref 68, .bool true, .int 181 0, .ref 69, .none, .ref 70, .ref 71, .ref 72, .int 281 0, .int 42 0, .str "/claim/cut.py" 282], #[]⟩
noncomputable def o_74 (P : Params) : Obj := fnAt "shift_left" (.str "gmp.limbs" 187) (.ref 73) (stm 7) rfl
noncomputable def o_75 (P : Params) : Obj := ⟨.type "tuple", none, .seq #[] 0, #[]⟩
noncomputable def o_77 (P : Params) : Obj := ⟨.type "tuple", none, .seq #[.str "a" 287, .str "n" 288, .str "w" 289, .str "spots" 290, .str "few" 291, .str "found" 292, .str "mask" 293, .str "at" 294, .str "above" 295] 0, #[]⟩
noncomputable def o_78 (P : Params) : Obj := ⟨.type "tuple", none, .seq #[] 0, #[]⟩
noncomputable def o_80 (P : Params) : Obj := ⟨.type "code", none, .fields #[.str "shift_right" 284, .str "shift_right" 285, .str "/claim/cut.py" 286, .int 54 0, .int 3 0, .int 0 0, .int 0 0, .int 3 0, .ref 75, .bool true, .int 181 0, .ref 76, .none, .ref 77, .ref 78, .ref 79, .int 296 0, .int 54 0, .str "/claim/cut.py" 297], #[]⟩
noncomputable def o_81 (P : Params) : Obj := fnAt "shift_right" (.str "gmp.limbs" 187) (.ref 80) (stm 8) rfl
noncomputable def o_82 (P : Params) : Obj := ⟨.type "tuple", none, .seq #[] 0, #[]⟩
noncomputable def o_84 (P : Params) : Obj := ⟨.type "tuple", none, .seq #[.str "a" 302, .str "w" 303] 0, #[]⟩
noncomputable def o_85 (P : Params) : Obj := ⟨.type "tuple", none, .seq #[] 0, #[]⟩
noncomputable def o_87 (P : Params) : Obj := ⟨.type "code", none, .fields #[.str "bits" 299, .str "bits" 300, .str "/claim/cut.py" 301, .int 61 0, .int 2 0, .int 0 0, .int 0 0, .int 3 0, .ref 82, .bool true, .int 181 0, .ref 83, .none, .ref 84, .ref 85, .ref 86, .int 304 0, .int 61 0, .str "/claim/cut.py" 305], #[]⟩
noncomputable def o_88 (P : Params) : Obj := fnAt "bits" (.str "gmp.limbs" 187) (.ref 87) (stm 9) rfl
noncomputable def o_89 (P : Params) : Obj := ⟨.type "tuple", none, .seq #[] 0, #[]⟩
noncomputable def o_91 (P : Params) : Obj := ⟨.type "tuple", none, .seq #[.str "a" 310, .str "n" 311, .str "w" 312, .str "spots" 313, .str "few" 314] 0, #[]⟩
noncomputable def o_92 (P : Params) : Obj := ⟨.type "tuple", none, .seq #[] 0, #[]⟩
noncomputable def o_94 (P : Params) : Obj := ⟨.type "code", none, .fields #[.str "low" 307, .str "low" 308, .str "/claim/cut.py" 309, .int 63 0, .int 3 0, .int 0 0, .int 0 0, .int 3 0, .ref 89, .bool true, .int 181 0, .ref 90, .none, .ref 91, .ref 92, .ref 93, .int 315 0, .int 63 0, .str "/claim/cut.py" 316], #[]⟩
noncomputable def o_95 (P : Params) : Obj := fnAt "low" (.str "gmp.limbs" 187) (.ref 94) (stm 10) rfl
noncomputable def o_103 (P : Params) : Obj := ⟨.type "tuple", none, .seq #[] 0, #[]⟩
noncomputable def o_105 (P : Params) : Obj := ⟨.type "tuple", none, .seq #[.str "self" 337, .str "a" 338, .str "c" 339, .str "width" 340, .str "state" 341, .str "w" 342, .str "mul" 343] 0, #[]⟩
noncomputable def o_106 (P : Params) : Obj := ⟨.type "tuple", none, .seq #[] 0, #[]⟩
noncomputable def o_108 (P : Params) : Obj := ⟨.type "code", none, .fields #[.str "__init__" 334, .str "Congruence.__init__" 335, .str "/claim/cut.py" 336, .int 72 0, .int 7 0, .int 0 0, .int 0 0, .int 3 0, .ref 103, .bool true, .int 181 0, .ref 104, .none, .ref 105, .ref 106, .ref 107, .int 344 0, .int 72 0, .str "/claim/cut.py" 345], #[]⟩
noncomputable def o_109 (P : Params) : Obj := fnAt "Congruence.__init__" (.str "gmp.randoms" 318) (.ref 108) (stmIn 13 0) rfl
noncomputable def o_110 (P : Params) : Obj := ⟨.type "tuple", none, .seq #[] 0, #[]⟩
noncomputable def o_112 (P : Params) : Obj := ⟨.type "tuple", none, .seq #[.str "self" 350] 0, #[]⟩
noncomputable def o_113 (P : Params) : Obj := ⟨.type "tuple", none, .seq #[] 0, #[]⟩
noncomputable def o_115 (P : Params) : Obj := ⟨.type "code", none, .fields #[.str "step" 347, .str "Congruence.step" 348, .str "/claim/cut.py" 349, .int 82 0, .int 1 0, .int 0 0, .int 0 0, .int 3 0, .ref 110, .bool true, .int 181 0, .ref 111, .none, .ref 112, .ref 113, .ref 114, .int 351 0, .int 82 0, .str "/claim/cut.py" 352], #[]⟩
noncomputable def o_116 (P : Params) : Obj := fnAt "Congruence.step" (.str "gmp.randoms" 318) (.ref 115) (stmIn 13 1) rfl
noncomputable def o_117 (P : Params) : Obj := ⟨.type "tuple", none, .seq #[] 0, #[]⟩
noncomputable def o_119 (P : Params) : Obj := ⟨.type "tuple", none, .seq #[.str "self" 357, .str "many" 358] 0, #[]⟩
noncomputable def o_120 (P : Params) : Obj := ⟨.type "tuple", none, .seq #[] 0, #[]⟩
noncomputable def o_122 (P : Params) : Obj := ⟨.type "code", none, .fields #[.str "take" 354, .str "Congruence.take" 355, .str "/claim/cut.py" 356, .int 85 0, .int 1 0, .int 0 0, .int 0 0, .int 3 0, .ref 117, .bool true, .int 181 0, .ref 118, .none, .ref 119, .ref 120, .ref 121, .int 359 0, .int 85 0, .str "/claim/cut.py" 360], #[]⟩
noncomputable def o_123 (P : Params) : Obj := fnAt "Congruence.take" (.str "gmp.randoms" 318) (.ref 122) (stmIn 13 2) rfl
noncomputable def o_124 (P : Params) : Obj := ⟨.type "tuple", none, .seq #[.str "a" 362, .str "c" 363, .str "mul" 364, .str "state" 365, .str "w" 366, .str "width" 367] 0, #[]⟩
noncomputable def o_125 (P : Params) : Obj := ⟨.type "dict", none, .dict #[⟨PyData.keyHash P "__module__", .str "__module__" 329, .str "gmp.randoms" 318⟩, ⟨PyData.keyHash P "__firstlineno__", .str "__firstlineno__" 333, .int 70 332⟩, ⟨PyData.keyHash P "__init__", .str "__init__" 346, .ref 109⟩, ⟨PyData.keyHash P "step", .str "step" 353, .ref 116⟩, ⟨PyData.keyHash P "take", .str "take" 361, .ref 123⟩, ⟨PyData.keyHash P "__static_attributes__", .str "__static_attributes__" 368, .ref 124⟩, ⟨PyData.keyHash P "__dict__", .str "__dict__" 370, .ref 127⟩, ⟨PyData.keyHash P "__weakref__", .str "__weakref__" 372, .ref 128⟩, ⟨PyData.keyHash P "__doc__", .str "__doc__" 373, .none⟩] 4, #[]⟩
noncomputable def o_126 (P : Params) : Obj := ⟨.type "type", none, .cls ⟨"Congruence", [.type "object"], [.ref 126, .type "object"], 125, "Congruence", true, [], [], false, none, false⟩, #[none, none, some (.str "Congruence" 322), some (.str "Congruence" 330), some (.builtin "object.__new__"), some (.bool true)]⟩
noncomputable def o_127 (P : Params) : Obj := ⟨.type "getset_descriptor", none, .fields #[.str "__dict__" 369, .ref 126, .builtin "function.__dict__", .builtin "function.__dict__#set"], #[]⟩
noncomputable def o_128 (P : Params) : Obj := ⟨.type "getset_descriptor", none, .fields #[.str "__weakref__" 371, .ref 126, .builtin "ExceptionGroup.__weakref__", .none], #[]⟩
noncomputable def o_138 (P : Params) : Obj := ⟨.type "tuple", none, .seq #[] 0, #[]⟩
noncomputable def o_140 (P : Params) : Obj := ⟨.type "tuple", none, .seq #[.str "self" 391, .str "row" 392, .str "place" 393, .str "w" 394] 0, #[]⟩
noncomputable def o_141 (P : Params) : Obj := ⟨.type "tuple", none, .seq #[] 0, #[]⟩
noncomputable def o_143 (P : Params) : Obj := ⟨.type "code", none, .fields #[.str "__init__" 388, .str "Lagged.__init__" 389, .str "/claim/cut.py" 390, .int 91 0, .int 4 0, .int 0 0, .int 0 0, .int 3 0, .ref 138, .bool true, .int 181 0, .ref 139, .none, .ref 140, .ref 141, .ref 142, .int 395 0, .int 91 0, .str "/claim/cut.py" 396], #[]⟩
noncomputable def o_144 (P : Params) : Obj := fnAt "Lagged.__init__" (.str "gmp.randoms" 318) (.ref 143) (stmIn 14 0) rfl
noncomputable def o_145 (P : Params) : Obj := ⟨.type "tuple", none, .seq #[] 0, #[]⟩
noncomputable def o_147 (P : Params) : Obj := ⟨.type "tuple", none, .seq #[.str "self" 401, .str "found" 402] 0, #[]⟩
noncomputable def o_148 (P : Params) : Obj := ⟨.type "tuple", none, .seq #[] 0, #[]⟩
noncomputable def o_150 (P : Params) : Obj := ⟨.type "code", none, .fields #[.str "take" 398, .str "Lagged.take" 399, .str "/claim/cut.py" 400, .int 98 0, .int 1 0, .int 0 0, .int 0 0, .int 3 0, .ref 145, .bool true, .int 181 0, .ref 146, .none, .ref 147, .ref 148, .ref 149, .int 403 0, .int 98 0, .str "/claim/cut.py" 404], #[]⟩
noncomputable def o_151 (P : Params) : Obj := fnAt "Lagged.take" (.str "gmp.randoms" 318) (.ref 150) (stmIn 14 1) rfl
noncomputable def o_152 (P : Params) : Obj := ⟨.type "tuple", none, .seq #[.str "place" 406, .str "row" 407, .str "w" 408] 0, #[]⟩
noncomputable def o_153 (P : Params) : Obj := ⟨.type "dict", none, .dict #[⟨PyData.keyHash P "__module__", .str "__module__" 383, .str "gmp.randoms" 318⟩, ⟨PyData.keyHash P "__firstlineno__", .str "__firstlineno__" 387, .int 89 386⟩, ⟨PyData.keyHash P "__init__", .str "__init__" 397, .ref 144⟩, ⟨PyData.keyHash P "take", .str "take" 405, .ref 151⟩, ⟨PyData.keyHash P "__static_attributes__", .str "__static_attributes__" 409, .ref 152⟩, ⟨PyData.keyHash P "__dict__", .str "__dict__" 411, .ref 155⟩, ⟨PyData.keyHash P "__weakref__", .str "__weakref__" 413, .ref 156⟩, ⟨PyData.keyHash P "__doc__", .str "__doc__" 414, .none⟩] 4, #[]⟩
noncomputable def o_154 (P : Params) : Obj := ⟨.type "type", none, .cls ⟨"Lagged", [.type "object"], [.ref 154, .type "object"], 153, "Lagged", true, [], [], false, none, false⟩, #[none, none, some (.str "Lagged" 376), some (.str "Lagged" 384), some (.builtin "object.__new__"), some (.bool true)]⟩
noncomputable def o_155 (P : Params) : Obj := ⟨.type "getset_descriptor", none, .fields #[.str "__dict__" 410, .ref 154, .builtin "function.__dict__", .builtin "function.__dict__#set"], #[]⟩
noncomputable def o_156 (P : Params) : Obj := ⟨.type "getset_descriptor", none, .fields #[.str "__weakref__" 412, .ref 154, .builtin "ExceptionGroup.__weakref__", .none], #[]⟩
noncomputable def o_166 (P : Params) : Obj := ⟨.type "tuple", none, .seq #[] 0, #[]⟩
noncomputable def o_168 (P : Params) : Obj := ⟨.type "tuple", none, .seq #[.str "self" 432, .str "numbers" 433, .str "many" 434] 0, #[]⟩
noncomputable def o_169 (P : Params) : Obj := ⟨.type "tuple", none, .seq #[] 0, #[]⟩
noncomputable def o_171 (P : Params) : Obj := ⟨.type "code", none, .fields #[.str "__init__" 429, .str "ToldRow.__init__" 430, .str "/claim/cut.py" 431, .int 104 0, .int 3 0, .int 0 0, .int 0 0, .int 3 0, .ref 166, .bool true, .int 181 0, .ref 167, .none, .ref 168, .ref 169, .ref 170, .int 435 0, .int 104 0, .str "/claim/cut.py" 436], #[]⟩
noncomputable def o_172 (P : Params) : Obj := fnAt "ToldRow.__init__" (.str "gmp.randoms" 318) (.ref 171) (stmIn 15 0) rfl
noncomputable def o_173 (P : Params) : Obj := ⟨.type "tuple", none, .seq #[] 0, #[]⟩
noncomputable def o_175 (P : Params) : Obj := ⟨.type "tuple", none, .seq #[.str "self" 441, .str "found" 442] 0, #[]⟩
noncomputable def o_176 (P : Params) : Obj := ⟨.type "tuple", none, .seq #[] 0, #[]⟩
noncomputable def o_178 (P : Params) : Obj := ⟨.type "code", none, .fields #[.str "take" 438, .str "ToldRow.take" 439, .str "/claim/cut.py" 440, .int 111 0, .int 1 0, .int 0 0, .int 0 0, .int 3 0, .ref 173, .bool true, .int 181 0, .ref 174, .none, .ref 175, .ref 176, .ref 177, .int 443 0, .int 111 0, .str "/claim/cut.py" 444], #[]⟩
noncomputable def o_179 (P : Params) : Obj := fnAt "ToldRow.take" (.str "gmp.randoms" 318) (.ref 178) (stmIn 15 1) rfl
noncomputable def o_180 (P : Params) : Obj := ⟨.type "tuple", none, .seq #[.str "at" 446, .str "many" 447, .str "numbers" 448] 0, #[]⟩
noncomputable def o_181 (P : Params) : Obj := ⟨.type "dict", none, .dict #[⟨PyData.keyHash P "__module__", .str "__module__" 424, .str "gmp.randoms" 318⟩, ⟨PyData.keyHash P "__firstlineno__", .str "__firstlineno__" 428, .int 102 427⟩, ⟨PyData.keyHash P "__init__", .str "__init__" 437, .ref 172⟩, ⟨PyData.keyHash P "take", .str "take" 445, .ref 179⟩, ⟨PyData.keyHash P "__static_attributes__", .str "__static_attributes__" 449, .ref 180⟩, ⟨PyData.keyHash P "__dict__", .str "__dict__" 451, .ref 183⟩, ⟨PyData.keyHash P "__weakref__", .str "__weakref__" 453, .ref 184⟩, ⟨PyData.keyHash P "__doc__", .str "__doc__" 454, .none⟩] 4, #[]⟩
noncomputable def o_182 (P : Params) : Obj := ⟨.type "type", none, .cls ⟨"ToldRow", [.type "object"], [.ref 182, .type "object"], 181, "ToldRow", true, [], [], false, none, false⟩, #[none, none, some (.str "ToldRow" 417), some (.str "ToldRow" 425), some (.builtin "object.__new__"), some (.bool true)]⟩
noncomputable def o_183 (P : Params) : Obj := ⟨.type "getset_descriptor", none, .fields #[.str "__dict__" 450, .ref 182, .builtin "function.__dict__", .builtin "function.__dict__#set"], #[]⟩
noncomputable def o_184 (P : Params) : Obj := ⟨.type "getset_descriptor", none, .fields #[.str "__weakref__" 452, .ref 182, .builtin "ExceptionGroup.__weakref__", .none], #[]⟩
noncomputable def o_187 (P : Params) : Obj := ⟨.type "tuple", none, .seq #[] 0, #[]⟩
noncomputable def o_189 (P : Params) : Obj := ⟨.type "tuple", none, .seq #[.str "source" 460, .str "n" 461, .str "w" 462, .str "found" 463, .str "have" 464, .str "part" 465, .str "many" 466] 0, #[]⟩
noncomputable def o_190 (P : Params) : Obj := ⟨.type "tuple", none, .seq #[] 0, #[]⟩
noncomputable def o_192 (P : Params) : Obj := ⟨.type "code", none, .fields #[.str "random_bits" 457, .str "random_bits" 458, .str "/claim/cut.py" 459, .int 115 0, .int 3 0, .int 0 0, .int 0 0, .int 3 0, .ref 187, .bool true, .int 181 0, .ref 188, .none, .ref 189, .ref 190, .ref 191, .int 467 0, .int 115 0, .str "/claim/cut.py" 468], #[]⟩
noncomputable def o_193 (P : Params) : Obj := fnAt "random_bits" (.str "gmp.randoms" 318) (.ref 192) (stm 16) rfl
noncomputable def o_194 (P : Params) : Obj := ⟨.type "tuple", none, .seq #[] 0, #[]⟩
noncomputable def o_196 (P : Params) : Obj := ⟨.type "tuple", none, .seq #[.str "source" 473, .str "bound" 474, .str "w" 475, .str "many" 476, .str "found" 477, .str "turn" 478] 0, #[]⟩
noncomputable def o_197 (P : Params) : Obj := ⟨.type "tuple", none, .seq #[] 0, #[]⟩
noncomputable def o_199 (P : Params) : Obj := ⟨.type "code", none, .fields #[.str "random_below" 470, .str "random_below" 471, .str "/claim/cut.py" 472, .int 122 0, .int 3 0, .int 0 0, .int 0 0, .int 3 0, .ref 194, .bool true, .int 181 0, .ref 195, .none, .ref 196, .ref 197, .ref 198, .int 479 0, .int 122 0, .str "/claim/cut.py" 480], #[]⟩
noncomputable def o_200 (P : Params) : Obj := fnAt "random_below" (.str "gmp.randoms" 318) (.ref 199) (stm 17) rfl
noncomputable def o_201 (P : Params) : Obj := ⟨.type "tuple", none, .seq #[] 0, #[]⟩
noncomputable def o_203 (P : Params) : Obj := ⟨.type "tuple", none, .seq #[.str "source" 485, .str "n" 486, .str "w" 487, .str "found" 488, .str "value" 489, .str "limb" 490] 0, #[]⟩
noncomputable def o_204 (P : Params) : Obj := ⟨.type "tuple", none, .seq #[] 0, #[]⟩
noncomputable def o_206 (P : Params) : Obj := ⟨.type "code", none, .fields #[.str "small_below" 482, .str "small_below" 483, .str "/claim/cut.py" 484, .int 132 0, .int 3 0, .int 0 0, .int 0 0, .int 3 0, .ref 201, .bool true, .int 181 0, .ref 202, .none, .ref 203, .ref 204, .ref 205, .int 491 0, .int 132 0, .str "/claim/cut.py" 492], #[]⟩
noncomputable def o_207 (P : Params) : Obj := fnAt "small_below" (.str "gmp.randoms" 318) (.ref 206) (stm 18) rfl
noncomputable def o_208 (P : Params) : Obj := ⟨.type "tuple", none, .seq #[] 0, #[]⟩
noncomputable def o_210 (P : Params) : Obj := ⟨.type "tuple", none, .seq #[.str "n" 497, .str "w" 498, .str "found" 499] 0, #[]⟩
noncomputable def o_211 (P : Params) : Obj := ⟨.type "tuple", none, .seq #[] 0, #[]⟩
noncomputable def o_213 (P : Params) : Obj := ⟨.type "code", none, .fields #[.str "small_number" 494, .str "small_number" 495, .str "/claim/cut.py" 496, .int 138 0, .int 2 0, .int 0 0, .int 0 0, .int 3 0, .ref 208, .bool true, .int 181 0, .ref 209, .none, .ref 210, .ref 211, .ref 212, .int 500 0, .int 138 0, .str "/claim/cut.py" 501], #[]⟩
noncomputable def o_214 (P : Params) : Obj := fnAt "small_number" (.str "gmp.randoms" 318) (.ref 213) (stm 19) rfl
noncomputable def o_215 (P : Params) : Obj := ⟨.type "tuple", none, .seq #[] 0, #[]⟩
noncomputable def o_217 (P : Params) : Obj := ⟨.type "tuple", none, .seq #[.str "source" 506, .str "n" 507, .str "w" 508, .str "most" 509, .str "found" 510, .str "left" 511, .str "length" 512] 0, #[]⟩
noncomputable def o_218 (P : Params) : Obj := ⟨.type "tuple", none, .seq #[] 0, #[]⟩
noncomputable def o_220 (P : Params) : Obj := ⟨.type "code", none, .fields #[.str "row_lengths" 503, .str "row_lengths" 504, .str "/claim/cut.py" 505, .int 144 0, .int 3 0, .int 0 0, .int 0 0, .int 3 0, .ref 215, .bool true, .int 181 0, .ref 216, .none, .ref 217, .ref 218, .ref 219, .int 513 0, .int 144 0, .str "/claim/cut.py" 514], #[]⟩
noncomputable def o_221 (P : Params) : Obj := fnAt "row_lengths" (.str "gmp.randoms" 318) (.ref 220) (stm 20) rfl
noncomputable def o_222 (P : Params) : Obj := ⟨.type "tuple", none, .seq #[] 0, #[]⟩
noncomputable def o_224 (P : Params) : Obj := ⟨.type "tuple", none, .seq #[.str "source" 519, .str "n" 520, .str "w" 521, .str "found" 522, .str "is_one" 523, .str "length" 524] 0, #[]⟩
noncomputable def o_225 (P : Params) : Obj := ⟨.type "tuple", none, .seq #[] 0, #[]⟩
noncomputable def o_227 (P : Params) : Obj := ⟨.type "code", none, .fields #[.str "random_rows" 516, .str "random_rows" 517, .str "/claim/cut.py" 518, .int 152 0, .int 3 0, .int 0 0, .int 0 0, .int 3 0, .ref 222, .bool true, .int 181 0, .ref 223, .none, .ref 224, .ref 225, .ref 226, .int 525 0, .int 152 0, .str "/claim/cut.py" 526], #[]⟩
noncomputable def o_228 (P : Params) : Obj := fnAt "random_rows" (.str "gmp.randoms" 318) (.ref 227) (stm 21) rfl
noncomputable def o_229 (P : Params) : Obj := ⟨.type "tuple", none, .seq #[] 0, #[]⟩
noncomputable def o_231 (P : Params) : Obj := ⟨.type "tuple", none, .seq #[.str "n" 531, .str "w" 532] 0, #[]⟩
noncomputable def o_232 (P : Params) : Obj := ⟨.type "tuple", none, .seq #[] 0, #[]⟩
noncomputable def o_234 (P : Params) : Obj := ⟨.type "code", none, .fields #[.str "ones" 528, .str "ones" 529, .str "/claim/cut.py" 530, .int 160 0, .int 2 0, .int 0 0, .int 0 0, .int 3 0, .ref 229, .bool true, .int 181 0, .ref 230, .none, .ref 231, .ref 232, .ref 233, .int 533 0, .int 160 0, .str "/claim/cut.py" 534], #[]⟩
noncomputable def o_235 (P : Params) : Obj := fnAt "ones" (.str "gmp.randoms" 318) (.ref 234) (stm 22) rfl
noncomputable def o_236 (P : Params) : Obj := ⟨.type "tuple", none, .seq #[] 0, #[]⟩
noncomputable def o_238 (P : Params) : Obj := ⟨.type "tuple", none, .seq #[.str "source" 539, .str "items" 540, .str "w" 541, .str "found" 542, .str "at" 543, .str "spot" 544] 0, #[]⟩
noncomputable def o_239 (P : Params) : Obj := ⟨.type "tuple", none, .seq #[] 0, #[]⟩
noncomputable def o_241 (P : Params) : Obj := ⟨.type "code", none, .fields #[.str "shuffled" 536, .str "shuffled" 537, .str "/claim/cut.py" 538, .int 162 0, .int 3 0, .int 0 0, .int 0 0, .int 3 0, .ref 236, .bool true, .int 181 0, .ref 237, .none, .ref 238, .ref 239, .ref 240, .int 545 0, .int 162 0, .str "/claim/cut.py" 546], #[]⟩
noncomputable def o_242 (P : Params) : Obj := fnAt "shuffled" (.str "gmp.randoms" 318) (.ref 241) (stm 23) rfl
noncomputable def o_243 (P : Params) : Obj := ⟨.type "tuple", none, .seq #[] 0, #[]⟩
noncomputable def o_245 (P : Params) : Obj := ⟨.type "tuple", none, .seq #[.str "a" 553, .str "b" 554, .str "w" 555, .str "found" 556, .str "mask" 557, .str "at" 558, .str "limb" 559, .str "carry" 560, .str "spot" 561, .str "other" 562] 0, #[]⟩
noncomputable def o_246 (P : Params) : Obj := ⟨.type "tuple", none, .seq #[] 0, #[]⟩
noncomputable def o_248 (P : Params) : Obj := ⟨.type "code", none, .fields #[.str "mul_school" 550, .str "mul_school" 551, .str "/claim/cut.py" 552, .int 169 0, .int 3 0, .int 0 0, .int 0 0, .int 3 0, .ref 243, .bool true, .int 181 0, .ref 244, .none, .ref 245, .ref 246, .ref 247, .int 563 0, .int 169 0, .str "/claim/cut.py" 564], #[]⟩
noncomputable def o_249 (P : Params) : Obj := fnAt "mul_school" (.str "gmp.school" 548) (.ref 248) (stm 25) rfl
noncomputable def o_250 (P : Params) : Obj := ⟨.type "tuple", none, .seq #[] 0, #[]⟩
noncomputable def o_252 (P : Params) : Obj := ⟨.type "tuple", none, .seq #[.str "number" 571, .str "w" 572, .str "found" 573] 0, #[]⟩
noncomputable def o_253 (P : Params) : Obj := ⟨.type "tuple", none, .seq #[] 0, #[]⟩
noncomputable def o_255 (P : Params) : Obj := ⟨.type "code", none, .fields #[.str "_law_limbs" 568, .str "_law_limbs" 569, .str "/claim/cut.py" 570, .int 180 0, .int 2 0, .int 0 0, .int 0 0, .int 3 0, .ref 250, .bool true, .int 181 0, .ref 251, .none, .ref 252, .ref 253, .ref 254, .int 574 0, .int 180 0, .str "/claim/cut.py" 575], #[]⟩
noncomputable def o_256 (P : Params) : Obj := fnAt "_law_limbs" (.str "law_pq0542_01" 566) (.ref 255) (stm 27) rfl
noncomputable def o_257 (P : Params) : Obj := ⟨.type "tuple", none, .seq #[] 0, #[]⟩
noncomputable def o_260 (P : Params) : Obj := ⟨.type "code", none, .fields #[.str "_law_worth" 577, .str "_law_worth" 578, .str "/claim/cut.py" 579, .int 186 0, .int 2 0, .int 0 0, .int 0 0, .int 3 0, .ref 257, .bool true, .int 181 0, .ref 258, .none, .none, .none, .ref 259, .int 580 0, .int 186 0, .str "/claim/cut.py" 581], #[]⟩
noncomputable def o_261 (P : Params) : Obj := fnAt "_law_worth" (.str "law_pq0542_01" 566) (.ref 260) (stm 28) rfl
noncomputable def o_262 (P : Params) : Obj := ⟨.type "tuple", none, .seq #[] 0, #[]⟩
noncomputable def o_264 (P : Params) : Obj := ⟨.type "tuple", none, .seq #[.str "number" 586, .str "found" 587] 0, #[]⟩
noncomputable def o_265 (P : Params) : Obj := ⟨.type "tuple", none, .seq #[] 0, #[]⟩
noncomputable def o_267 (P : Params) : Obj := ⟨.type "code", none, .fields #[.str "_law_size" 583, .str "_law_size" 584, .str "/claim/cut.py" 585, .int 188 0, .int 1 0, .int 0 0, .int 0 0, .int 3 0, .ref 262, .bool true, .int 181 0, .ref 263, .none, .ref 264, .ref 265, .ref 266, .int 588 0, .int 188 0, .str "/claim/cut.py" 589], #[]⟩
noncomputable def o_268 (P : Params) : Obj := fnAt "_law_size" (.str "law_pq0542_01" 566) (.ref 267) (stm 29) rfl
noncomputable def o_269 (P : Params) : Obj := ⟨.type "tuple", none, .seq #[] 0, #[]⟩
noncomputable def o_271 (P : Params) : Obj := ⟨.type "tuple", none, .seq #[.str "work" 594] 0, #[]⟩
noncomputable def o_272 (P : Params) : Obj := ⟨.type "tuple", none, .seq #[] 0, #[]⟩
noncomputable def o_274 (P : Params) : Obj := ⟨.type "code", none, .fields #[.str "_law_is_refused" 591, .str "_law_is_refused" 592, .str "/claim/cut.py" 593, .int 193 0, .int 1 0, .int 0 0, .int 0 0, .int 3 0, .ref 269, .bool true, .int 181 0, .ref 270, .none, .ref 271, .ref 272, .ref 273, .int 595 0, .int 193 0, .str "/claim/cut.py" 596], #[]⟩
noncomputable def o_275 (P : Params) : Obj := fnAt "_law_is_refused" (.str "law_pq0542_01" 566) (.ref 274) (stm 30) rfl
noncomputable def o_276 (P : Params) : Obj := ⟨.type "tuple", none, .seq #[] 0, #[]⟩
noncomputable def o_279 (P : Params) : Obj := ⟨.type "code", none, .fields #[.str "_law_below_right" 598, .str "_law_below_right" 599, .str "/claim/cut.py" 600, .int 199 0, .int 2 0, .int 0 0, .int 0 0, .int 3 0, .ref 276, .bool true, .int 181 0, .ref 277, .none, .none, .none, .ref 278, .int 601 0, .int 199 0, .str "/claim/cut.py" 602], #[]⟩
noncomputable def o_280 (P : Params) : Obj := fnAt "_law_below_right" (.str "law_pq0542_01" 566) (.ref 279) (stm 31) rfl
noncomputable def o_281 (P : Params) : Obj := ⟨.type "tuple", none, .seq #[] 0, #[]⟩
noncomputable def o_283 (P : Params) : Obj := ⟨.type "tuple", none, .seq #[.str "some" 607, .str "w" 608, .str "items" 609, .str "one" 610, .str "state" 611, .str "turn" 612, .str "part" 613, .str "many" 614] 0, #[]⟩
noncomputable def o_284 (P : Params) : Obj := ⟨.type "tuple", none, .seq #[.str "w" 615, .str "place" 616, .str "row" 617, .str "source" 618, .str "width" 619] 0, #[]⟩
noncomputable def o_286 (P : Params) : Obj := ⟨.type "code", none, .fields #[.str "_law_nothing_right" 604, .str "_law_nothing_right" 605, .str "/claim/cut.py" 606, .int 218 0, .int 2 0, .int 0 0, .int 0 0, .int 3 0, .ref 281, .bool true, .int 181 0, .ref 282, .none, .ref 283, .ref 284, .ref 285, .int 620 0, .int 218 0, .str "/claim/cut.py" 621], #[]⟩
noncomputable def o_287 (P : Params) : Obj := fnAt "_law_nothing_right" (.str "law_pq0542_01" 566) (.ref 286) (stm 32) rfl
noncomputable def o_288 (P : Params) : Obj := ⟨.type "tuple", none, .seq #[] 0, #[]⟩
noncomputable def o_291 (P : Params) : Obj := ⟨.type "code", none, .fields #[.str "law" 623, .str "law" 624, .str "/claim/cut.py" 625, .int 247 0, .int 1 0, .int 0 0, .int 0 0, .int 3 0, .ref 288, .bool true, .int 181 0, .ref 289, .none, .none, .none, .ref 290, .int 626 0, .int 247 0, .str "/claim/cut.py" 627], #[]⟩
noncomputable def o_292 (P : Params) : Obj := fnAt "law" (.str "law_pq0542_01" 566) (.ref 291) (stm 33) rfl
noncomputable def hd.heap_39 : Params → Frag := fun P => (nat_lit 2, o_2 P) :: (nat_lit 3, o_3 P) :: (nat_lit 15, o_15 P) :: (nat_lit 22, o_22 P) :: (nat_lit 23, o_23 P) :: (nat_lit 24, o_24 P) :: (nat_lit 25, o_25 P) :: (nat_lit 28, o_28 P) :: (nat_lit 35, o_35 P) :: (nat_lit 36, o_36 P) :: (nat_lit 37, o_37 P) :: (nat_lit 40, o_40 P) :: (nat_lit 42, o_42 P) :: (nat_lit 43, o_43 P) :: (nat_lit 45, o_45 P) :: (nat_lit 46, o_46 P) :: (nat_lit 47, o_47 P) :: (nat_lit 49, o_49 P) :: (nat_lit 50, o_50 P) :: (nat_lit 52, o_52 P) :: (nat_lit 53, o_53 P) :: (nat_lit 54, o_54 P) :: (nat_lit 56, o_56 P) :: (nat_lit 57, o_57 P) :: (nat_lit 59, o_59 P) :: (nat_lit 60, o_60 P) :: (nat_lit 61, o_61 P) :: (nat_lit 63, o_63 P) :: (nat_lit 64, o_64 P) :: (nat_lit 66, o_66 P) :: (nat_lit 67, o_67 P) :: (nat_lit 68, o_68 P) :: (nat_lit 70, o_70 P) :: (nat_lit 71, o_71 P) :: (nat_lit 73, o_73 P) :: (nat_lit 74, o_74 P) :: (nat_lit 75, o_75 P) :: (nat_lit 77, o_77 P) :: (nat_lit 78, o_78 P) :: (nat_lit 80, o_80 P) :: (nat_lit 81, o_81 P) :: (nat_lit 82, o_82 P) :: (nat_lit 84, o_84 P) :: (nat_lit 85, o_85 P) :: (nat_lit 87, o_87 P) :: (nat_lit 88, o_88 P) :: (nat_lit 89, o_89 P) :: (nat_lit 91, o_91 P) :: (nat_lit 92, o_92 P) :: (nat_lit 94, o_94 P) :: (nat_lit 95, o_95 P) :: (nat_lit 103, o_103 P) :: (nat_lit 105, o_105 P) :: (nat_lit 106, o_106 P) :: (nat_lit 108, o_108 P) :: (nat_lit 109, o_109 P) :: (nat_lit 110, o_110 P) :: (nat_lit 112, o_112 P) :: (nat_lit 113, o_113 P) :: (nat_lit 115, o_115 P) :: (nat_lit 116, o_116 P) :: (nat_lit 117, o_117 P) :: (nat_lit 119, o_119 P) :: (nat_lit 120, o_120 P) :: (nat_lit 122, o_122 P) :: (nat_lit 123, o_123 P) :: (nat_lit 124, o_124 P) :: (nat_lit 125, o_125 P) :: (nat_lit 126, o_126 P) :: (nat_lit 127, o_127 P) :: (nat_lit 128, o_128 P) :: (nat_lit 138, o_138 P) :: (nat_lit 140, o_140 P) :: (nat_lit 141, o_141 P) :: (nat_lit 143, o_143 P) :: (nat_lit 144, o_144 P) :: (nat_lit 145, o_145 P) :: (nat_lit 147, o_147 P) :: (nat_lit 148, o_148 P) :: (nat_lit 150, o_150 P) :: (nat_lit 151, o_151 P) :: (nat_lit 152, o_152 P) :: (nat_lit 153, o_153 P) :: (nat_lit 154, o_154 P) :: (nat_lit 155, o_155 P) :: (nat_lit 156, o_156 P) :: (nat_lit 166, o_166 P) :: (nat_lit 168, o_168 P) :: (nat_lit 169, o_169 P) :: (nat_lit 171, o_171 P) :: (nat_lit 172, o_172 P) :: (nat_lit 173, o_173 P) :: (nat_lit 175, o_175 P) :: (nat_lit 176, o_176 P) :: (nat_lit 178, o_178 P) :: (nat_lit 179, o_179 P) :: (nat_lit 180, o_180 P) :: (nat_lit 181, o_181 P) :: (nat_lit 182, o_182 P) :: (nat_lit 183, o_183 P) :: (nat_lit 184, o_184 P) :: (nat_lit 187, o_187 P) :: (nat_lit 189, o_189 P) :: (nat_lit 190, o_190 P) :: (nat_lit 192, o_192 P) :: (nat_lit 193, o_193 P) :: (nat_lit 194, o_194 P) :: (nat_lit 196, o_196 P) :: (nat_lit 197, o_197 P) :: (nat_lit 199, o_199 P) :: (nat_lit 200, o_200 P) :: (nat_lit 201, o_201 P) :: (nat_lit 203, o_203 P) :: (nat_lit 204, o_204 P) :: (nat_lit 206, o_206 P) :: (nat_lit 207, o_207 P) :: (nat_lit 208, o_208 P) :: (nat_lit 210, o_210 P) :: (nat_lit 211, o_211 P) :: (nat_lit 213, o_213 P) :: (nat_lit 214, o_214 P) :: (nat_lit 215, o_215 P) :: (nat_lit 217, o_217 P) :: (nat_lit 218, o_218 P) :: (nat_lit 220, o_220 P) :: (nat_lit 221, o_221 P) :: (nat_lit 222, o_222 P) :: (nat_lit 224, o_224 P) :: (nat_lit 225, o_225 P) :: (nat_lit 227, o_227 P) :: (nat_lit 228, o_228 P) :: (nat_lit 229, o_229 P) :: (nat_lit 231, o_231 P) :: (nat_lit 232, o_232 P) :: (nat_lit 234, o_234 P) :: (nat_lit 235, o_235 P) :: (nat_lit 236, o_236 P) :: (nat_lit 238, o_238 P) :: (nat_lit 239, o_239 P) :: (nat_lit 241, o_241 P) :: (nat_lit 242, o_242 P) :: (nat_lit 243, o_243 P) :: (nat_lit 245, o_245 P) :: (nat_lit 246, o_246 P) :: (nat_lit 248, o_248 P) :: (nat_lit 249, o_249 P) :: (nat_lit 250, o_250 P) :: (nat_lit 252, o_252 P) :: (nat_lit 253, o_253 P) :: (nat_lit 255, o_255 P) :: (nat_lit 256, o_256 P) :: (nat_lit 257, o_257 P) :: (nat_lit 260, o_260 P) :: (nat_lit 261, o_261 P) :: (nat_lit 262, o_262 P) :: (nat_lit 264, o_264 P) :: (nat_lit 265, o_265 P) :: (nat_lit 267, o_267 P) :: (nat_lit 268, o_268 P) :: (nat_lit 269, o_269 P) :: (nat_lit 271, o_271 P) :: (nat_lit 272, o_272 P) :: (nat_lit 274, o_274 P) :: (nat_lit 275, o_275 P) :: (nat_lit 276, o_276 P) :: (nat_lit 279, o_279 P) :: (nat_lit 280, o_280 P) :: (nat_lit 281, o_281 P) :: (nat_lit 283, o_283 P) :: (nat_lit 284, o_284 P) :: (nat_lit 286, o_286 P) :: (nat_lit 287, o_287 P) :: (nat_lit 288, o_288 P) :: (nat_lit 291, o_291 P) :: (nat_lit 292, o_292 P) :: []
abbrev hd.as : List Addr := [2, 3, 15, 22, 23, 24, 25, 28, 35, 36, 37, 40, 42, 43, 45, 46, 47, 49, 50, 52, 53, 54, 56, 57, 59, 60, 61, 63, 64, 66, 67, 68, 70, 71, 73, 74, 75, 77, 78, 80, 81, 82, 84, 85, 87, 88, 89, 91, 92, 94, 95, 103, 105, 106, 108, 109, 110, 112, 113, 115, 116, 117, 119, 120, 122, 123, 124, 125, 126, 127, 128, 138, 140, 141, 143, 144, 145, 147, 148, 150, 151, 152, 153, 154, 155, 156, 166, 168, 169, 171, 172, 173, 175, 176, 178, 179, 180, 181, 182, 183, 184, 187, 189, 190, 192, 193, 194, 196, 197, 199, 200, 201, 203, 204, 206, 207, 208, 210, 211, 213, 214, 215, 217, 218, 220, 221, 222, 224, 225, 227, 228, 229, 231, 232, 234, 235, 236, 238, 239, 241, 242, 243, 245, 246, 248, 249, 250, 252, 253, 255, 256, 257, 260, 261, 262, 264, 265, 267, 268, 269, 271, 272, 274, 275, 276, 279, 280, 281, 283, 284, 286, 287, 288, 291, 292]
noncomputable def hd.view : Program := PySem.W.view hd.prog [1, 2, 3, 4, 5, 6, 7, 8, 9, 10, 12, 13, 14, 15, 16, 17, 18, 19, 20, 21, 22, 23, 25, 27, 28, 29, 30, 31, 32, 33]
theorem hd.as_eq : ∀ P, hd.as = (hd.heap_39 P).map (·.1) := fun P => by kernel_rfl
set_option maxRecDepth 100000
set_option maxHeartbeats 0
theorem hd.opens : ∀ w : World, (fencedOpening treeTable hd.prog w 4220).map (fun s => (s.heap, s.gens, s.drawn, s.toks)) = some (boot_heap w.params, Array.mk [], boot_drawn, boot_toks) :=
  boot_open (by kernel_rfl) (by decide) (fun _ => by kernel_rfl)
theorem hd.looks : ∀ w : World, (fun os => (topFrom treeTable hd.prog w 4220 ⟨boot_heap w.params, Array.mk [], boot_drawn, boot_toks, os⟩).map (fun s => (openSeen hd.view [] (importedModules hd.prog.main.body) (fun s => xlAt hd.view [] s && recOk PySem.Challenge.rw_pq0542_01.row.records s) true s, (kmHook hd.heap_39 hd.as hd.as_eq [282]).obs s))) = fun _ => some (openGood hd.view [], (kmHook hd.heap_39 hd.as hd.as_eq [282]).val w) := fun w => by
  unfold topFrom
  rw [Fast.te14082659384304107361, Fast.te14364793385576792824, Fast.te4187177175401517315, Fast.te5923862056798008813, Fast.te8920871248978507458]
  kernel_rfl
theorem hd (walk : WalkO hd.view [] (XL hd.view []) (kmHook hd.heap_39 hd.as hd.as_eq [282]).says PySem.Challenge.rw_pq0542_01.row.toRowW (recAt (stm 33) rfl) [] fun f vs => PySem.call f vs) : PySem.Challenge.rw_pq0542_01.Holds :=
  holds_law (by decide +kernel) fun said => holds_open (N := 4220) (left_of hd.opens hd.looks) (kmHook hd.heap_39 hd.as hd.as_eq [282]).of (kmHook hd.heap_39 hd.as hd.as_eq [282]).keeps (fun s e => xl_of s (Bool.and_eq_true_iff.mp e).1) XL.keeps (by kernel_rfl) (by kernel_rfl) (by kernel_rfl) (fun s e => recFacts_of (Bool.and_eq_true_iff.mp e).2) (by rfl) said (by decide +kernel) ⟨rfl, rfl, rfl, rfl, rfl, by decide +kernel⟩ ⟨[WData.list []], by decide +kernel, by decide +kernel⟩ walk
end Mine
end

section
open PySem PySem.W PySem.Calls PyProof.Rows
namespace Mine

/-- how a called body ends: the frame at its end, what it was handed still (or with the first object changed), what it made -/
noncomputable def BodyEnd (g : Heap) (need : List (Addr × Obj)) (P : List (Addr × Obj) → Value → Prop) (v : Value) (s s' : Shared) : Prop :=
  ∃ L' m' new h' tk', s' = { s with heap := h', toks := tk' } ∧ Fr g L' h' m' ∧ News g L' h' (new ++ need) ∧ (∀ p ∈ new, ∀ q ∈ need, p.1 ≠ q.1) ∧ P new v

noncomputable def BodyEndU (g : Heap) (dx : Addr) (rest : List (Addr × Obj)) (P : Obj → List (Addr × Obj) → Value → Prop) (v : Value) (s s' : Shared) : Prop :=
  ∃ L' m' new od' h' tk', s' = { s with heap := h', toks := tk' } ∧ Fr g L' h' m' ∧ News g L' h' (new ++ (dx, od') :: rest) ∧ (∀ p ∈ new, p.1 ≠ dx ∧ ∀ q ∈ rest, p.1 ≠ q.1) ∧ P od' new v

theorem ne_hidden {h : Heap} {as : List Addr} {a b : Addr} {o : Obj} (e : h.get? b = some o) (hb : b ∉ as) (ha : (hideAll h as).get? a = none) : a ≠ b := fun q => by
  rw [q, hideAll_get as e hb] at ha; cases ha

section
variable {prog : Program} {w : World} {A₀ A : Around} {s : Shared} {base h₀ : Heap} {outer : List Env} {L : Addr} {m : Str → Option Value} {env : Env} {news need : List (Addr × Obj)} {K : Frag} {p : Program} {loose : List Str} {mean : ExcName → Option Value} {mg mb : Str → Option Value}
  {name qual : Str} {params : Arguments} {body : List Stmt} {scope : Scope} {dV kV doc pm cdv ct oc : Value} {an od : Option Addr} {osl : Array (Option Value)} {f : Addr} {pos : List Value} {binds : List (Str × Value)} {Q E : Value → Shared → Prop}

theorem news_kept {P' : List (Addr × Obj)} {L' : Addr} {h' : Heap} {m' : Str → Option Value} (F : Fr h₀ L s.heap m) (N : News h₀ L s.heap news) (N' : News (hideAll s.heap (need.map (·.1))) L' h' P') (hs : ∀ q ∈ need, q ∈ P') (F' : Fr (hideAll s.heap (need.map (·.1))) L' h' m')
    (hsub : ∀ q ∈ need, q ∈ news) : ∀ q ∈ news, h'.get? q.1 = some q.2 := fun q hq => by
  by_cases hb : q.1 ∈ need.map (·.1)
  · obtain ⟨r, hr, e⟩ := List.mem_map.mp hb
    have h1 := (N r (hsub r hr)).1
    have h2 := (N q hq).1
    rw [e, h2] at h1
    have h3 := (N' r (hs r hr)).1
    rw [e] at h3
    rw [h3, ← h1]
  · exact F'.keep _ _ (hideAll_get _ (N q hq).1 hb)

/-- a call whose body reads `need` out of the ledger, changes none of it, raises nothing -/
theorem call_r (need : List (Addr × Obj)) (P : List (Addr × Obj) → Value → Prop)
    (B : Below A₀ base outer h₀) (F : Fr h₀ L s.heap m) (X₀ : K.In h₀) (N : News h₀ L s.heap news) (T : Top p loose mean mg mb h₀) (hsub : ∀ q ∈ need, q ∈ news) (hA : A.frames = some (env :: outer)) (hf : env.frame = some L) (hke : env.scope.kind = .function)
    (ho : K.lookup f = some ⟨oc, od, .func (fnOf name qual params body scope dV kV doc pm an cdv ct), osl⟩) (hcd : codeIn K cdv qual = true) (hroom : A.depth < recursionLimit)
    (hbind : BindsTo s (fnOf name qual params body scope dV kV doc pm an cdv ct) ⟨pos, []⟩ binds) (hloc : ∀ y ∈ binds, scope.names.lookup y.1 = some .local)
    (ret : ∀ v new h' tk', Fr h₀ L h' m → News h₀ L h' (new ++ news) → (∀ p ∈ new, ∀ q ∈ news, p.1 ≠ q.1) → P new v → Q v { s with heap := h', toks := tk' })
    (h : ∀ g L' h₁, Fr g L' h₁ (fun y => binds.reverse.lookup y) → News g L' h₁ need → Below A base (env :: outer) g → K.In g → Top p loose mean mg mb g →
      wpAny (model prog w) (A.deeper (envOf qual scope L' f cdv)) (execs body (envOf qual scope L' f cdv))
        (fun fl s' => BodyEnd g need P (match fl with | .ret v => v | _ => .none) { s with heap := h₁, toks := s.toks + binds.length } s') (fun _ _ => False)
        { s with heap := h₁, toks := s.toks + binds.length })
    (hco : scope.isCoroutine = false) (hgen : scope.isGenerator = false) (hk : scope.kind = .function)
    (hcell : ∀ x ∈ scope.names, x.2 ≠ .cell) : wpAny (model prog w) A (call (.ref f) pos) Q E s := by
  have N0 : News h₀ L s.heap need := fun q hq => N q (hsub q hq)
  obtain ⟨FG, BG, st, _⟩ := groundX (R := fun _ _ => True) B F N0 hA hf hke
  refine wpAny_call (codeAny_call_def (fd := fnX name qual params body scope [] dV kV doc pm an cdv ct) (body := body) (binds := binds) hroom ((X₀.keeps F.keep) _ _ ho) rfl (T.nolimit.keeps F.keep) (codeRec_of (X₀.keeps F.keep) hcd) rfl hbind hcell hloc (fun h₁ hns hk₁ => ?_) hco hgen hk)
  refine wpAny_mono (h _ s.heap.objs.size h₁ ⟨hns, fun b o e => hk₁ b o (of_hideAll _ e), Nat.le_of_eq (hideAll_size _ _)⟩
    (fun p hp => ⟨hk₁ _ _ (N0 p hp).1, Nat.ne_of_lt (Heap.lt_size (N0 p hp).1), hideAll_none _ (List.mem_map_of_mem hp)⟩) BG (X₀.keeps st) (T.keeps st)) (fun fl s' hl => ?_) fun _ _ y => y.elim
  obtain ⟨L', m', new, h', tk', rfl, F', N', hne, hP⟩ := hl
  have hkept := news_kept F N N' (fun q hq => List.mem_append.mpr (.inr hq)) F' hsub
  obtain ⟨oL, es, ep, hL, hLd, hLk, hLf⟩ := F.ns
  have nL : L ∉ need.map (·.1) := fun q => by
    obtain ⟨p, hp, e⟩ := List.mem_map.mp q
    exact (N0 p hp).2.1 e
  have hLg := hideAll_get (need.map (·.1)) hL nL
  refine ret _ new h' tk' ⟨⟨oL, es, ep, F'.keep L oL hLg, hLd, hLk, hLf⟩, fun b o e => F'.keep b o (st b o e), F.above⟩ (fun q hq => ?_) (fun p hp q hq => ?_) hP
  · rcases List.mem_append.mp hq with hq | hq
    · have z := N' q (List.mem_append.mpr (.inl hq))
      refine ⟨z.1, fun e => ?_, ?_⟩
      · have := z.2.2; rw [e, hLg] at this; cases this
      · cases e : h₀.get? q.1 with
        | none => rfl
        | some o => have := z.2.2; rw [st _ _ e] at this; cases this
    · exact ⟨hkept q hq, (N q hq).2⟩
  · by_cases hb : q.1 ∈ need.map (·.1)
    · obtain ⟨r, hr, e⟩ := List.mem_map.mp hb
      exact e ▸ hne p hp r hr
    · exact ne_hidden (N q hq).1 hb (N' p (List.mem_append.mpr (.inl hp))).2.2
end

section
variable {g : Heap} {need led : List (Addr × Obj)} {P : List (Addr × Obj) → Value → Prop} {s : Shared} {h' : Heap} {tk : Nat} {L' : Addr} {m' : Str → Option Value}
/-- a body's end that hands back one new object -/
theorem end_new {r : Addr} {o : Obj} (F : Fr g L' h' m') (N : News g L' h' led) (hr : (r, o) ∈ led) (hn : ∀ q ∈ need, q ∈ led) (hne : ∀ q ∈ need, q.1 ≠ r) (hP : P [(r, o)] (.ref r)) :
    BodyEnd g need P (.ref r) s { s with heap := h', toks := tk } :=
  ⟨L', m', [(r, o)], h', tk, rfl, F, fun q hq => N q ((List.mem_append.mp hq).elim (fun h => List.mem_singleton.mp h ▸ hr) (hn q)), fun p hp q hq => List.mem_singleton.mp hp ▸ (hne q hq).symm, hP⟩
/-- a body's end that hands back no new object -/
theorem end_val {v : Value} (F : Fr g L' h' m') (N : News g L' h' led) (hn : ∀ q ∈ need, q ∈ led) (hP : P [] v) :
    BodyEnd g need P v s { s with heap := h', toks := tk } :=
  ⟨L', m', [], h', tk, rfl, F, fun q hq => N q (hn q hq), (fun p hp => absurd hp List.not_mem_nil), hP⟩
end
/-- what a call that hands back a list of ints says of it -/
noncomputable def OutI (xs : List Int) (new : List (Addr × Obj)) (v : Value) : Prop := ∃ r us c', v = .ref r ∧ new = [(r, listOf us.toArray c')] ∧ IntsAre us xs
theorem outI {r : Addr} {us : List Value} {c' : Nat} {xs : List Int} (h : IntsAre us xs) : OutI xs [(r, listOf us.toArray c')] (.ref r) := ⟨r, us, c', rfl, rfl, h⟩
noncomputable def OutN (i : Int) (new : List (Addr × Obj)) (v : Value) : Prop := new = [] ∧ ∃ t, v = .int i t
theorem outN {i : Int} {t : Tok} : OutN i [] (.int i t) := ⟨rfl, t, rfl⟩
noncomputable def AllNe (r : Addr) : List (Addr × Obj) → Prop
  | [] => True
  | p :: l => @Ne Nat r p.1 ∧ AllNe r l
theorem allNe_of {r : Addr} : ∀ {l : List (Addr × Obj)}, (∀ q ∈ l, r ≠ q.1) → AllNe r l
  | [], _ => trivial
  | p :: _, h => ⟨h p (.head _), allNe_of fun q hq => h q (.tail _ hq)⟩

theorem updF_mem {d : Addr} {o o' : Obj} {news : List (Addr × Obj)} {gl : Obj → List (Addr × Obj)} (U : UpdF d o news gl) : (d, o) ∈ news ∧ ∀ q ∈ gl o', (q = (d, o')) ∨ (q.1 ≠ d ∧ q ∈ news) := by
  obtain ⟨pre, post, rfl, hg, h1, h2⟩ := U.split
  refine ⟨List.mem_append.mpr (.inr (.head _)), fun q hq => ?_⟩
  rw [hg] at hq
  rcases List.mem_append.mp hq with hq | hq
  · exact .inr ⟨h1 q hq, List.mem_append.mpr (.inl hq)⟩
  · rcases List.mem_cons.mp hq with rfl | hq
    · exact .inl rfl
    · exact .inr ⟨h2 q hq, List.mem_append.mpr (.inr (.tail _ hq))⟩
section
variable {prog : Program} {w : World} {A₀ A : Around} {s : Shared} {base h₀ : Heap} {outer : List Env} {L : Addr} {m : Str → Option Value} {env : Env} {news : List (Addr × Obj)} {K : Frag} {p : Program} {loose : List Str} {mean : ExcName → Option Value} {mg mb : Str → Option Value}
  {name qual : Str} {params : Arguments} {body : List Stmt} {scope : Scope} {dV kV doc pm cdv ct oc : Value} {an od : Option Addr} {osl : Array (Option Value)} {f : Addr} {pos : List Value} {binds : List (Str × Value)} {Q E : Value → Shared → Prop}
/-- a call whose body reads `rest` out of the ledger and changes one object of it -/
theorem call_u {dx : Addr} {ob : Obj} {gl : Obj → List (Addr × Obj)} (rest : List (Addr × Obj)) (P : Obj → List (Addr × Obj) → Value → Prop)
    (B : Below A₀ base outer h₀) (F : Fr h₀ L s.heap m) (X₀ : K.In h₀) (N : News h₀ L s.heap news) (T : Top p loose mean mg mb h₀) (U : UpdF dx ob news gl) (hsub : ∀ q ∈ rest, q ∈ news) (hoff : ∀ q ∈ rest, q.1 ≠ dx) (hA : A.frames = some (env :: outer)) (hf : env.frame = some L) (hke : env.scope.kind = .function)
    (ho : K.lookup f = some ⟨oc, od, .func (fnOf name qual params body scope dV kV doc pm an cdv ct), osl⟩) (hcd : codeIn K cdv qual = true) (hroom : A.depth < recursionLimit)
    (hbind : BindsTo s (fnOf name qual params body scope dV kV doc pm an cdv ct) ⟨pos, []⟩ binds) (hloc : ∀ y ∈ binds, scope.names.lookup y.1 = some .local)
    (ret : ∀ v new ob' h' tk', Fr h₀ L h' m → News h₀ L h' (new ++ gl ob') → (∀ p ∈ new, ∀ q ∈ gl ob', p.1 ≠ q.1) → P ob' new v → Q v { s with heap := h', toks := tk' })
    (h : ∀ g L' h₁, Fr g L' h₁ (fun y => binds.reverse.lookup y) → News g L' h₁ ((dx, ob) :: rest) → Below A base (env :: outer) g → K.In g → Top p loose mean mg mb g →
      wpAny (model prog w) (A.deeper (envOf qual scope L' f cdv)) (execs body (envOf qual scope L' f cdv))
        (fun fl s' => BodyEndU g dx rest P (match fl with | .ret v => v | _ => .none) { s with heap := h₁, toks := s.toks + binds.length } s') (fun _ _ => False)
        { s with heap := h₁, toks := s.toks + binds.length })
    (hco : scope.isCoroutine = false) (hgen : scope.isGenerator = false) (hk : scope.kind = .function)
    (hcell : ∀ x ∈ scope.names, x.2 ≠ .cell) : wpAny (model prog w) A (call (.ref f) pos) Q E s := by
  have hdx := (updF_mem (o' := ob) U).1
  have N0 : News h₀ L s.heap ((dx, ob) :: rest) := fun q hq => N q ((List.mem_cons.mp hq).elim (fun e => e ▸ hdx) (hsub q))
  obtain ⟨FG, BG, st, _⟩ := groundX (R := fun _ _ => True) B F N0 hA hf hke
  refine wpAny_call (codeAny_call_def (fd := fnX name qual params body scope [] dV kV doc pm an cdv ct) (body := body) (binds := binds) hroom ((X₀.keeps F.keep) _ _ ho) rfl (T.nolimit.keeps F.keep) (codeRec_of (X₀.keeps F.keep) hcd) rfl hbind hcell hloc (fun h₁ hns hk₁ => ?_) hco hgen hk)
  refine wpAny_mono (h _ s.heap.objs.size h₁ ⟨hns, fun b o e => hk₁ b o (of_hideAll _ e), Nat.le_of_eq (hideAll_size _ _)⟩
    (fun p hp => ⟨hk₁ _ _ (N0 p hp).1, Nat.ne_of_lt (Heap.lt_size (N0 p hp).1), hideAll_none _ (List.mem_map_of_mem hp)⟩) BG (X₀.keeps st) (T.keeps st)) (fun fl s' hl => ?_) fun _ _ y => y.elim
  obtain ⟨L', m', new, ob', h', tk', rfl, F', N', hne, hP⟩ := hl
  obtain ⟨oL, es, ep, hL, hLd, hLk, hLf⟩ := F.ns
  have nL : L ∉ ((dx, ob) :: rest).map (·.1) := fun q => by
    obtain ⟨p, hp, e⟩ := List.mem_map.mp q
    exact (N0 p hp).2.1 e
  have hLg := hideAll_get (((dx, ob) :: rest).map (·.1)) hL nL
  have look : ∀ q ∈ gl ob', h'.get? q.1 = some q.2 ∧ q.1 ≠ L ∧ h₀.get? q.1 = none := fun q hq => by
    rcases (updF_mem (o' := ob') U).2 q hq with rfl | ⟨hqd, hq⟩
    · exact ⟨(N' _ (List.mem_append.mpr (.inr (.head _)))).1, (N _ hdx).2⟩
    · refine ⟨?_, (N q hq).2⟩
      by_cases hb : q.1 ∈ ((dx, ob) :: rest).map (·.1)
      · obtain ⟨r, hr, e⟩ := List.mem_map.mp hb
        rcases List.mem_cons.mp hr with rfl | hr
        · exact absurd e.symm hqd
        · have h1 := (N r (hsub r hr)).1
          have h2 := (N q hq).1
          rw [e, h2] at h1
          have h3 := (N' r (List.mem_append.mpr (.inr (.tail _ hr)))).1
          rw [e] at h3
          rw [h3, ← h1]
      · exact F'.keep _ _ (hideAll_get _ (N q hq).1 hb)
  refine ret _ new ob' h' tk' ⟨⟨oL, es, ep, F'.keep L oL hLg, hLd, hLk, hLf⟩, fun b o e => F'.keep b o (st b o e), F.above⟩ (fun q hq => ?_) (fun p hp q hq => ?_) hP
  · rcases List.mem_append.mp hq with hq | hq
    · have z := N' q (List.mem_append.mpr (.inl hq))
      refine ⟨z.1, fun e => ?_, ?_⟩
      · have := z.2.2; rw [e, hLg] at this; cases this
      · cases e : h₀.get? q.1 with
        | none => rfl
        | some o => have := z.2.2; rw [st _ _ e] at this; cases this
    · exact look q hq
  · rcases (updF_mem (o' := ob') U).2 q hq with rfl | ⟨hqd, hq⟩
    · exact (hne p hp).1
    · by_cases hb : q.1 ∈ ((dx, ob) :: rest).map (·.1)
      · obtain ⟨r, hr, e⟩ := List.mem_map.mp hb
        rcases List.mem_cons.mp hr with rfl | hr
        · exact absurd e.symm hqd
        · exact e ▸ (hne p hp).2 r hr
      · exact ne_hidden (N q hq).1 hb (N' p (List.mem_append.mpr (.inl hp))).2.2
end
section
variable {g : Heap} {rest led : List (Addr × Obj)} {dx : Addr} {ob' : Obj} {P : Obj → List (Addr × Obj) → Value → Prop} {s : Shared} {h' : Heap} {tk : Nat} {L' : Addr} {m' : Str → Option Value}
theorem end_newU {r : Addr} {o : Obj} (F : Fr g L' h' m') (N : News g L' h' led) (hr : (r, o) ∈ led) (hd : (dx, ob') ∈ led) (hn : ∀ q ∈ rest, q ∈ led) (hne : r ≠ dx ∧ ∀ q ∈ rest, r ≠ q.1) (hP : P ob' [(r, o)] (.ref r)) :
    BodyEndU g dx rest P (.ref r) s { s with heap := h', toks := tk } :=
  ⟨L', m', [(r, o)], ob', h', tk, rfl, F, fun q hq => N q ((List.mem_append.mp hq).elim (fun h => by rw [List.mem_singleton.mp h]; exact hr) fun h => (List.mem_cons.mp h).elim (fun e => by rw [e]; exact hd) (hn q)), (fun p hp => by rw [List.mem_singleton.mp hp]; exact hne), hP⟩
theorem end_valU {v : Value} (F : Fr g L' h' m') (N : News g L' h' led) (hd : (dx, ob') ∈ led) (hn : ∀ q ∈ rest, q ∈ led) (hP : P ob' [] v) :
    BodyEndU g dx rest P v s { s with heap := h', toks := tk } :=
  ⟨L', m', [], ob', h', tk, rfl, F, fun q hq => N q ((List.mem_cons.mp hq).elim (fun e => e ▸ hd) (hn q)), (fun p hp => absurd hp List.not_mem_nil), hP⟩
end
theorem ne_allOf {r : Addr} {l : List (Addr × Obj)} (h : AllNe r l) : ∀ q ∈ l, r ≠ q.1 := by
  induction l with
  | nil => intro q hq; cases hq
  | cons p l ih =>
    intro q hq
    rcases List.mem_cons.mp hq with e | hq
    · rw [e]; exact h.1
    · exact ih h.2 q hq
theorem my_item {prog : Program} {w : World} {A : Around} {E : Value → Shared → Prop} {s : Shared} {value slice : PySem.Expr} {l : Addr} {vs : List Value} {k : Int} {u : Tok} {v : Value} {Q : Value → Shared → Prop}
    (hl : s.heap.IsList l vs.toArray) (h0 : 0 ≤ k) (hhi : k < 2 ^ 63) (hx : vs[k.toNat]? = some v) (h : Q v s)
    (hs : subscripted slice false (.ref l) (.int k u) = operate [.ref l, .int k u] (getItem (.ref l) (.int k u)) := by with_unfolding_all rfl) :
    wpAny (model prog w) A (subscriptTail value slice (.ref l) (.int k u)) Q E s :=
  tail_any hl.typeIs slot_list_getitem.lookup (wpAny_getItem_list hl h0 hhi (by simpa using hx) h) hs
theorem led5_off {own rows : List (Addr × Obj)} {r r' a b c d : Addr} {o1 o2 o3 o4 o5 : Obj} (hr : ∀ q ∈ own, r' ≠ q.1) (ho : OwnOff own (r :: a :: b :: c :: d :: rows.map (·.1))) :
    ∀ p ∈ (r', o1) :: (a, o2) :: (b, o3) :: (c, o4) :: (d, o5) :: rows, ∀ q ∈ own, p.1 ≠ q.1 := by
  intro p hp q hq e
  have hm : p = (r', o1) ∨ p.1 ∈ (r :: a :: b :: c :: d :: rows.map (·.1)) := by
    rcases List.mem_cons.mp hp with rfl | hp
    · exact .inl rfl
    rcases List.mem_cons.mp hp with rfl | hp
    · exact .inr (.tail _ (.head _))
    rcases List.mem_cons.mp hp with rfl | hp
    · exact .inr (.tail _ (.tail _ (.head _)))
    rcases List.mem_cons.mp hp with rfl | hp
    · exact .inr (.tail _ (.tail _ (.tail _ (.head _))))
    rcases List.mem_cons.mp hp with rfl | hp
    · exact .inr (.tail _ (.tail _ (.tail _ (.tail _ (.head _)))))
    · exact .inr (.tail _ (.tail _ (.tail _ (.tail _ (.tail _ (List.mem_map_of_mem hp))))))
  rcases hm with rfl | hm
  · exact hr q hq e
  · exact ho q hq _ hm e.symm
/-- what a call that hands back True and nothing new says of it -/
noncomputable def OutT (new : List (Addr × Obj)) (v : Value) : Prop := new = [] ∧ v = .bool true
theorem outT : OutT [] (.bool true) := ⟨rfl, rfl⟩
end Mine
end

section
open PySem PySem.W
namespace Mine
noncomputable def normalZ : List Int → List Int
  | [] => []
  | x :: xs => match normalZ xs with
    | [] => if x = 0 then [] else [x]
    | y :: ys => x :: y :: ys
theorem normalZ_snoc0 (l : List Int) : normalZ (l ++ [0]) = normalZ l := by
  induction l with
  | nil => rfl
  | cons x xs ih => rw [List.cons_append, normalZ, normalZ, ih]
theorem normalZ_id (l : List Int) (x : Int) (hx : x ≠ 0) : normalZ (l ++ [x]) = l ++ [x] := by
  induction l with
  | nil => simp [normalZ, hx]
  | cons y ys ih => 
    rw [List.cons_append, normalZ, ih]
    cases h : ys ++ [x] with
    | nil => simp at h
    | cons a b => rfl
end Mine
namespace Mine
theorem take_pred (l : List Int) (k : Nat) (hk : k < l.length) : l.take (k + 1) = l.take k ++ [l.getD k 0] := by
  rw [List.take_add_one, List.getD_eq_getElem?_getD, List.getElem?_eq_getElem hk]; rfl
theorem pred_is {e : Int} (h : 0 < e) : e.toNat = (e - 1).toNat + 1 := by
  obtain ⟨n, rfl⟩ := Int.eq_succ_of_zero_lt h
  show (((n + 1 : Nat) : Int)).toNat = (((n : Int) + 1) - 1).toNat + 1
  rw [Int.add_sub_cancel, Int.toNat_natCast, Int.toNat_natCast]
theorem normal_turn {e : Int} {ns : List Int} (h0 : 0 ≤ e) (h1 : e ≤ (ns.length : Int)) (hp : 0 < e) (hz : ns.getD (e - 1).toNat 0 = 0) (hn : normalZ (ns.take e.toNat) = normalZ ns) :
    0 ≤ e - 1 ∧ e - 1 ≤ (ns.length : Int) ∧ normalZ (ns.take (e - 1).toNat) = normalZ ns := by
  refine ⟨by omega, by omega, ?_⟩
  have h2 : e.toNat = (e - 1).toNat + 1 := pred_is hp
  rw [h2, take_pred _ _ (by omega), hz, normalZ_snoc0] at hn
  exact hn
theorem normal_end1 {e : Int} {ns : List Int} (h0 : 0 ≤ e) (hp : ¬ 0 < e) (hn : normalZ (ns.take e.toNat) = normalZ ns) : ns.take e.toNat = normalZ ns := by
  have : e = 0 := by omega
  subst this
  rw [← hn]; rfl
theorem normal_end2 {e : Int} {ns : List Int} (h1 : e ≤ (ns.length : Int)) (hp : 0 < e) (hz : ns.getD (e - 1).toNat 0 ≠ 0) (hn : normalZ (ns.take e.toNat) = normalZ ns) : ns.take e.toNat = normalZ ns := by
  have h2 : e.toNat = (e - 1).toNat + 1 := pred_is hp
  rw [h2, take_pred _ _ (by omega), normalZ_id _ _ hz] at hn
  rw [h2, take_pred _ _ (by omega)]
  exact hn
end Mine
namespace Mine
noncomputable def addR1 (M : Int) : List Int → Int → List Int
  | [], c => if 0 < c then [c] else []
  | x :: xs, c => (c + x) % M :: addR1 M xs ((c + x) / M)
noncomputable def addR2 (M : Int) : List Int → Int → List Int → List Int
  | [], c, ys => addR1 M ys c
  | x :: xs, c, [] => (c + x) % M :: addR2 M xs ((c + x) / M) []
  | x :: xs, c, y :: ys => (c + (x + y)) % M :: addR2 M xs ((c + (x + y)) / M) ys
noncomputable def addR (M c : Int) (xs ys : List Int) : List Int := addR2 M xs c ys
theorem addR_nn (M c : Int) : addR M c [] [] = if 0 < c then [c] else [] := rfl
theorem addR_cn (M c x : Int) (xs : List Int) : addR M c (x :: xs) [] = (c + x) % M :: addR M ((c + x) / M) xs [] := rfl
theorem addR_nc (M c y : Int) (ys : List Int) : addR M c [] (y :: ys) = (c + y) % M :: addR M ((c + y) / M) [] ys := rfl
theorem addR_cc (M c x y : Int) (xs ys : List Int) : addR M c (x :: xs) (y :: ys) = (c + (x + y)) % M :: addR M ((c + (x + y)) / M) xs ys := rfl
noncomputable def addZ (k : Int) (xs ys : List Int) : List Int := addR (2 ^ k.toNat) 0 xs ys
end Mine
namespace Mine
theorem drop_cons (l : List Int) (n : Nat) (h : n < l.length) : l.drop n = l.getD n 0 :: l.drop (n + 1) := by
  rw [List.getD_eq_getElem?_getD, List.getElem?_eq_getElem h, List.drop_eq_getElem_cons h]; rfl
theorem mask_is (x k : Int) : Builtin.bitAnd x (1 * 2 ^ k.toNat - 1) = x % 2 ^ k.toNat := by rw [Int.one_mul, kbt_mask]
theorem pow_pos (k : Int) : (0 : Int) < 2 ^ k.toNat := kbt_pos _
theorem fdiv_is (x k : Int) : x.fdiv (2 ^ k.toNat) = x / 2 ^ k.toNat := Int.fdiv_eq_ediv_of_nonneg _ (Int.le_of_lt (pow_pos k))
/-- what add's loops keep: what is found, and what is still to come -/
structure AddInv (k : Int) (a b : List Int) (carry : Int) (found : List Int) : Prop where
  ge : ∀ x ∈ a, 0 ≤ x
  ge' : ∀ x ∈ b, 0 ≤ x
  le : b.length ≤ a.length
  c0 : 0 ≤ carry
  rest : found ++ addR (2 ^ k.toNat) carry (a.drop found.length) (b.drop found.length) = addR (2 ^ k.toNat) 0 a b
theorem AddInv.start {k : Int} {a b : List Int} (h : b.length ≤ a.length) (ge : ∀ x ∈ a, 0 ≤ x) (ge' : ∀ x ∈ b, 0 ≤ x) : AddInv k a b 0 [] := ⟨ge, ge', h, Int.le_refl _, rfl⟩
theorem getD_ge {l : List Int} (h : ∀ x ∈ l, 0 ≤ x) (n : Nat) : 0 ≤ l.getD n 0 := by
  rw [List.getD_eq_getElem?_getD]
  cases e : l[n]? with
  | none => exact Int.le_refl _
  | some v => exact h v (List.mem_of_getElem? e)
theorem len_snoc (f : List Int) (x : Int) : (f ++ [x]).length = f.length + 1 := by simp
theorem add_turn1 {k kN c : Int} {a b f pre : List Int} (hkN : kN = 0 + (pre.length : Int)) (hlt : pre.length < ((b.length : Int) - 0).toNat) (h : f.length = ([] : List Int).length + pre.length) (I : AddInv k a b c f) :
    (f ++ [Builtin.bitAnd (c + (a.getD kN.toNat 0 + b.getD kN.toNat 0)) (1 * 2 ^ k.toNat - 1)]).length = ([] : List Int).length + (pre ++ [kN]).length ∧ (f ++ [Builtin.bitAnd (c + (a.getD kN.toNat 0 + b.getD kN.toNat 0)) (1 * 2 ^ k.toNat - 1)]).length ≤ a.length ∧ AddInv k a b ((c + (a.getD kN.toNat 0 + b.getD kN.toNat 0)).fdiv (2 ^ k.toNat)) (f ++ [Builtin.bitAnd (c + (a.getD kN.toNat 0 + b.getD kN.toNat 0)) (1 * 2 ^ k.toNat - 1)]) := by
  rw [List.length_nil, Nat.zero_add] at h
  rw [Int.sub_zero, Int.toNat_natCast] at hlt
  have e : kN.toNat = f.length := by rw [hkN, Int.zero_add, Int.toNat_natCast, h]
  have hb : f.length < b.length := h ▸ hlt
  clear hkN hlt
  have hle := I.le
  refine ⟨by rw [len_snoc, len_snoc, List.length_nil, Nat.zero_add, h], by rw [len_snoc]; omega, I.ge, I.ge', I.le, ?_, ?_⟩
  · rw [fdiv_is]
    have := getD_ge I.ge kN.toNat
    have := getD_ge I.ge' kN.toNat
    have := I.c0
    exact Int.ediv_nonneg (by omega) (Int.le_of_lt (pow_pos k))
  · rw [← I.rest, mask_is, fdiv_is, len_snoc, e, drop_cons a _ (Nat.lt_of_lt_of_le hb I.le), drop_cons b _ hb, addR_cc, List.append_assoc]
    rfl
theorem add_turn2 {k kN c : Int} {a b f f0 pre : List Int} (hkN : kN = (b.length : Int) + (pre.length : Int)) (hlt : pre.length < ((a.length : Int) - (b.length : Int)).toNat) (h0 : f0.length = ([] : List Int).length + (rangeKs 0 ((b.length : Int) - 0).toNat).length) (h : f.length = f0.length + pre.length) (I : AddInv k a b c f) :
    (f ++ [Builtin.bitAnd (c + a.getD kN.toNat 0) (1 * 2 ^ k.toNat - 1)]).length = f0.length + (pre ++ [kN]).length ∧ (f ++ [Builtin.bitAnd (c + a.getD kN.toNat 0) (1 * 2 ^ k.toNat - 1)]).length ≤ a.length ∧ AddInv k a b ((c + a.getD kN.toNat 0).fdiv (2 ^ k.toNat)) (f ++ [Builtin.bitAnd (c + a.getD kN.toNat 0) (1 * 2 ^ k.toNat - 1)]) := by
  rw [rangeKs_length, List.length_nil, Int.sub_zero, Int.toNat_natCast, Nat.zero_add] at h0
  rw [Int.toNat_sub] at hlt
  have e : kN.toNat = f.length := by rw [hkN, ← Int.natCast_add, Int.toNat_natCast, h, h0]
  clear hkN
  have ha : f.length < a.length := by omega
  have hle := I.le
  refine ⟨by rw [len_snoc, len_snoc]; omega, by rw [len_snoc]; omega, I.ge, I.ge', I.le, ?_, ?_⟩
  · rw [fdiv_is]
    have := getD_ge I.ge kN.toNat
    have := I.c0
    exact Int.ediv_nonneg (by omega) (Int.le_of_lt (pow_pos k))
  · rw [← I.rest, mask_is, fdiv_is, len_snoc, e, drop_cons a _ ha, List.drop_of_length_le (by omega : b.length ≤ f.length), List.drop_of_length_le (by omega : b.length ≤ f.length + 1), addR_cn, List.append_assoc]
    rfl
theorem add_end {k c : Int} {a b f f0 : List Int} (h0 : f0.length = ([] : List Int).length + (rangeKs 0 ((b.length : Int) - 0).toNat).length) (h : f.length = f0.length + (rangeKs (b.length : Int) ((a.length : Int) - (b.length : Int)).toNat).length) (I : AddInv k a b c f) :
    f ++ (if 0 < c then [c] else []) = addZ k a b := by
  rw [rangeKs_length, List.length_nil, Int.sub_zero, Int.toNat_natCast, Nat.zero_add] at h0
  rw [rangeKs_length, Int.toNat_sub, h0] at h
  have := I.le
  have e := I.rest
  rw [List.drop_of_length_le (by omega : a.length ≤ f.length), List.drop_of_length_le (by omega : b.length ≤ f.length), addR_nn] at e
  exact e
theorem addR_comm (M : Int) : ∀ (xs ys : List Int) (c : Int), addR M c xs ys = addR M c ys xs
  | [], [], _ => rfl
  | [], y :: ys, c => by rw [addR_nc, addR_cn, addR_comm M [] ys]
  | x :: xs, [], c => by rw [addR_cn, addR_nc, addR_comm M xs []]
  | x :: xs, y :: ys, c => by rw [addR_cc, addR_cc, addR_comm M xs ys, Int.add_comm x y]
theorem addZ_comm (k : Int) (xs ys : List Int) : addZ k xs ys = addZ k ys xs := addR_comm _ _ _ _
theorem add_endA {k c : Int} {a b f f0 : List Int} (hc : 0 < c) (h0 : f0.length = ([] : List Int).length + (rangeKs 0 ((b.length : Int) - 0).toNat).length) (h : f.length = f0.length + (rangeKs (b.length : Int) ((a.length : Int) - (b.length : Int)).toNat).length) (I : AddInv k a b c f) :
    f ++ [c] = addZ k a b := by rw [← add_end h0 h I, if_pos hc]
theorem add_endB {k c : Int} {a b f f0 : List Int} (hc : ¬ 0 < c) (h0 : f0.length = ([] : List Int).length + (rangeKs 0 ((b.length : Int) - 0).toNat).length) (h : f.length = f0.length + (rangeKs (b.length : Int) ((a.length : Int) - (b.length : Int)).toNat).length) (I : AddInv k a b c f) :
    f = addZ k a b := by rw [← add_end h0 h I, if_neg hc, List.append_nil]
end Mine

namespace Mine
noncomputable def cmpR : List Int → List Int → Int
  | x :: xs, y :: ys => if cmpR xs ys ≠ 0 then cmpR xs ys else if x < y then -1 else if y < x then 1 else 0
  | _, _ => 0
theorem cmpR_cc (x y : Int) (xs ys : List Int) : cmpR (x :: xs) (y :: ys) = if cmpR xs ys ≠ 0 then cmpR xs ys else if x < y then -1 else if y < x then 1 else 0 := rfl
noncomputable def cmpZ (xs ys : List Int) : Int := if xs.length < ys.length then -1 else if ys.length < xs.length then 1 else cmpR xs ys
structure CmpInv (a b : List Int) (pre : List Int) : Prop where
  eq : a.length = b.length
  le : pre.length ≤ a.length
  rest : a.drop (a.length - pre.length) = b.drop (a.length - pre.length)
theorem CmpInv.start {a b : List Int} (h : a.length = b.length) : CmpInv a b [] := ⟨h, Nat.zero_le _, by
  simp only [List.length_nil, Nat.sub_zero]; rw [List.drop_length, List.drop_of_length_le (by omega)]⟩
theorem cmp_k {la lp : Nat} {k : Int} (hk : k = ((la : Int) - 1) - (lp : Int)) (hl : lp < ((la : Int) - 1 - -1).toNat) : ∃ n : Nat, k = n ∧ la = lp + n + 1 := by
  rw [show (la : Int) - 1 - -1 = la by omega, Int.toNat_natCast] at hl
  obtain ⟨n, rfl⟩ := Nat.exists_eq_add_of_lt hl
  exact ⟨n, by omega, rfl⟩
theorem CmpInv.turn {a b pre : List Int} {k : Int} (hk : k = ((a.length : Int) - 1) - (pre.length : Int)) (hl : pre.length < ((a.length : Int) - 1 - -1).toNat) (he : a.getD k.toNat 0 = b.getD k.toNat 0) (I : CmpInv a b pre) : CmpInv a b (pre ++ [k]) := by
  have h1 := I.eq
  obtain ⟨n, rfl, e0⟩ := cmp_k hk hl
  clear hk hl
  rw [Int.toNat_natCast] at he
  have e1 : a.length - pre.length = n + 1 := by rw [e0, Nat.add_assoc, Nat.add_sub_cancel_left]
  have e2 : a.length - (pre ++ [(n : Int)]).length = n := by rw [List.length_append, List.length_singleton, e0]; omega
  refine ⟨I.eq, by rw [List.length_append, List.length_singleton]; omega, ?_⟩
  rw [e2, drop_cons a _ (by omega), drop_cons b _ (by omega), he]
  have := I.rest
  rw [e1] at this
  rw [this]
theorem cmpR_self : ∀ a : List Int, cmpR a a = 0
  | [] => rfl
  | x :: xs => by rw [cmpR_cc, cmpR_self xs]; simp
theorem cmpR_at : ∀ (a b : List Int) (i : Nat), i < a.length → i < b.length → a.drop (i + 1) = b.drop (i + 1) → a.getD i 0 ≠ b.getD i 0 → cmpR a b = if a.getD i 0 < b.getD i 0 then -1 else 1
  | x :: xs, y :: ys, 0, _, _, e, ne => by
    simp only [List.drop_succ_cons, List.drop_zero] at e
    simp only [List.getD_cons_zero] at ne ⊢
    rw [cmpR_cc, e, cmpR_self]
    simp only [ne_eq, not_true_eq_false, if_false]
    split
    · rfl
    · rw [if_pos (by omega)]
  | x :: xs, y :: ys, i + 1, h1, h2, e, ne => by
    simp only [List.drop_succ_cons, List.getD_cons_succ, List.length_cons] at e ne h1 h2 ⊢
    have ih := cmpR_at xs ys i (by omega) (by omega) e ne
    rw [cmpR_cc, ih]
    rw [if_pos (by split <;> decide)]
theorem cmp_e1 {a b : List Int} (h : (a.length : Int) < (b.length : Int)) : cmpZ a b = -1 := by rw [cmpZ, if_pos (by omega)]
theorem cmp_e2 {a b : List Int} (hn : (a.length : Int) ≠ (b.length : Int)) (h : ¬ (a.length : Int) < (b.length : Int)) : cmpZ a b = 1 := by rw [cmpZ, if_neg (by omega), if_pos (by omega)]
theorem cmp_at {a b pre : List Int} {k : Int} (hk : k = ((a.length : Int) - 1) - (pre.length : Int)) (hl : pre.length < ((a.length : Int) - 1 - -1).toNat) (he : a.getD k.toNat 0 ≠ b.getD k.toNat 0) (I : CmpInv a b pre) : cmpZ a b = if a.getD k.toNat 0 < b.getD k.toNat 0 then -1 else 1 := by
  have h1 := I.eq
  obtain ⟨n, rfl, e0⟩ := cmp_k hk hl
  clear hk hl
  rw [Int.toNat_natCast] at he
  rw [Int.toNat_natCast]
  have e1 : a.length - pre.length = n + 1 := by rw [e0, Nat.add_assoc, Nat.add_sub_cancel_left]
  have := I.rest
  rw [e1] at this
  rw [cmpZ, if_neg (by omega), if_neg (by omega)]
  exact cmpR_at a b n (by omega) (by omega) this he
theorem cmp_e3 {a b pre : List Int} {k : Int} (hk : k = ((a.length : Int) - 1) - (pre.length : Int)) (hl : pre.length < ((a.length : Int) - 1 - -1).toNat) (he : a.getD k.toNat 0 ≠ b.getD k.toNat 0) (I : CmpInv a b pre) (h : a.getD k.toNat 0 < b.getD k.toNat 0) : cmpZ a b = -1 := by rw [cmp_at hk hl he I, if_pos h]
theorem cmp_e4 {a b pre : List Int} {k : Int} (hk : k = ((a.length : Int) - 1) - (pre.length : Int)) (hl : pre.length < ((a.length : Int) - 1 - -1).toNat) (he : a.getD k.toNat 0 ≠ b.getD k.toNat 0) (I : CmpInv a b pre) (h : ¬ a.getD k.toNat 0 < b.getD k.toNat 0) : cmpZ a b = 1 := by rw [cmp_at hk hl he I, if_neg h]
theorem cmp_e5 {a b : List Int} (I : CmpInv a b (downKs ((a.length : Int) - 1) ((a.length : Int) - 1 - -1).toNat)) : cmpZ a b = 0 := by
  have h1 := I.eq
  have := I.rest
  rw [downKs_length, show a.length - ((a.length : Int) - 1 - -1).toNat = 0 from by omega, List.drop_zero, List.drop_zero] at this
  rw [cmpZ, if_neg (by omega), if_neg (by omega), this, cmpR_self]
noncomputable def lowZ (k n : Int) (xs : List Int) : List Int :=
  if (xs.length : Int) ≤ n.fdiv k then xs else normalZ (xs.take (n.fdiv k).toNat ++ [xs.getD (n.fdiv k).toNat 0 % 2 ^ (n.fmod k).toNat])
end Mine
namespace Mine
theorem fdiv_ge {n k : Int} (h : 0 ≤ n) (hk : 0 < k) : 0 ≤ n.fdiv k := by rw [Int.fdiv_eq_ediv_of_nonneg _ (Int.le_of_lt hk)]; exact Int.ediv_nonneg h (Int.le_of_lt hk)
theorem fdiv_le {n k : Int} (h : 0 ≤ n) (hk : 0 < k) : n.fdiv k ≤ n := by rw [Int.fdiv_eq_ediv_of_nonneg _ (Int.le_of_lt hk)]; exact Int.ediv_le_self _ h
theorem fmod_ge {n k : Int} (_h : 0 ≤ n) (hk : 0 < k) : 0 ≤ n.fmod k := by rw [Int.fmod_eq_emod_of_nonneg _ (Int.le_of_lt hk)]; exact Int.emod_nonneg _ (by omega)
theorem fmod_lt (n : Int) {k : Int} (hk : 0 < k) : n.fmod k < k := by rw [Int.fmod_eq_emod_of_nonneg _ (Int.le_of_lt hk)]; exact Int.emod_lt_of_pos _ hk
end Mine
namespace Mine
noncomputable def subR (M c : Int) : List Int → List Int → List Int
  | [], _ => []
  | x :: xs, [] => (if x - c - 0 < 0 then x - c - 0 + M else x - c - 0) :: subR M (if x - c - 0 < 0 then 1 else 0) xs []
  | x :: xs, y :: ys => (if x - c - y < 0 then x - c - y + M else x - c - y) :: subR M (if x - c - y < 0 then 1 else 0) xs ys
theorem subR_cc (M c x y : Int) (xs ys : List Int) : subR M c (x :: xs) (y :: ys) = (if x - c - y < 0 then x - c - y + M else x - c - y) :: subR M (if x - c - y < 0 then 1 else 0) xs ys := rfl
theorem subR_cn (M c x : Int) (xs : List Int) : subR M c (x :: xs) [] = (if x - c - 0 < 0 then x - c - 0 + M else x - c - 0) :: subR M (if x - c - 0 < 0 then 1 else 0) xs [] := rfl
theorem subR_n (M c : Int) (ys : List Int) : subR M c [] ys = [] := rfl
noncomputable def subZ (k : Int) (xs ys : List Int) : List Int := normalZ (subR (2 ^ k.toNat) 0 xs ys)
structure SubInv (k : Int) (a b : List Int) (c : Int) (f : List Int) : Prop where
  rest : f ++ subR (2 ^ k.toNat) c (a.drop f.length) (b.drop f.length) = subR (2 ^ k.toNat) 0 a b
theorem SubInv.start {k : Int} {a b : List Int} : SubInv k a b 0 [] := ⟨rfl⟩
theorem SubInv.stepB {k c : Int} {a b f : List Int} {i : Nat} (hi : i = f.length) (ha : i < a.length) (hb : i < b.length) (I : SubInv k a b c f) :
    SubInv k a b (if a.getD i 0 - c - b.getD i 0 < 0 then 1 else 0) (f ++ [if a.getD i 0 - c - b.getD i 0 < 0 then a.getD i 0 - c - b.getD i 0 + 2 ^ k.toNat else a.getD i 0 - c - b.getD i 0]) := by
  subst hi
  refine ⟨?_⟩
  rw [← I.rest, len_snoc, drop_cons a _ ha, drop_cons b _ hb, subR_cc, List.append_assoc]
  rfl
theorem SubInv.stepA {k c : Int} {a b f : List Int} {i : Nat} (hi : i = f.length) (ha : i < a.length) (hb : ¬ i < b.length) (I : SubInv k a b c f) :
    SubInv k a b (if a.getD i 0 - c - 0 < 0 then 1 else 0) (f ++ [if a.getD i 0 - c - 0 < 0 then a.getD i 0 - c - 0 + 2 ^ k.toNat else a.getD i 0 - c - 0]) := by
  subst hi
  refine ⟨?_⟩
  rw [← I.rest, len_snoc, drop_cons a _ ha, List.drop_of_length_le (by omega : b.length ≤ f.length), List.drop_of_length_le (by omega : b.length ≤ f.length + 1), subR_cn, List.append_assoc]
  rfl
theorem sub_k {kN : Int} {f pre : List Int} (hkN : kN = 0 + (pre.length : Int)) (h : f.length = pre.length) : kN.toNat = f.length := by rw [hkN, Int.zero_add, Int.toNat_natCast, h]
theorem sub_l {a f pre : List Int} (hlt : pre.length < ((a.length : Int) - 0).toNat) (h : f.length = pre.length) : f.length < a.length := by rw [Int.sub_zero, Int.toNat_natCast] at hlt; rw [h]; exact hlt
section
variable {k kN c : Int} {a b f pre : List Int} (hkN : kN = 0 + (pre.length : Int)) (hlt : pre.length < ((a.length : Int) - 0).toNat) (h : f.length = pre.length) (I : SubInv k a b c f)
include hkN hlt h I
theorem sub_t1 (hb : kN < (b.length : Int)) (hl : a.getD kN.toNat 0 - c - b.getD kN.toNat 0 < 0) :
    (f ++ [a.getD kN.toNat 0 - c - b.getD kN.toNat 0 + 1 * 2 ^ k.toNat]).length = (pre ++ [kN]).length ∧ (f ++ [a.getD kN.toNat 0 - c - b.getD kN.toNat 0 + 1 * 2 ^ k.toNat]).length ≤ a.length ∧ SubInv k a b 1 (f ++ [a.getD kN.toNat 0 - c - b.getD kN.toNat 0 + 1 * 2 ^ k.toNat]) := by
  have := SubInv.stepB (i := kN.toNat) (sub_k hkN h) (by rw [sub_k hkN h]; exact sub_l hlt h) (by rw [sub_k hkN h, h]; rw [hkN, Int.zero_add] at hb; exact Int.ofNat_lt.mp hb) I
  rw [if_pos hl, if_pos hl] at this
  rw [Int.one_mul]
  exact ⟨by rw [len_snoc, len_snoc, h], by rw [len_snoc]; exact sub_l hlt h, this⟩
theorem sub_t2 (hb : kN < (b.length : Int)) (hl : ¬ a.getD kN.toNat 0 - c - b.getD kN.toNat 0 < 0) :
    (f ++ [a.getD kN.toNat 0 - c - b.getD kN.toNat 0]).length = (pre ++ [kN]).length ∧ (f ++ [a.getD kN.toNat 0 - c - b.getD kN.toNat 0]).length ≤ a.length ∧ SubInv k a b 0 (f ++ [a.getD kN.toNat 0 - c - b.getD kN.toNat 0]) := by
  have := SubInv.stepB (i := kN.toNat) (sub_k hkN h) (by rw [sub_k hkN h]; exact sub_l hlt h) (by rw [sub_k hkN h, h]; rw [hkN, Int.zero_add] at hb; exact Int.ofNat_lt.mp hb) I
  rw [if_neg hl, if_neg hl] at this
  exact ⟨by rw [len_snoc, len_snoc, h], by rw [len_snoc]; exact sub_l hlt h, this⟩
theorem sub_t3 (hb : ¬ kN < (b.length : Int)) (hl : a.getD kN.toNat 0 - c - 0 < 0) :
    (f ++ [a.getD kN.toNat 0 - c - 0 + 1 * 2 ^ k.toNat]).length = (pre ++ [kN]).length ∧ (f ++ [a.getD kN.toNat 0 - c - 0 + 1 * 2 ^ k.toNat]).length ≤ a.length ∧ SubInv k a b 1 (f ++ [a.getD kN.toNat 0 - c - 0 + 1 * 2 ^ k.toNat]) := by
  have := SubInv.stepA (i := kN.toNat) (sub_k hkN h) (by rw [sub_k hkN h]; exact sub_l hlt h) (by rw [sub_k hkN h, h]; rw [hkN, Int.zero_add] at hb; exact fun hh => hb (Int.ofNat_lt.mpr hh)) I
  rw [if_pos hl, if_pos hl] at this
  rw [Int.one_mul]
  exact ⟨by rw [len_snoc, len_snoc, h], by rw [len_snoc]; exact sub_l hlt h, this⟩
theorem sub_t4 (hb : ¬ kN < (b.length : Int)) (hl : ¬ a.getD kN.toNat 0 - c - 0 < 0) :
    (f ++ [a.getD kN.toNat 0 - c - 0]).length = (pre ++ [kN]).length ∧ (f ++ [a.getD kN.toNat 0 - c - 0]).length ≤ a.length ∧ SubInv k a b 0 (f ++ [a.getD kN.toNat 0 - c - 0]) := by
  have := SubInv.stepA (i := kN.toNat) (sub_k hkN h) (by rw [sub_k hkN h]; exact sub_l hlt h) (by rw [sub_k hkN h, h]; rw [hkN, Int.zero_add] at hb; exact fun hh => hb (Int.ofNat_lt.mpr hh)) I
  rw [if_neg hl, if_neg hl] at this
  exact ⟨by rw [len_snoc, len_snoc, h], by rw [len_snoc]; exact sub_l hlt h, this⟩
end
theorem sub_end {k c : Int} {a b f : List Int} (h : f.length = (rangeKs 0 ((a.length : Int) - 0).toNat).length) (I : SubInv k a b c f) : normalZ f = subZ k a b := by
  rw [rangeKs_length] at h
  have e := I.rest
  rw [List.drop_of_length_le (by omega : a.length ≤ f.length), subR_n, List.append_nil] at e
  rw [subZ, ← e]
/-- shift_left where n lies below the limb's width -/
noncomputable def shlR (M f c : Int) : List Int → List Int
  | [] => if 0 < c then [c] else []
  | x :: xs => Builtin.bitOr c (x * 2 ^ f.toNat) % M :: shlR M f (Builtin.bitOr c (x * 2 ^ f.toNat) / M) xs
theorem shlR_n (M f c : Int) : shlR M f c [] = if 0 < c then [c] else [] := rfl
theorem shlR_c (M f c x : Int) (xs : List Int) : shlR M f c (x :: xs) = Builtin.bitOr c (x * 2 ^ f.toNat) % M :: shlR M f (Builtin.bitOr c (x * 2 ^ f.toNat) / M) xs := rfl
noncomputable def shlZ (k n : Int) (xs : List Int) : List Int := shlR (2 ^ k.toNat) n 0 xs
structure ShlInv (k n : Int) (a : List Int) (c : Int) (f : List Int) : Prop where
  rest : f ++ shlR (2 ^ k.toNat) n c (a.drop f.length) = shlZ k n a
theorem ShlInv.start {k n : Int} {a : List Int} : ShlInv k n a 0 [] := ⟨rfl⟩
theorem shl_turn {k n c kN : Int} {a f pre post : List Int} (hk : a = pre ++ kN :: post) (h : f.length = pre.length) (I : ShlInv k n a c f) :
    (f ++ [Builtin.bitAnd (Builtin.bitOr c (kN * 2 ^ n.toNat)) (1 * 2 ^ k.toNat - 1)]).length = (pre ++ [kN]).length ∧ (f ++ [Builtin.bitAnd (Builtin.bitOr c (kN * 2 ^ n.toNat)) (1 * 2 ^ k.toNat - 1)]).length ≤ a.length ∧ ShlInv k n a ((Builtin.bitOr c (kN * 2 ^ n.toNat)).fdiv (2 ^ k.toNat)) (f ++ [Builtin.bitAnd (Builtin.bitOr c (kN * 2 ^ n.toNat)) (1 * 2 ^ k.toNat - 1)]) := by
  have hl : pre.length < a.length := by rw [hk, List.length_append, List.length_cons]; omega
  refine ⟨by rw [len_snoc, len_snoc]; omega, by rw [len_snoc]; omega, ?_⟩
  refine ⟨?_⟩
  have e : a.getD f.length 0 = kN := by rw [hk, h]; simp [List.getD]
  rw [← I.rest, mask_is, fdiv_is, len_snoc, drop_cons a f.length (by omega), e, shlR_c, List.append_assoc]
  rfl
theorem shl_endA {k n c : Int} {a f : List Int} (hc : 0 < c) (h : f.length = a.length) (I : ShlInv k n a c f) : f ++ [c] = shlZ k n a := by
  have e := I.rest
  rw [List.drop_of_length_le (by omega : a.length ≤ f.length), shlR_n, if_pos hc] at e
  exact e
theorem shl_endB {k n c : Int} {a f : List Int} (hc : ¬ 0 < c) (h : f.length = a.length) (I : ShlInv k n a c f) : f = shlZ k n a := by
  have e := I.rest
  rw [List.drop_of_length_le (by omega : a.length ≤ f.length), shlR_n, if_neg hc, List.append_nil] at e
  exact e
noncomputable def bitsZ (k : Int) (xs : List Int) : Int := if 0 < xs.length then ((xs.length : Int) - 1) * k + (Builtin.Int.intBits (xs.getD (-1 + (xs.length : Int)).toNat 0) : Int) else 0
end Mine
namespace Mine
theorem fdiv_small {n k : Int} (h : 0 ≤ n) (hk : n < k) : n.fdiv k = 0 := by rw [Int.fdiv_eq_ediv_of_nonneg _ (by omega)]; exact Int.ediv_eq_zero_of_lt h hk
theorem fmod_small {n k : Int} (h : 0 ≤ n) (hk : n < k) : n.fmod k = n := by rw [Int.fmod_eq_emod_of_nonneg _ (by omega)]; exact Int.emod_eq_of_lt h hk
theorem shl_nil {M f : Int} {xs : List Int} (h : (xs.length : Int) = 0) : shlR M f 0 xs = [] := by
  cases xs with
  | nil => rfl
  | cons x r => simp at h; omega
end Mine
namespace Mine
theorem small_of {xs : List Int} {z : Int} (h : ∀ z ∈ xs, 0 ≤ z ∧ z < 256) (hm : z ∈ xs) : z.natAbs < 2 ^ 64 := by have := h z hm; omega
/-- what random_below gives back: the first of the told ones that lies below the bound, or the last one less the bound -/
noncomputable def Picked (fl : Nat → List Int) (bs : List Int) (k a0 : Int) (res : List Int) (a1 : Int) : Prop :=
  (∃ j : Nat, j ≤ 80 ∧ (∀ i, i < j → ¬ cmpZ (fl i) bs < 0) ∧ cmpZ (fl j) bs < 0 ∧ res = fl j ∧ a1 = a0 + (j : Int) + 1) ∨
  ((∀ i, i ≤ 80 → ¬ cmpZ (fl i) bs < 0) ∧ res = subZ k (fl 80) bs ∧ a1 = a0 + 81)
end Mine
end

section
open PySem PySem.W
namespace Mine
/-- a number's limbs, by fuel -/
noncomputable def limbsF (M : Int) : Nat → Int → List Int
  | 0, _ => []
  | f + 1, n => if 0 < n then n % M :: limbsF M f (n / M) else []
theorem limbsF_s (M n : Int) (f : Nat) : limbsF M (f + 1) n = if 0 < n then n % M :: limbsF M f (n / M) else [] := rfl
theorem limbsF_0 (M n : Int) : limbsF M 0 n = [] := rfl
theorem limbs_ex (k n : Int) : ∃ l : List Int, l = limbsF (2 ^ k.toNat) 100 n := ⟨_, rfl⟩
/-- by choice, so that no unifier unfolds it -/
noncomputable def limbsZ (k n : Int) : List Int := Classical.choose (limbs_ex k n)
theorem limbsZ_is (k n : Int) : limbsZ k n = limbsF (2 ^ k.toNat) 100 n := Classical.choose_spec (limbs_ex k n)
noncomputable def sizeF : Nat → Int → Int
  | 0, _ => 0
  | f + 1, n => if 0 < n then 1 + sizeF f (n / 2) else 0
theorem sizeF_s (n : Int) (f : Nat) : sizeF (f + 1) n = if 0 < n then 1 + sizeF f (n / 2) else 0 := rfl
theorem sizeF_0 (n : Int) : sizeF 0 n = 0 := rfl
theorem size_ex (n : Int) : ∃ l : Int, l = sizeF 100 n := ⟨_, rfl⟩
noncomputable def sizeZ (n : Int) : Int := Classical.choose (size_ex n)
theorem sizeZ_is (n : Int) : sizeZ n = sizeF 100 n := Classical.choose_spec (size_ex n)
theorem div_lt {n M : Int} (h : 0 < n) (hM : 2 ≤ M) : n / M < n := Int.ediv_lt_of_lt_mul (by omega) (by
  have : n * 2 ≤ n * M := Int.mul_le_mul_of_nonneg_left hM (by omega)
  omega)
theorem div_ge {n M : Int} (h : 0 ≤ n) (hM : 2 ≤ M) : 0 ≤ n / M := Int.ediv_nonneg h (by omega)
theorem limbsF_fuel {M : Int} (hM : 2 ≤ M) : ∀ (f g : Nat) (n : Int), n ≤ f → n ≤ g → limbsF M f n = limbsF M g n
  | 0, 0, _, _, _ => rfl
  | 0, g + 1, n, h, _ => by rw [limbsF_0, limbsF_s, if_neg (by omega)]
  | f + 1, 0, n, _, h => by rw [limbsF_s, limbsF_0, if_neg (by omega)]
  | f + 1, g + 1, n, h, h' => by
    rw [limbsF_s, limbsF_s]
    by_cases hn : 0 < n
    · rw [if_pos hn, if_pos hn, limbsF_fuel hM f g (n / M) (by have := div_lt hn hM; omega) (by have := div_lt hn hM; omega)]
    · rw [if_neg hn, if_neg hn]
theorem sizeF_fuel : ∀ (f g : Nat) (n : Int), n ≤ f → n ≤ g → sizeF f n = sizeF g n
  | 0, 0, _, _, _ => rfl
  | 0, g + 1, n, h, _ => by rw [sizeF_0, sizeF_s, if_neg (by omega)]
  | f + 1, 0, n, _, h => by rw [sizeF_s, sizeF_0, if_neg (by omega)]
  | f + 1, g + 1, n, h, h' => by
    rw [sizeF_s, sizeF_s]
    by_cases hn : 0 < n
    · rw [if_pos hn, if_pos hn, sizeF_fuel f g (n / 2) (by omega) (by omega)]
    · rw [if_neg hn, if_neg hn]
theorem two_pow_ge {k : Int} (h : 2 ≤ k) : (2 : Int) ≤ 2 ^ k.toNat := by
  obtain ⟨j, e⟩ : ∃ j, k.toNat = j + 1 := ⟨k.toNat - 1, (Nat.sub_add_cancel ((Int.le_toNat (Int.le_trans (by decide) h)).mpr (Int.le_trans (by decide) h))).symm⟩
  rw [e, Int.pow_succ]
  have := kbt_pos j
  omega
theorem limbs_zero {k n : Int} (h : ¬ 0 < n) : limbsZ k n = [] := by rw [limbsZ_is, show limbsF (2 ^ k.toNat) 100 n = _ from limbsF_s _ _ 99, if_neg h]
theorem limbs_step {k n : Int} (hk : 2 ≤ k) (h : 0 < n) (h' : n ≤ 100) : limbsZ k n = n % 2 ^ k.toNat :: limbsZ k (n / 2 ^ k.toNat) := by
  have e : limbsF (2 ^ k.toNat) 99 (n / 2 ^ k.toNat) = limbsF (2 ^ k.toNat) 100 (n / 2 ^ k.toNat) := limbsF_fuel (two_pow_ge hk) _ _ _ (by have := div_lt h (two_pow_ge hk); omega) (by have := div_lt h (two_pow_ge hk); omega)
  rw [limbsZ_is, show limbsF (2 ^ k.toNat) 100 n = _ from limbsF_s _ _ 99, if_pos h, e, limbsZ_is]
theorem size_zero {n : Int} (h : ¬ 0 < n) : sizeZ n = 0 := by rw [sizeZ_is, show sizeF 100 n = _ from sizeF_s _ 99, if_neg h]
theorem size_step {n : Int} (h : 0 < n) (h' : n ≤ 100) : sizeZ n = 1 + sizeZ (n / 2) := by
  have e : sizeF 99 (n / 2) = sizeF 100 (n / 2) := sizeF_fuel _ _ _ (by omega) (by omega)
  rw [sizeZ_is, show sizeF 100 n = _ from sizeF_s _ 99, if_pos h, e, sizeZ_is]
/-- what _law_limbs's while keeps -/
structure LimInv (k n₀ n : Int) (f : List Int) : Prop where
  rest : f ++ limbsZ k n = limbsZ k n₀
  n0 : 0 ≤ n
  n9 : (f.length : Int) + n ≤ 100
theorem LimInv.start {k n₀ : Int} (h : 0 ≤ n₀) (h9 : n₀ ≤ 100) : LimInv k n₀ n₀ [] := ⟨rfl, h, by simpa using h9⟩
theorem LimInv.turn {k n₀ n : Int} {f : List Int} (hk : 2 ≤ k) (hp : 0 < n) (I : LimInv k n₀ n f) : LimInv k n₀ (n.fdiv (2 ^ k.toNat)) (f ++ [n.fmod (2 ^ k.toNat)]) := by
  have h9 := I.n9
  rw [Int.fdiv_eq_ediv_of_nonneg _ (Int.le_of_lt (kbt_pos _)), Int.fmod_eq_emod_of_nonneg _ (Int.le_of_lt (kbt_pos _))]
  refine ⟨?_, div_ge I.n0 (two_pow_ge hk), ?_⟩
  · rw [← I.rest, limbs_step hk hp (by omega), List.append_assoc]; rfl
  · have := div_lt hp (two_pow_ge hk)
    rw [List.length_append, List.length_singleton]; omega
theorem LimInv.start3 {k n₀ : Int} (h : 0 ≤ n₀) (h9 : n₀ ≤ 100) : ((([] : List Int).length : Int) + n₀ ≤ 100) ∧ 0 ≤ n₀ ∧ LimInv k n₀ n₀ [] := ⟨by simpa using h9, h, .start h h9⟩
theorem LimInv.turn3 {k n₀ n : Int} {f : List Int} (hk : 2 ≤ k) (hp : 0 < n) (I : LimInv k n₀ n f) :
    ((f ++ [n.fmod (2 ^ k.toNat)]).length : Int) + n.fdiv (2 ^ k.toNat) ≤ 100 ∧ 0 ≤ n.fdiv (2 ^ k.toNat) ∧ LimInv k n₀ (n.fdiv (2 ^ k.toNat)) (f ++ [n.fmod (2 ^ k.toNat)]) :=
  have J := I.turn hk hp
  ⟨J.n9, J.n0, J⟩
theorem lim_less {k n : Int} (hk : 2 ≤ k) (hp : 0 < n) : (n.fdiv (2 ^ k.toNat)).toNat < n.toNat := by
  rw [Int.fdiv_eq_ediv_of_nonneg _ (Int.le_of_lt (kbt_pos _))]
  have := div_lt hp (two_pow_ge hk)
  omega
theorem LimInv.fin {k n₀ n : Int} {f : List Int} (hp : ¬ 0 < n) (I : LimInv k n₀ n f) : f = limbsZ k n₀ := by
  have := I.rest
  rw [limbs_zero hp, List.append_nil] at this
  exact this
structure SizInv (n₀ n f : Int) : Prop where
  rest : f + sizeZ n = sizeZ n₀
  n0 : 0 ≤ n
  f0 : 0 ≤ f
  n9 : f + n ≤ 100
theorem SizInv.start {n₀ : Int} (h : 0 ≤ n₀) (h9 : n₀ ≤ 100) : SizInv n₀ n₀ 0 := ⟨by omega, h, by omega, by omega⟩
theorem SizInv.turn {n₀ n f : Int} (hp : 0 < n) (I : SizInv n₀ n f) : SizInv n₀ (n.fdiv 2) (f + 1) := by
  have h9 := I.n9
  have h0 := I.f0
  rw [Int.fdiv_eq_ediv_of_nonneg _ (by decide)]
  refine ⟨?_, by omega, by omega, by omega⟩
  rw [← I.rest, size_step hp (by omega)]; omega
theorem SizInv.fin {n₀ n f : Int} (hp : ¬ 0 < n) (I : SizInv n₀ n f) : f = sizeZ n₀ := by
  have := I.rest
  rw [size_zero hp] at this
  omega
/-- the worth, as the law's comprehension reckons it -/
noncomputable def worthE (k : Int) (xs : List Int) : Int := ((List.range xs.length).map fun i => xs.getD i 0 * 2 ^ (k * (i : Int)).toNat).sum
theorem ki_bnd {k : Int} {i n : Nat} (h2 : 2 ≤ k) (h8 : k ≤ 8) (hi : i < n) (hn : n ≤ 3) : 0 ≤ k * (i : Int) ∧ k * (i : Int) ≤ 16 := by
  have i2 : i ≤ 2 := Nat.le_of_lt_succ (Nat.lt_of_lt_of_le hi hn)
  exact ⟨Int.mul_nonneg (Int.le_trans (by decide) h2) (Int.natCast_nonneg _), Int.le_trans (Int.mul_le_mul h8 (show (i : Int) ≤ 2 from Int.ofNat_le.mpr i2) (Int.natCast_nonneg _) (by decide)) (by decide)⟩
theorem getD_in {xs : List Int} {i : Nat} (h : i < xs.length) : xs.getD i 0 ∈ xs := by
  rw [List.getD_eq_getElem?_getD, List.getElem?_eq_getElem h]
  exact List.getElem_mem h
/-- the at-th number told -/
noncomputable def toldZ (xs : List Int) (b o : Int) (i : Nat) : Int := if 0 < o then b + ((xs.getD ((i : Int).fmod (xs.length : Int)).toNat 0).fdiv 3 + (i : Int)).fmod o else 0
theorem fmod_in {i : Int} {l : Nat} (h0 : 0 ≤ i) (h : 0 < l) : 0 ≤ i.fmod (l : Int) ∧ i.fmod (l : Int) < (l : Int) := by
  rw [Int.fmod_eq_emod_of_nonneg _ (by omega)]
  exact ⟨Int.emod_nonneg _ (by omega), Int.emod_lt_of_pos _ (by omega)⟩
theorem fmod_pos {i l : Int} (h : 0 < l) : 0 ≤ i.fmod l ∧ i.fmod l < l := by
  rw [Int.fmod_eq_emod_of_nonneg _ (by omega)]
  exact ⟨Int.emod_nonneg _ (by omega), Int.emod_lt_of_pos _ (by omega)⟩
theorem told_in {xs : List Int} {b o p : Int} (hb : 1 ≤ b) (hp : b ≤ p) (ho : p - b = o) {t : Int} {r : Nat} (ht : t ∈ (List.range r).map (toldZ xs b o)) : 0 ≤ t ∧ t < p := by
  obtain ⟨i, _, rfl⟩ := List.mem_map.mp ht
  unfold toldZ
  split
  · have := @fmod_pos ((xs.getD ((i : Int).fmod (xs.length : Int)).toNat 0).fdiv 3 + (i : Int)) o (by assumption)
    omega
  · omega
theorem again_in {T : List Int} {p : Int} (hT : ∀ t ∈ T, 0 ≤ t ∧ t < p) (h0 : 0 < T.length) {t : Int} {r : Nat} (ht : t ∈ (List.range r).map (fun i : Nat => T.getD ((i : Int).fmod (T.length : Int)).toNat 0)) : 0 ≤ t ∧ t < p := by
  obtain ⟨i, _, rfl⟩ := List.mem_map.mp ht
  have := @fmod_in (i : Int) T.length (by omega) h0
  exact hT _ (getD_in (by omega))
theorem set_in {T : List Int} {p v : Int} (hT : ∀ t ∈ T, 0 ≤ t ∧ t < p) (hv : 0 ≤ v ∧ v < p) (i : Nat) {t : Int} (ht : t ∈ T.set i v) : 0 ≤ t ∧ t < p := by
  rcases List.mem_or_eq_of_mem_set ht with h | rfl
  · exact hT t h
  · exact hv
end Mine
end

section
open PySem PySem.W PySem.Calls PyProof.Rows
namespace Mine
section
variable {prog : Program} {w : World} {A₀ A : Around} {s : Shared} {base h₀ : Heap} {outer : List Env} {L : Addr} {m : Str → Option Value} {env : Env} {news need : List (Addr × Obj)} {K : Frag} {p : Program} {loose : List Str} {mean : ExcName → Option Value} {mg mb : Str → Option Value}
  {name qual : Str} {params : Arguments} {body : List Stmt} {scope : Scope} {dV kV doc pm cdv ct oc : Value} {an od : Option Addr} {osl : Array (Option Value)} {f : Addr} {pos : List Value} {binds : List (Str × Value)} {Q E : Value → Shared → Prop}

/-- call_r for a def that has cells -/
theorem call_rC (need : List (Addr × Obj)) (P : List (Addr × Obj) → Value → Prop)
    (B : Below A₀ base outer h₀) (F : Fr h₀ L s.heap m) (X₀ : K.In h₀) (N : News h₀ L s.heap news) (T : Top p loose mean mg mb h₀) (hsub : ∀ q ∈ need, q ∈ news) (hA : A.frames = some (env :: outer)) (hf : env.frame = some L) (hke : env.scope.kind = .function)
    (ho : K.lookup f = some ⟨oc, od, .func (fnOf name qual params body scope dV kV doc pm an cdv ct), osl⟩) (hcd : codeIn K cdv qual = true) (hroom : A.depth < recursionLimit)
    (hbind : BindsTo s (fnOf name qual params body scope dV kV doc pm an cdv ct) ⟨pos, []⟩ binds) (hkind : (binds.all fun y => scope.names.lookup y.1 == some .local || scope.names.lookup y.1 == some .cell) = true)
    (hnd : ((cellsFrom 0 scope.names []).map (·.1)).Nodup)
    (ret : ∀ v new h' tk', Fr h₀ L h' m → News h₀ L h' (new ++ news) → (∀ p ∈ new, ∀ q ∈ news, p.1 ≠ q.1) → P new v → Q v { s with heap := h', toks := tk' })
    (h : ∀ g L' h₁ tk cells, Fr g L' h₁ (bindL (envOfC qual scope L' f cdv).kindOf binds fun _ => none) → News g L' h₁ (cells ++ need) →
      CellsAre (bindC (envOfC qual scope L' f cdv).kindOf binds fun _ => none) (cellsFrom (L' + 1) scope.names []) cells → Below A base (env :: outer) g → K.In g → Top p loose mean mg mb g → (∀ p ∈ need, p.1 < L') →
      wpAny (model prog w) (A.deeper (envOfC qual scope L' f cdv)) (execs body (envOfC qual scope L' f cdv))
        (fun fl s' => BodyEnd g need P (match fl with | .ret v => v | _ => .none) { s with heap := h₁, toks := tk } s') (fun _ _ => False)
        { s with heap := h₁, toks := tk })
    (hco : scope.isCoroutine = false) (hgen : scope.isGenerator = false) (hk : scope.kind = .function) : wpAny (model prog w) A (call (.ref f) pos) Q E s := by
  have N0 : News h₀ L s.heap need := fun q hq => N q (hsub q hq)
  obtain ⟨FG, BG, st, _⟩ := groundX (R := fun _ _ => True) B F N0 hA hf hke
  have hcd' : s.heap.CodeRec cdv qual := (codeRec_of (X₀.keeps F.keep) hcd)
  have hlim := T.nolimit.keeps F.keep
  refine wpAny_call (codeAny_call_function hroom ((X₀.keeps F.keep) _ _ ho) rfl hco hgen rfl hcd' (hbind _ _ _ _ ?_))
  refine wpAny_newFunctionEnv_cells hk (kindsX hkind _) fun env' he s' x => ?_
  subst he
  refine ⟨hlim.keeps x.toInCall.keep, codeAny_func ?_⟩
  obtain ⟨h₁, tk, rfl, _⟩ := x.done
  have hk₁ := x.toInCall.keep
  obtain ⟨cells, NC, Y⟩ := Cl.news (h₀ := s.heap) (Nat.le_refl _) fun n c hm => ⟨x.cell n c (lookup_of_mem_nodup (cellsFrom_names scope.names 0 (s.heap.objs.size + 1) [] [] rfl ▸ hnd) hm), x.above n c hm⟩
  refine wpAny_mono (h _ s.heap.objs.size h₁ tk cells ⟨x.toInCall.ns, fun b o e => hk₁ b o (of_hideAll _ e), Nat.le_of_eq (hideAll_size _ _)⟩
    (fun p hp => ?_) Y BG (X₀.keeps st) (T.keeps st) (fun p hp => Heap.lt_size (N0 p hp).1)) (fun fl s' hl => ?_) fun _ _ y => y.elim
  · rcases List.mem_append.mp hp with hp | hp
    · refine ⟨(NC p hp).1, (NC p hp).2.1, ?_⟩
      cases q : (hideAll s.heap (need.map (·.1))).get? p.1 with
      | none => rfl
      | some o => have := of_hideAll _ q; rw [(NC p hp).2.2] at this; cases this
    · exact ⟨hk₁ _ _ (N0 p hp).1, Nat.ne_of_lt (Heap.lt_size (N0 p hp).1), hideAll_none _ (List.mem_map_of_mem hp)⟩
  obtain ⟨L', m', new, h', tk', rfl, F', N', hne, hP⟩ := hl
  have hkept := news_kept F N N' (fun q hq => List.mem_append.mpr (.inr hq)) F' hsub
  obtain ⟨oL, es, ep, hL, hLd, hLk, hLf⟩ := F.ns
  have nL : L ∉ need.map (·.1) := fun q => by
    obtain ⟨p, hp, e⟩ := List.mem_map.mp q
    exact (N0 p hp).2.1 e
  have hLg := hideAll_get (need.map (·.1)) hL nL
  refine ret _ new h' tk' ⟨⟨oL, es, ep, F'.keep L oL hLg, hLd, hLk, hLf⟩, fun b o e => F'.keep b o (st b o e), F.above⟩ (fun q hq => ?_) (fun p hp q hq => ?_) hP
  · rcases List.mem_append.mp hq with hq | hq
    · have z := N' q (List.mem_append.mpr (.inl hq))
      refine ⟨z.1, fun e => ?_, ?_⟩
      · have := z.2.2; rw [e, hLg] at this; cases this
      · cases e : h₀.get? q.1 with
        | none => rfl
        | some o => have := z.2.2; rw [st _ _ e] at this; cases this
    · exact ⟨hkept q hq, (N q hq).2⟩
  · by_cases hb : q.1 ∈ need.map (·.1)
    · obtain ⟨r, hr, e⟩ := List.mem_map.mp hb
      exact e ▸ hne p hp r hr
    · exact ne_hidden (N q hq).1 hb (N' p (List.mem_append.mpr (.inl hp))).2.2
end
end Mine
end

section
open PySem PySem.W PySem.Calls PySem.Spec PyProof.Rows PyProof.Rows.LCg
namespace Mine
section
variable {prog : Program} {w : World} {A : Around} {E : Value → Shared → Prop} {s : Shared} {h₀ : Heap} {L : Addr} {m : Str → Option Value} {env : Env}
/-- an enumerate of a list l stands ready -/
structure EnumAt (h₀ : Heap) (L : Addr) (m : Str → Option Value) (l : Addr) (vs : List Value) (news : List (Addr × Obj)) (e it : Addr) (s₁ : Shared) : Prop where
  ei : e ≠ it
  le : l ≠ e
  li : l ≠ it
  en : ∃ old, IsEnum s₁.heap e it 0 old
  iter : s₁.heap.IsListIter it l 0
  list : s₁.heap.IsList l vs.toArray
  fr : Fr h₀ L s₁.heap m
  ne : News h₀ L s₁.heap news
  Le : L ≠ e
  Li : L ≠ it
  e0 : h₀.get? e = none
  i0 : h₀.get? it = none
  off : ∀ p ∈ news, p.1 ≠ e ∧ p.1 ≠ it
theorem enum_at {l : Addr} {c : Nat} {vs : List Value} {news : List (Addr × Obj)} {Q : Value → Shared → Prop} (F : Fr h₀ L s.heap m) (N : News h₀ L s.heap news) (hm : (l, listOf vs.toArray c) ∈ news)
    (h : ∀ e it h', EnumAt h₀ L m l vs news e it { s with heap := h' } → Q (.ref e) { s with heap := h' }) :
    wpAny (model prog w) A (call (.type "enumerate") [.ref l]) Q E s := by
  have hl := News.isList N hm
  have hlt : l < s.heap.objs.size := Heap.lt_size (N _ hm).1
  have hLs : L < s.heap.objs.size := F.ns.lt
  have old : ∀ b o, h₀.get? b = some o → b < s.heap.objs.size := fun b o e => Heap.lt_size (F.keep b o e)
  refine call_enumerate_list hl fun h' hE hI hsz hk => h _ _ _ ⟨Nat.succ_ne_self _, Nat.ne_of_lt (Nat.lt_succ_of_lt hlt), Nat.ne_of_lt hlt, ⟨_, hE⟩, hI, hl.at fun o e => hk l o e, F.keeps hk, N.grown hk, Nat.ne_of_lt (Nat.lt_succ_of_lt hLs), Nat.ne_of_lt hLs, ?_, ?_, fun p hp => ?_⟩
  · cases q : h₀.get? (s.heap.objs.size + 1) with
    | none => rfl
    | some o => exact absurd (old _ _ q) (Nat.not_lt.mpr (Nat.le_succ _))
  · cases q : h₀.get? s.heap.objs.size with
    | none => rfl
    | some o => exact absurd (old _ _ q) (Nat.lt_irrefl _)
  · have := Heap.lt_size (N p hp).1
    exact ⟨Nat.ne_of_lt (Nat.lt_succ_of_lt this), Nat.ne_of_lt this⟩

theorem fr_off {h h' : Heap} {wr : List Addr} (F : Fr h₀ L h m) (hk : ∀ b o, b ∉ wr → h.get? b = some o → h'.get? b = some o) (hL : L ∉ wr) (h0 : ∀ b ∈ wr, h₀.get? b = none) : Fr h₀ L h' m :=
  ⟨F.ns.at' fun o e => hk L o hL e, fun b o e => hk b o (fun hm => by rw [h0 b hm] at e; cases e) (F.keep b o e), F.above⟩
theorem news_off {h h' : Heap} {wr : List Addr} {news : List (Addr × Obj)} (N : News h₀ L h news) (hk : ∀ b o, b ∉ wr → h.get? b = some o → h'.get? b = some o) (off : ∀ p ∈ news, p.1 ∉ wr) : News h₀ L h' news :=
  fun p hp => ⟨hk _ _ (off p hp) (N p hp).1, (N p hp).2⟩

/-- [elt for a, b in enumerate(l)], where elt makes nothing -/
theorem comp_enum {elt iter : Expr} {a b : Str} {pa pb tp : Pos} {kk : Nat} {scope : Scope} {cl : List (Str × Addr)} {pos : Pos} {Q : Value → Shared → Prop} {l : Addr} {vs : List Value} {news : List (Addr × Obj)}
    (hh : A.handled = none) (hclos : closureFor scope env = pure cl) (hcell : ∀ y ∈ scope.names, y.2 ≠ .cell) (hkind : scope.kind = .function)
    (hnames : ∀ y ∈ scope.names, y.2 = .local → scope.names.lookup y.1 = some .local) (hxa : scope.names.lookup a = some .local) (hxb : scope.names.lookup b = some .local) (hab : a ≠ b) (hsz : vs.length ≤ sizeLine)
    (R : Nat → Value → Prop)
    (h : wpAny (model prog w) A (eval iter env) (fun xv s₁ => ∃ e it, xv = .ref e ∧ EnumAt h₀ L m l vs news e it s₁ ∧
      (∀ (i : Nat) v t C oC m₂ h tk (E' : Value → Shared → Prop), vs[i]? = some v → NsObj oC m₂ → m₂ a = some (.int i t) → m₂ b = some v → Fr h₀ L h m → News h₀ L h ((C, oC) :: news) →
        wpAny (model prog w) A (eval elt (compEnvC scope cl C env)) (fun y s₂ => (∃ tk', s₂ = { s₁ with heap := h, toks := tk' }) ∧ R i y) E' { s₁ with heap := h, toks := tk }) ∧
      (∀ D ys h tk, ys.length = vs.length → (∀ (i : Nat) y, ys[i]? = some y → R i y) → Fr h₀ L h m → News h₀ L h ((D, lst ys) :: news) → (∀ p ∈ news, D ≠ p.1) → Q (.ref D) { s₁ with heap := h, toks := tk })) E s)
    (hs : ∀ x, foldedSetIterable iter env x = pure x := by intro _; rfl) :
    wpAny (model prog w) A (eval (.ListComp elt [⟨.Tuple [.Name a pa, .Name b pb] kk tp, iter, [], 0⟩] scope pos) env) Q E s := by
  rw [eval_ListComp]
  refine wpAny_comprehension_free (use := none) rfl hs hclos hkind hnames (wpAny_mono h (fun xv s₂ h₁ => ?_) fun _ _ e => e)
  obtain ⟨e, it, rfl, X, turn, fin⟩ := h₁
  obtain ⟨old₀, hE⟩ := X.en
  refine wpAny_pyIter_enum hE ?_
  have W := WalksT.enumerate (prog := prog) (w := w) (A := A) hh e it l X.ei X.le X.li vs.toArray
  have hsize : vs.toArray.size = vs.length := by simp
  rw [hsize] at W
  have hst : (∃ old, IsEnum s₂.heap e it (0 : Nat) old) ∧ s₂.heap.IsListIter it l 0 ∧ s₂.heap.IsList l vs.toArray := ⟨⟨old₀, hE⟩, X.iter, X.list⟩
  have hfp : ∀ x ∈ [e, it, l], x < s₂.heap.objs.size := by
    intro x hx
    rcases List.mem_cons.mp hx with rfl | hx
    · exact Heap.lt_size hE
    rcases List.mem_cons.mp hx with rfl | hx
    · obtain ⟨_, q, _⟩ := X.iter; exact Heap.lt_size q
    · rw [List.mem_singleton.mp hx]; obtain ⟨_, q, _⟩ := X.list; exact Heap.lt_size q
  have hwr : ∀ x ∈ [e, it], x < s₂.heap.objs.size := fun x hx => hfp x (W.sub x hx)
  have hLw : L ∉ [e, it] := by simp [X.Le, X.Li]
  have h0w : ∀ x ∈ [e, it], h₀.get? x = none := by
    intro x hx
    rcases List.mem_cons.mp hx with rfl | hx
    · exact X.e0
    · rw [List.mem_singleton.mp hx]; exact X.i0
  have offw : ∀ p ∈ news, p.1 ∉ [e, it] := fun p hp => by
    have := X.off p hp
    simp [this.1, this.2]
  refine wpAny_newObj_type (wpAny_newFunctionEnv hcell (by intro y hy; simp at hy) (fun h₁ hns₁ hsb₁ => ?_) hkind)
  dsimp only at hns₁ hsb₁ ⊢
  generalize hH2 : s₂.heap.push { cls := .type "list", dict := none, data := .seq ([] : List Value).toArray } = H2 at hns₁ hsb₁ ⊢
  have hC : H2.objs.size = s₂.heap.objs.size + 1 := by rw [← hH2, Heap.size_push]
  have hDC : s₂.heap.objs.size ≠ H2.objs.size := by rw [hC]; exact Nat.ne_of_lt (Nat.lt_succ_self _)
  have below : ∀ x, x < s₂.heap.objs.size → x ≠ H2.objs.size ∧ x ≠ s₂.heap.objs.size := fun x hx => ⟨by rw [hC]; exact Nat.ne_of_lt (Nat.lt_succ_of_lt hx), Nat.ne_of_lt hx⟩
  have hCf : ∀ x ∈ [e, it, l], x ≠ H2.objs.size := fun x hx => (below x (hfp x hx)).1
  have hDf : ∀ x ∈ [e, it, l], x ≠ s₂.heap.objs.size := fun x hx => (below x (hfp x hx)).2
  have up : ∀ x o, s₂.heap.get? x = some o → h₁.get? x = some o := fun x o q => hsb₁.extBut x o (below x (Heap.lt_size q)).1 (Heap.get?_push_of_some _ (hH2 ▸ Heap.get?_push_of_some _ q))
  have hacc : h₁.get? s₂.heap.objs.size = some (lst []) := hsb₁.extBut _ _ hDC (Heap.get?_push_of_some _ (hH2 ▸ Heap.get?_push_size _ rfl))
  have hst₁ := W.frame 0 _ _ hst fun x _ o q => up x o q
  have fresh₀ : ∀ x, s₂.heap.objs.size ≤ x → h₀.get? x = none := fun x hx => by
    cases q : h₀.get? x with
    | none => rfl
    | some o' => exact absurd (Heap.lt_size (X.fr.keep x o' q)) (Nat.not_lt.mpr hx)
  have hD₀ : h₀.get? s₂.heap.objs.size = none := fresh₀ _ (Nat.le_refl _)
  have hC₀ : h₀.get? H2.objs.size = none := fresh₀ _ (by rw [hC]; exact Nat.le_succ _)
  have hLlt : L < s₂.heap.objs.size := X.fr.ns.lt
  have hDL : s₂.heap.objs.size ≠ L := Ne.symm (below L hLlt).2
  have hCL : H2.objs.size ≠ L := Ne.symm (below L hLlt).1
  have offCD : ∀ p ∈ news, p.1 ≠ H2.objs.size ∧ p.1 ≠ s₂.heap.objs.size := fun p hp => below _ (Heap.lt_size (X.ne p hp).1)
  have hDw : s₂.heap.objs.size ∉ [e, it] := fun q => hDf _ (W.sub _ q) rfl
  have hCw : H2.objs.size ∉ [e, it] := fun q => hCf _ (W.sub _ q) rfl
  have loop : ∀ s₃ : Shared, s₃ = { s₂ with heap := h₁, toks := s₂.toks + ([] : List (Str × Value)).length } →
      codeAny (model prog w) A (.compLoop (.ListComp elt [⟨.Tuple [.Name a pa, .Name b pb] kk tp, iter, [], 0⟩] scope pos) 0 (.ref e) (.ref s₂.heap.objs.size) (compEnvC scope cl H2.objs.size env))
        (compPost (model prog w) A E none Q (.ref s₂.heap.objs.size) H2.objs.size) s₃ := by
    rintro s₃ rfl
    refine PyProof.Rows.LCp.codeAny_compLoop_pair
      (fun k s' => ∃ h' tk i ys m', s' = { s₂ with heap := h', toks := tk } ∧ i ≤ vs.length ∧ k = vs.length + 1 - i ∧ ys.length = i ∧ ((∃ old, IsEnum h' e it (i : Nat) old) ∧ h'.IsListIter it l i ∧ h'.IsList l vs.toArray) ∧ Fr h₀ L h' m ∧ h'.Ns H2.objs.size m' ∧ News h₀ L h' ((s₂.heap.objs.size, lst ys) :: news) ∧ (∀ j y, ys[j]? = some y → R j y)) ?_ (vs.length + 1)
      ⟨h₁, _, 0, [], _, rfl, Nat.zero_le _, rfl, rfl, hst₁, X.fr.keeps up, hns₁, fun p hp => ?_, fun j y q => by simp at q⟩
    · rintro k s' ⟨h', tk, i, ys, m', rfl, hi, rfl, hyl, hst', F', hn', N', hR⟩
      have offN : ∀ p ∈ (s₂.heap.objs.size, lst ys) :: news, p.1 ∉ [e, it] := fun p hp => by
        rcases List.mem_cons.mp hp with rfl | hp
        · exact hDw
        · exact offw p hp
      by_cases hlt : i < vs.length
      · refine W.item i _ _ _ hlt hst' fun T vals h₂ tk₂ hP hge hT hmid hk₂ => ?_
        obtain ⟨t, v, hv, rfl⟩ := hP
        have hTwr := W.apart _ _ _ hmid
        refine W.go _ _ _ _ _ _ _ _ hmid fun h₃ hst₃ hk₃ => ?_
        have hT₃ : h₃.IsTuple T #[.int i t, v] := by obtain ⟨o, q, r⟩ := hT; exact ⟨o, hk₃ _ _ hTwr q, r⟩
        have F₃ : Fr h₀ L h₃ m := fr_off (fr_off F' hk₂ hLw h0w) hk₃ hLw h0w
        have N₃ := news_off (news_off N' hk₂ offN) hk₃ offN
        have hn₃ : h₃.Ns H2.objs.size m' := (hn'.at' fun o q => hk₂ _ o hCw q).at' fun o q => hk₃ _ o hCw q
        refine kcp_assign hh hT₃ (lookup_relabel_local hxa) (lookup_relabel_local hxb) (by simp [compEnvC, relabel, hkind]) hn₃ fun h₄ tk₄ hn₄ hk₄' => ?_
        have hk₄ : ∀ c o, c ≠ H2.objs.size → h₃.get? c = some o → h₄.get? c = some o := hk₄'
        have F₄ : Fr h₀ L h₄ m := ⟨F₃.ns.at' fun o q => hk₄ L o (Ne.symm hCL) q, fun x o q => hk₄ x o (fun e' => by rw [e', hC₀] at q; cases q) (F₃.keep x o q), F₃.above⟩
        have N₄ : News h₀ L h₄ ((s₂.heap.objs.size, lst ys) :: news) := fun p hp => ⟨hk₄ _ _ (by
          rcases List.mem_cons.mp hp with rfl | hp
          · exact hDC
          · exact (offCD p hp).1) (N₃ p hp).1, (N₃ p hp).2⟩
        have hst₄ := W.frame (i + 1) _ _ hst₃ fun x hx o q => hk₄ x o (hCf x hx) q
        obtain ⟨oC, heC, hoC⟩ := ns_obj hn₄
        have N₄' : News h₀ L h₄ ((H2.objs.size, oC) :: news) := fun p hp => by
          rcases List.mem_cons.mp hp with rfl | hp
          · exact ⟨heC, hCL, hC₀⟩
          · exact N₄ p (List.mem_cons_of_mem _ hp)
        refine wpAny_mono (turn i v t H2.objs.size oC _ h₄ _ _ (by simpa using hv) hoC (by simp [hab]) (by simp) F₄ N₄') (fun y s₄ h₄' => ?_) fun _ _ e => e
        obtain ⟨⟨tk₅, rfl⟩, hy⟩ := h₄'
        refine append_at (hsz := by show ys.toArray.size ≤ sizeLine; rw [List.size_toArray, hyl]; exact Nat.le_trans hi hsz) (N₄ _ List.mem_cons_self).1 fun h₅ hs₅ hD₅ => ?_
        refine ⟨vs.length + 1 - (i + 1), Nat.sub_lt_sub_left (Nat.lt_succ_of_lt hlt) (Nat.lt_succ_self i), h₅, tk₅, i + 1, ys ++ [y], _, rfl, hlt, rfl, by rw [List.length_append, List.length_singleton, hyl], W.frame (i + 1) _ _ hst₄ fun x hx o q => hs₅.extBut x o (hDf x hx) q, F₄.change hs₅ hDL hD₀,
          (hoC.ns heC).sameBut hs₅ (Ne.symm hDC), fun p hp => ?_, fun j z q => ?_⟩
        · rcases List.mem_cons.mp hp with rfl | hp
          · exact ⟨hD₅.trans (congrArg some (lst_snoc ys y)), hDL, hD₀⟩
          · exact ⟨hs₅.extBut _ _ (offCD p hp).2 (N₄ p (List.mem_cons_of_mem _ hp)).1, (N₄ p (List.mem_cons_of_mem _ hp)).2⟩
        · by_cases hj : j < ys.length
          · rw [List.getElem?_append_left hj] at q
            exact hR j z q
          · rw [List.getElem?_append_right (Nat.not_lt.mp hj)] at q
            have hj' : j = i := by
              have := (List.getElem?_eq_some_iff.mp q).1
              simp at this; omega
            subst hj'
            rw [hyl, Nat.sub_self] at q
            have : y = z := by simpa using q
            exact this ▸ hy
      · obtain rfl : i = vs.length := Nat.le_antisymm hi (Nat.not_lt.mp hlt)
        refine W.done _ _ _ hst' fun h₂ tk₂ hk₂ => ?_
        have F₂ := fr_off F' hk₂ hLw h0w
        have N₂ := news_off N' hk₂ offN
        refine ⟨m', hn'.at' fun o q => hk₂ _ o hCw q, fun h'' hs'' => fin _ ys h'' tk₂ hyl hR (F₂.change hs'' hCL hC₀) (fun p hp => ⟨hs''.extBut _ _ ?_ (N₂ p hp).1, (N₂ p hp).2⟩) fun p hp => Ne.symm (offCD p hp).2⟩
        rcases List.mem_cons.mp hp with rfl | hp
        · exact hDC
        · exact (offCD p hp).1
    · rcases List.mem_cons.mp hp with rfl | hp
      · exact ⟨hacc, hDL, hD₀⟩
      · exact ⟨up _ _ (X.ne p hp).1, (X.ne p hp).2⟩
  exact codeAny_compStart_list (loop _ rfl) (W.self 0 _ _ _ hst₁ (loop _ rfl))

end
noncomputable def TurnEnd (s₁ : Shared) (h : Heap) (z : Int) (y : Value) (s₂ : Shared) : Prop := (∃ tk', s₂ = { s₁ with heap := h, toks := tk' }) ∧ ∃ t, y = .int z t
noncomputable def FinEnum (h₀ : Heap) (L : Addr) (m : Str → Option Value) (news : List (Addr × Obj)) (s₁ : Shared) (zs : List Int) (Q : Value → Shared → Prop) : Prop :=
  ∀ D ys c h tk, IntsAre ys zs → Fr h₀ L h m → News h₀ L h ((D, listOf ys.toArray c) :: news) → (∀ p ∈ news, D ≠ p.1) → Q (.ref D) { s₁ with heap := h, toks := tk }
noncomputable def EnumTurn (prog : Program) (w : World) (A : Around) (h₀ : Heap) (L : Addr) (m : Str → Option Value) (env : Env) (elt : Expr) (a b : Str) (scope : Scope) (cl : List (Str × Addr)) (news : List (Addr × Obj)) (s₁ : Shared) (xs : List Int) (f : Nat → Int → Int) : Prop :=
  ∀ (i : Nat) t u C oC m₂ h tk (E' : Value → Shared → Prop), i < xs.length → NsObj oC m₂ → m₂ a = some (.int (i : Int) t) → m₂ b = some (.int (xs.getD i 0) u) → Fr h₀ L h m → News h₀ L h ((C, oC) :: news) →
    wpAny (model prog w) A (eval elt (compEnvC scope cl C env)) (TurnEnd s₁ h (f i (xs.getD i 0))) E' { s₁ with heap := h, toks := tk }
noncomputable def EnumSrc (prog : Program) (w : World) (A : Around) (h₀ : Heap) (L : Addr) (m : Str → Option Value) (env : Env) (elt : Expr) (a b : Str) (scope : Scope) (cl : List (Str × Addr)) (l : Addr) (vs : List Value) (news : List (Addr × Obj)) (xs : List Int) (f : Nat → Int → Int) (Q : Value → Shared → Prop) (xv : Value) (s₁ : Shared) : Prop :=
  ∃ e it, xv = .ref e ∧ EnumAt h₀ L m l vs news e it s₁ ∧ EnumTurn prog w A h₀ L m env elt a b scope cl news s₁ xs f ∧ FinEnum h₀ L m news s₁ ((List.range xs.length).map fun i => f i (xs.getD i 0)) Q
theorem ints_of {ys : List Value} {zs : List Int} (hl : ys.length = zs.length) (h : ∀ (i : Nat) y, ys[i]? = some y → ∃ t, y = .int (zs.getD i 0) t) : IntsAre ys zs := by
  induction ys generalizing zs with
  | nil => cases zs with
    | nil => exact .nil
    | cons z r => simp at hl
  | cons y ys ih => cases zs with
    | nil => simp at hl
    | cons z r =>
      obtain ⟨t, e⟩ := h 0 y (by simp)
      have e' : y = .int z t := by simpa using e
      rw [e']
      refine .cons _ _ (ih (by simpa using hl) fun i v q => ?_)
      obtain ⟨t, e⟩ := h (i + 1) v (by simpa using q)
      exact ⟨t, by simpa using e⟩
theorem ints_get {vs : List Value} {xs : List Int} (h : IntsAre vs xs) {i : Nat} {v : Value} (q : vs[i]? = some v) : i < xs.length ∧ ∃ t, v = .int (xs.getD i 0) t := by
  have hl : i < vs.length := (List.getElem?_eq_some_iff.mp q).1
  rw [h.length] at hl
  obtain ⟨t, e⟩ := h.get i xs[i] (by simp [hl])
  rw [q] at e
  exact ⟨hl, t, by rw [Option.some.inj e]; simp [hl]⟩
section
variable {prog : Program} {w : World} {A : Around} {E : Value → Shared → Prop} {s : Shared} {h₀ : Heap} {L : Addr} {m : Str → Option Value} {env : Env}
theorem comp_enum_ints {elt iter : Expr} {a b : Str} {pa pb tp : Pos} {kk : Nat} {scope : Scope} {cl : List (Str × Addr)} {pos : Pos} {Q : Value → Shared → Prop} {l : Addr} {vs : List Value} {xs : List Int} {news : List (Addr × Obj)} {c : Nat} (f : Nat → Int → Int)
    (_F : Fr h₀ L s.heap m) (_N : News h₀ L s.heap news) (_hm : (l, listOf vs.toArray c) ∈ news) (hi : IntsAre vs xs) (hh : A.handled = none) (hclos : closureFor scope env = pure cl) (hcell : ∀ y ∈ scope.names, y.2 ≠ .cell) (hkind : scope.kind = .function)
    (hnames : ∀ y ∈ scope.names, y.2 = .local → scope.names.lookup y.1 = some .local) (hxa : scope.names.lookup a = some .local) (hxb : scope.names.lookup b = some .local) (hab : a ≠ b) (hsz : xs.length ≤ 200)
    (h : wpAny (model prog w) A (eval iter env) (EnumSrc prog w A h₀ L m env elt a b scope cl l vs news xs f Q) E s)
    (hs : ∀ x, foldedSetIterable iter env x = pure x := by intro _; rfl) :
    wpAny (model prog w) A (eval (.ListComp elt [⟨.Tuple [.Name a pa, .Name b pb] kk tp, iter, [], 0⟩] scope pos) env) Q E s := by
  refine comp_enum (h₀ := h₀) (L := L) (m := m) (l := l) (news := news) hh hclos hcell hkind hnames hxa hxb hab (by rw [hi.length, sizeLine_eq]; omega) (fun i y => ∃ t, y = .int (f i (xs.getD i 0)) t) (wpAny_mono h (fun xv s₁ x => ?_) fun _ _ e => e) hs
  obtain ⟨e, it, rfl, X, turn, fin⟩ := x
  refine ⟨e, it, rfl, X, fun i v t C oC m₂ h tk E' hv ho ha hb F N => ?_, fun D ys h tk hl hR F N hne => fin D ys _ h tk (ints_of (by simp [hl, hi.length]) fun i y q => ?_) F N hne⟩
  · obtain ⟨hlt, u, rfl⟩ := ints_get hi hv
    exact turn i t u C oC m₂ h tk E' hlt ho ha hb F N
  · have hlt : i < xs.length := by rw [← hi.length, ← hl]; exact (List.getElem?_eq_some_iff.mp q).1
    obtain ⟨t, e⟩ := hR i y q
    refine ⟨t, ?_⟩
    have e2 : (List.map (fun i => f i (xs.getD i 0)) (List.range xs.length)).getD i 0 = f i (xs.getD i 0) := by
      rw [List.getD_eq_getElem?_getD, List.getElem?_map, List.getElem?_range hlt]
      rfl
    rw [e, e2]
end
end Mine
end

section
open PySem PySem.W PySem.Calls PySem.Spec PyProof.Rows PyProof.Rows.LCg
namespace Mine
/-- a comprehension over range(n), its element an int that makes nothing: what is asked where the range stands -/
noncomputable def RngTurn (prog : Program) (w : World) (A : Around) (h₀ : Heap) (L : Addr) (m : Str → Option Value) (env : Env) (elt : Expr) (x : Str) (scope : Scope) (cl : List (Str × Addr)) (news : List (Addr × Obj)) (s₁ : Shared) (n : Nat) (f : Nat → Int) : Prop :=
  ∀ (i : Nat) t C oC m₂ h tk (E' : Value → Shared → Prop), i < n → NsObj oC m₂ → m₂ x = some (.int (i : Int) t) → Fr h₀ L h m → News h₀ L h ((C, oC) :: news) →
    wpAny (model prog w) A (eval elt (compEnvC scope cl C env)) (TurnEnd s₁ h (f i)) E' { s₁ with heap := h, toks := tk }
noncomputable def RngFin (h₀ : Heap) (L : Addr) (m : Str → Option Value) (news : List (Addr × Obj)) (s₁ : Shared) (zs : List Int) (Q : Value → Shared → Prop) : Prop :=
  ∀ D ys c h tk, IntsAre ys zs → Fr h₀ L h m → News h₀ L h ((D, listOf ys.toArray c) :: news) → Off1 D news → Q (.ref D) { s₁ with heap := h, toks := tk }
noncomputable def RngSrc (prog : Program) (w : World) (A : Around) (h₀ : Heap) (L : Addr) (m : Str → Option Value) (env : Env) (elt : Expr) (x : Str) (scope : Scope) (cl : List (Str × Addr)) (news : List (Addr × Obj)) (n : Nat) (f : Nat → Int) (Q : Value → Shared → Prop) (xv : Value) (s₁ : Shared) : Prop :=
  ∃ r b t u v, xv = .ref r ∧ Fr h₀ L s₁.heap m ∧ News h₀ L s₁.heap news ∧ IsRange s₁.heap r 0 b 1 t u v ∧ Builtin.Range.small 0 b 1 = true ∧ Builtin.Range.rangeSize 0 b 1 = (n : Int) ∧
    RngTurn prog w A h₀ L m env elt x scope cl news s₁ n f ∧ RngFin h₀ L m news s₁ ((List.range n).map f) Q
section
variable {prog : Program} {w : World} {A : Around} {E : Value → Shared → Prop} {s : Shared} {h₀ : Heap} {L : Addr} {m : Str → Option Value} {env : Env}
theorem rng_rest {elt : Expr} {x : Str} {scope : Scope} {cl : List (Str × Addr)} {Q : Value → Shared → Prop} {news : List (Addr × Obj)} {s₁ : Shared} {n : Nat} {f : Nat → Int} (g : Heap)
    (turn : RngTurn prog w A h₀ L m env elt x scope cl news s₁ n f) (fin : RngFin h₀ L m news s₁ ((List.range n).map f) Q) :
    ∀ (k i : Nat) (ys : List Value), i + k = n → ys.length = i → (∀ (j : Nat) y, ys[j]? = some y → ∃ t, y = .int (f j) t) →
      CompRest prog w A h₀ L m env elt x scope cl { s₁ with heap := g } (fun _ => True) (fun i v => ∃ t, v = .int (0 + (i : Int)) t) (FinE h₀ L m { s₁ with heap := g } Q) k i ys news := by
  intro k
  induction k with
  | zero =>
    intro i ys hk hl hy
    refine CompRest.zero fun D h tk F N o1 => fin D ys _ h tk (ints_of (by simp; omega) fun j y q => ?_) F N o1
    have hj : j < n := by have := (List.getElem?_eq_some_iff.mp q).1; omega
    obtain ⟨t, e⟩ := hy j y q
    refine ⟨t, ?_⟩
    have e2 : ((List.range n).map f).getD j 0 = f j := by rw [List.getD_eq_getElem?_getD, List.getElem?_map, List.getElem?_range hj]; rfl
    rw [e, e2]
  | succ k ih =>
    intro i ys hk hl hy
    refine CompRest.succ fun v I oI C oC D m₂ h tk E' hv ho hx F N off ne => ?_
    obtain ⟨t, rfl⟩ := hv
    have N' : News h₀ L h ((C, oC) :: news) := fun p hp => N p (by
      rcases List.mem_cons.mp hp with rfl | hp
      · exact .tail _ (.head _)
      · exact .tail _ (.tail _ (.tail _ hp)))
    refine wpAny_mono (turn i t C oC m₂ h tk E' (by omega) ho (by rw [hx]; congr 2; omega) F N') (fun y s₂ z => ?_) fun _ _ e => e
    obtain ⟨⟨tk', rfl⟩, u, rfl⟩ := z
    refine CompEnd.intro F N news (fun p hp => hp) off trivial (ih (i + 1) _ (by omega) (by simp [hl]) fun j y q => ?_)
    by_cases hj : j < ys.length
    · rw [List.getElem?_append_left hj] at q
      exact hy j y q
    · rw [List.getElem?_append_right (Nat.not_lt.mp hj)] at q
      have hj' : j = i := by
        have := (List.getElem?_eq_some_iff.mp q).1
        simp at this; omega
      subst hj'
      rw [hl, Nat.sub_self] at q
      exact ⟨u, by simpa using q.symm⟩
theorem comp_range_ints {elt iter : Expr} {x : Str} {px : Pos} {scope : Scope} {cl : List (Str × Addr)} {pos : Pos} {Q : Value → Shared → Prop} {news : List (Addr × Obj)} (n : Nat) (f : Nat → Int)
    (F : Fr h₀ L s.heap m) (_N : News h₀ L s.heap news) (hh : A.handled = none) (hclos : closureFor scope env = pure cl) (hcell : ∀ y ∈ scope.names, y.2 ≠ .cell) (hkind : scope.kind = .function)
    (hnames : ∀ y ∈ scope.names, y.2 = .local → scope.names.lookup y.1 = some .local) (hx : scope.names.lookup x = some .local) (hsz : n ≤ 200)
    (h : wpAny (model prog w) A (eval iter env) (RngSrc prog w A h₀ L m env elt x scope cl news n f Q) E s)
    (hs : ∀ x, foldedSetIterable iter env x = pure x := by intro _; rfl) :
    wpAny (model prog w) A (eval (.ListComp elt [⟨.Name x px, iter, [], 0⟩] scope pos) env) Q E s := by
  refine ListComp_U (h₀ := h₀) (L := L) (m := m) F hclos hcell hkind hnames hx (wpAny_mono h (fun xv s₁ z => ?_) fun _ _ e => e) hs
  obtain ⟨r, b, t, u, v, rfl, F₁, N₁, hr, hsm, hn, turn, fin⟩ := z
  exact CompSrc.range hh F₁ N₁ hr hsm hn (by rw [sizeLine_eq]; omega) fun g => rng_rest g turn fin n 0 [] (by omega) rfl fun j y q => by simp at q
end

/-- ys are references to lists of ints, the j-th one's ints are g of zs' j-th; the objects are rows -/
inductive RowsAre (g : Int → List Int) : List Value → List (Addr × Obj) → List Int → Prop
  | nil : RowsAre g [] [] []
  | snoc {ys : List Value} {rows : List (Addr × Obj)} {zs : List Int} {a : Addr} {us : List Value} {c : Nat} {z : Int} : RowsAre g ys rows zs → IntsAre us (g z) → RowsAre g (ys ++ [.ref a]) ((a, listOf us.toArray c) :: rows) (zs ++ [z])
theorem RowsAre.length {g : Int → List Int} {ys : List Value} {rows : List (Addr × Obj)} {zs : List Int} (h : RowsAre g ys rows zs) : ys.length = zs.length := by
  induction h with
  | nil => rfl
  | snoc _ _ ih => simp [ih]
theorem RowsAre.get {g : Int → List Int} {ys : List Value} {rows : List (Addr × Obj)} {zs : List Int} (h : RowsAre g ys rows zs) : ∀ {i : Nat}, i < zs.length → ∃ a us c, ys[i]? = some (.ref a) ∧ (a, listOf us.toArray c) ∈ rows ∧ IntsAre us (g (zs.getD i 0)) := by
  induction h with
  | nil => intro i hi; simp at hi
  | @snoc ys rows zs a us c z h hI ih =>
    intro i hi
    have hl := h.length
    by_cases hj : i < zs.length
    · obtain ⟨a', us', c', h1, h2, h3⟩ := ih hj
      refine ⟨a', us', c', ?_, .tail _ h2, ?_⟩
      · rw [List.getElem?_append_left (by omega)]; exact h1
      · rw [List.getD_eq_getElem?_getD, List.getElem?_append_left hj, ← List.getD_eq_getElem?_getD]; exact h3
    · have hi' : i = zs.length := by simp at hi; omega
      refine ⟨a, us, c, ?_, .head _, ?_⟩
      · rw [List.getElem?_append_right (by omega), hi', hl, Nat.sub_self]; rfl
      · rw [List.getD_eq_getElem?_getD, List.getElem?_append_right (by omega), hi', Nat.sub_self]; exact hI
/-- a call within a comprehension's turn hands back one new list of ints -/
noncomputable def RowEnd (h₀ : Heap) (L : Addr) (m : Str → Option Value) (s₁ : Shared) (led : List (Addr × Obj)) (xs : List Int) (y : Value) (s₂ : Shared) : Prop :=
  ∃ r us c' h' tk', y = .ref r ∧ s₂ = { s₁ with heap := h', toks := tk' } ∧ Fr h₀ L h' m ∧ News h₀ L h' ((r, listOf us.toArray c') :: led) ∧ (∀ q ∈ led, r ≠ q.1) ∧ IntsAre us xs
noncomputable def RowTurn (prog : Program) (w : World) (A : Around) (h₀ : Heap) (L : Addr) (m : Str → Option Value) (env : Env) (elt : Expr) (x : Str) (scope : Scope) (cl : List (Str × Addr)) (news : List (Addr × Obj)) (s₁ : Shared) (zs : List Int) (g : Int → List Int) : Prop :=
  ∀ (z : Int) t C oC m₂ h tk (E' : Value → Shared → Prop) led, z ∈ zs → NsObj oC m₂ → m₂ x = some (.int z t) → Fr h₀ L h m → News h₀ L h led → (C, oC) ∈ led → (∀ q ∈ news, q ∈ led) →
    wpAny (model prog w) A (eval elt (compEnvC scope cl C env)) (RowEnd h₀ L m s₁ led (g z)) E' { s₁ with heap := h, toks := tk }
noncomputable def RowFin (h₀ : Heap) (L : Addr) (m : Str → Option Value) (news : List (Addr × Obj)) (s₁ : Shared) (zs : List Int) (g : Int → List Int) (Q : Value → Shared → Prop) : Prop :=
  ∀ D ys rows c h tk, RowsAre g ys rows zs → OwnOff rows (news.map (·.1)) → Fr h₀ L h m → News h₀ L h ((D, listOf ys.toArray c) :: (news ++ rows)) → (∀ q ∈ news ++ rows, D ≠ q.1) → Q (.ref D) { s₁ with heap := h, toks := tk }
theorem off1_of {D : Addr} : ∀ {l : List (Addr × Obj)}, Off1 D l → ∀ q ∈ l, D ≠ q.1
  | [], _, _, h => nomatch h
  | _ :: _, x, q, h => by
    rcases List.mem_cons.mp h with rfl | h
    · exact Ne.symm x.1
    · exact off1_of x.2 q h
section
variable {prog : Program} {w : World} {A : Around} {E : Value → Shared → Prop} {s : Shared} {h₀ : Heap} {L : Addr} {m : Str → Option Value} {env : Env}
theorem row_rest {elt : Expr} {x : Str} {scope : Scope} {cl : List (Str × Addr)} {Q : Value → Shared → Prop} {news : List (Addr × Obj)} {s₁ : Shared} {ax : Addr} {vs : List Value} {c : Nat} {zs : List Int} {f : Int → List Int} (g : Heap)
    (hi : IntsAre vs zs) (hm : (ax, listOf vs.toArray c) ∈ news)
    (turn : RowTurn prog w A h₀ L m env elt x scope cl news s₁ zs f) (fin : RowFin h₀ L m news s₁ zs f Q) :
    ∀ (k i : Nat) (ys : List Value) (rows : List (Addr × Obj)), i + k = zs.length → RowsAre f ys rows (zs.take i) → OwnOff rows (news.map (·.1)) →
      CompRest prog w A h₀ L m env elt x scope cl { s₁ with heap := g } (SrcAt h₀ ax vs.toArray) (fun i v => vs.toArray[i]? = some v) (FinE h₀ L m { s₁ with heap := g } Q) k i ys (news ++ rows) := by
  intro k
  induction k with
  | zero =>
    intro i ys rows hk hr ho
    rw [show i = zs.length by omega, List.take_length] at hr
    exact CompRest.zero fun D h tk F N o1 => fin D ys rows _ h tk hr ho F N (off1_of o1)
  | succ k ih =>
    intro i ys rows hk hr ho
    refine CompRest.succ fun v I oI C oC D m₂ h tk E' hv hoC hx F N off ne => ?_
    obtain ⟨hlt, t, rfl⟩ := ints_get hi (i := i) (v := v) (by simpa using hv)
    refine wpAny_mono (turn _ t C oC m₂ h tk E' _ (by rw [List.getD_eq_getElem?_getD, List.getElem?_eq_getElem hlt]; exact List.getElem_mem hlt) hoC hx F N (.tail _ (.head _)) fun q hq => .tail _ (.tail _ (.tail _ (List.mem_append.mpr (.inl hq))))) (fun y s₂ z => ?_) fun _ _ e => e
    obtain ⟨r, us, c', h', tk', rfl, rfl, F', N', hne, hI⟩ := z
    have off3 := off.mem
    refine CompEnd.intro F' N' (news ++ (r, listOf us.toArray c') :: rows) (fun p hp => ?_) (Off3.of fun p hp => ?_) (.inr ⟨_, List.mem_append.mpr (.inl hm), rfl, _, rfl⟩) (ih (i + 1) _ _ (by omega) ?_ ?_)
    · rcases List.mem_cons.mp hp with rfl | hp
      · exact .tail _ (.head _)
      rcases List.mem_cons.mp hp with rfl | hp
      · exact .tail _ (.tail _ (.head _))
      rcases List.mem_cons.mp hp with rfl | hp
      · exact .tail _ (.tail _ (.tail _ (.head _)))
      rcases List.mem_append.mp hp with hp | hp
      · exact .tail _ (.tail _ (.tail _ (.tail _ (List.mem_append.mpr (.inl hp)))))
      rcases List.mem_cons.mp hp with rfl | hp
      · exact .head _
      · exact .tail _ (.tail _ (.tail _ (.tail _ (List.mem_append.mpr (.inr hp)))))
    · rcases List.mem_append.mp hp with hp | hp
      · exact off3 p (List.mem_append.mpr (.inl hp))
      rcases List.mem_cons.mp hp with rfl | hp
      · exact ⟨hne _ (.head _), hne _ (.tail _ (.head _)), hne _ (.tail _ (.tail _ (.head _)))⟩
      · exact off3 p (List.mem_append.mpr (.inr hp))
    · have e : zs.take (i + 1) = zs.take i ++ [zs.getD i 0] := by
        rw [List.take_add_one, List.getD_eq_getElem?_getD, List.getElem?_eq_getElem hlt]; rfl
      rw [e]
      exact .snoc hr hI
    · intro p hp b hb
      rcases List.mem_cons.mp hp with rfl | hp
      · obtain ⟨q, hq, rfl⟩ := List.mem_map.mp hb
        exact hne q (.tail _ (.tail _ (.tail _ (List.mem_append.mpr (.inl hq)))))
      · exact ho p hp b hb
noncomputable def RowSrc (prog : Program) (w : World) (A : Around) (h₀ : Heap) (L : Addr) (m : Str → Option Value) (env : Env) (elt : Expr) (x : Str) (scope : Scope) (cl : List (Str × Addr)) (news : List (Addr × Obj)) (g : Int → List Int) (Q : Value → Shared → Prop) (xv : Value) (s₁ : Shared) : Prop :=
  ∃ ax vs c zs, xv = .ref ax ∧ (ax, listOf vs.toArray c) ∈ news ∧ IntsAre vs zs ∧ zs.length ≤ 200 ∧ Fr h₀ L s₁.heap m ∧ News h₀ L s₁.heap news ∧ RowTurn prog w A h₀ L m env elt x scope cl news s₁ zs g ∧ (IntsAre vs zs → RowFin h₀ L m news s₁ zs g Q)
theorem comp_rows {elt iter : Expr} {x : Str} {px : Pos} {scope : Scope} {cl : List (Str × Addr)} {pos : Pos} {Q : Value → Shared → Prop} {news : List (Addr × Obj)} (f : Int → List Int)
    (F : Fr h₀ L s.heap m) (_N : News h₀ L s.heap news) (hh : A.handled = none) (hclos : closureFor scope env = pure cl) (hcell : ∀ y ∈ scope.names, y.2 ≠ .cell) (hkind : scope.kind = .function)
    (hnames : ∀ y ∈ scope.names, y.2 = .local → scope.names.lookup y.1 = some .local) (hx : scope.names.lookup x = some .local)
    (h : wpAny (model prog w) A (eval iter env) (RowSrc prog w A h₀ L m env elt x scope cl news f Q) E s)
    (hs : ∀ x, foldedSetIterable iter env x = pure x := by intro _; rfl) :
    wpAny (model prog w) A (eval (.ListComp elt [⟨.Name x px, iter, [], 0⟩] scope pos) env) Q E s := by
  refine ListComp_U (h₀ := h₀) (L := L) (m := m) F hclos hcell hkind hnames hx (wpAny_mono h (fun xv s₁ z => ?_) fun _ _ e => e) hs
  obtain ⟨ax, vs, c, zs, rfl, hm, hi, hsz, F₁, N₁, turn, fin⟩ := z
  refine CompSrc.ledger (its := vs.toArray) hh F₁ N₁ hm (by rw [List.size_toArray, hi.length, sizeLine_eq]; omega) fun g => ?_
  rw [List.size_toArray, hi.length]
  have := row_rest g hi hm turn (fin hi) zs.length 0 [] [] (by omega) .nil (fun p hp => nomatch hp)
  rw [List.append_nil] at this
  exact this
end
theorem ints_set {vs : List Value} {zs : List Int} (h : IntsAre vs zs) (v : Int) (t : Tok) : ∀ i : Nat, IntsAre (vs.set i (.int v t)) (zs.set i v) := by
  induction h with
  | nil => intro i; exact .nil
  | cons n u h ih =>
    intro i
    cases i with
    | zero => exact .cons _ _ h
    | succ i => exact .cons _ _ (ih i)
theorem item_ints {prog : Program} {w : World} {A : Around} {E : Value → Shared → Prop} {s : Shared} {h₀ : Heap} {L : Addr} {news : List (Addr × Obj)} {value slice : PySem.Expr} {l : Addr} {vs : List Value} {zs : List Int} {c : Nat} {k : Int} {u : Tok} {Q : Value → Shared → Prop}
    (N : News h₀ L s.heap news) (hm : (l, listOf vs.toArray c) ∈ news) (hi : IntsAre vs zs) (h0 : 0 ≤ k) (h1 : k < (zs.length : Int)) (h2 : zs.length ≤ 1000) (h : ∀ t, Q (.int (zs.getD k.toNat 0) t) s)
    (hs : subscripted slice false (.ref l) (.int k u) = operate [.ref l, .int k u] (getItem (.ref l) (.int k u)) := by with_unfolding_all rfl) :
    wpAny (model prog w) A (subscriptTail value slice (.ref l) (.int k u)) Q E s := by
  have hlt : k.toNat < vs.length := by rw [hi.length]; omega
  obtain ⟨_, t, e⟩ := ints_get hi (i := k.toNat) (v := vs[k.toNat]) (by simp)
  exact tail_any (News.isList N hm).typeIs slot_list_getitem.lookup (wpAny_getItem_list (News.isList N hm) h0 (by omega) (by simp [hlt]; exact e) (h t)) hs
end Mine
end

section
open PySem PySem.W PySem.Calls PySem.Spec PyProof.Rows
namespace Mine
/-- a part of a def's body, its text told by the object that holds it -/
theorem tail_of {K : Frag} {f : Addr} {name qual : Str} {params : Arguments} {body : List Stmt} {scope : Scope} {dV kV doc pm cdv ct oc : Value} {an od : Option Addr} {osl : Array (Option Value)}
    {name' qual' : Str} {params' : Arguments} {body' : List Stmt} {scope' : Scope} {dV' kV' doc' pm' cdv' ct' oc' : Value} {an' od' : Option Addr} {osl' : Array (Option Value)}
    (P : Str → Scope → List Stmt → Value → Prop)
    (ho : K.lookup f = some ⟨oc, od, .func (fnOf name qual params body scope dV kV doc pm an cdv ct), osl⟩)
    (ho' : K.lookup f = some ⟨oc', od', .func (fnOf name' qual' params' body' scope' dV' kV' doc' pm' an' cdv' ct'), osl'⟩)
    (h : P qual' scope' body' cdv') : P qual scope body cdv := by
  have e := Option.some.inj (ho'.symm.trans ho)
  simp only [fnOf, Obj.mk.injEq, Data.func.injEq, FuncData.mk.injEq] at e
  have e1 : qual' = qual := by simp_all
  have e2 : scope' = scope := by simp_all
  have e3 : body' = body := by simp_all
  have e4 : cdv' = cdv := by simp_all
  subst e1 e2 e3 e4
  exact h
theorem fr_names {h₀ h : Heap} {L : Addr} {m : Str → Option Value} {ps : List (Str × Value)} (F : Fr h₀ L h m) (hp : ∀ p ∈ ps, m p.1 = some p.2) : Fr h₀ L h (kstB m ps) := by
  have e : kstB m ps = m := by
    funext z
    exact kstB_eq hp fun _ => rfl
  rw [e]; exact F
end Mine
end

section
open PySem PySem.W PySem.Calls PySem.Spec PyProof.Rows
namespace Mine
section
variable {σ : Type} (h₀ : Heap) (L : Addr) (own : List (Addr × Obj)) (Led : σ → List (Addr × Obj)) (ps : σ → List (Str × Value)) (x : Str) (stored : List Str) (m₀ : Str → Option Value) (P : σ → Prop) (s₁ : Shared)
/-- how a turn ends whose ledger may have other addresses than the turn before -/
noncomputable def RunEnd (s₂ : Shared) : Prop :=
  ∃ c' h' tk m' news', s₂ = { s₁ with heap := h', toks := tk } ∧ Fr h₀ L h' m' ∧ News h₀ L h' news' ∧ (∀ p ∈ Led c', p ∈ news') ∧ (∀ p ∈ own, p ∈ news') ∧ (∀ p ∈ Led c', ∀ q ∈ own, p.1 ≠ q.1) ∧ (∀ p ∈ ps c', m' p.1 = some p.2) ∧
    (∀ z, z ≠ x → (∀ p ∈ ps c', z ≠ p.1) → stored.contains z = false → m' z = m₀ z) ∧ P c'
noncomputable def RunPost (Q : Flow → Shared → Prop) (f : Flow) (s₂ : Shared) : Prop :=
  match f with
  | .ret v => Q (.ret v) s₂
  | .brk => Q .next s₂
  | _ => RunEnd h₀ L own Led ps x stored m₀ P s₁ s₂
end
section
variable {prog : Program} {w : World} {A : Around} {E : Value → Shared → Prop} {s : Shared} {env : Env} {h₀ : Heap} {x : Str} {body : List Stmt} {Q : Flow → Shared → Prop}
theorem run_end {σ : Type} {L : Addr} {own : List (Addr × Obj)} {Led : σ → List (Addr × Obj)} {ps : σ → List (Str × Value)} {stored : List Str} {m₀ m' : Str → Option Value} {P : σ → Prop} {s₁ : Shared} {h' : Heap} {tk : Nat} {news' : List (Addr × Obj)} (c' : σ)
    (F : Fr h₀ L h' m') (N : News h₀ L h' news') (hn : ∀ p ∈ Led c', p ∈ news') (ho : ∀ p ∈ own, p ∈ news') (hne : ∀ p ∈ Led c', ∀ q ∈ own, p.1 ≠ q.1) (hk : ∀ p ∈ ps c', m' p.1 = some p.2)
    (hr : ∀ z, z ≠ x → (∀ p ∈ ps c', z ≠ p.1) → stored.contains z = false → m' z = m₀ z) (hp : P c') : RunEnd h₀ L own Led ps x stored m₀ P s₁ { s₁ with heap := h', toks := tk } :=
  ⟨c', h', tk, m', news', rfl, F, N, hn, ho, hne, hk, hr, hp⟩
theorem loop_run {σ : Type} {r : Addr} {b : Int} {t₀ u₀ v₀ : Tok} {n : Nat} {m₀ : Str → Option Value} (Led : σ → List (Addr × Obj)) (ps : σ → List (Str × Value)) (stored : List Str) (P : Nat → σ → Prop) (c₀ : σ)
    (hh : A.handled = none) (hr : IsRange s.heap r 0 b 1 t₀ u₀ v₀) (hsmall : Builtin.Range.small 0 b 1 = true) (hn : Builtin.Range.rangeSize 0 b 1 = (n : Int)) (F : Fr h₀ env.locals s.heap m₀) (N : News h₀ env.locals s.heap (Led c₀)) (hk : ∀ p ∈ ps c₀, m₀ p.1 = some p.2) (hp : P 0 c₀)
    (turn : ∀ (c : σ) (i : Nat) t (u : Str → Option Value) h tk own, i < n → OwnOff own ((Led c).map (·.1)) → P i c →
      Fr h₀ env.locals h (fun y => if y = x then some (.int (i : Int) t) else kstB (fun z => if stored.contains z then u z else m₀ z) (ps c) y) → News h₀ env.locals h (Led c ++ own) →
      wpAny (model prog w) A (execs body env) (RunPost h₀ env.locals own Led ps x stored m₀ (P (i + 1)) { s with heap := h, toks := tk } Q) E { s with heap := h, toks := tk })
    (done : ∀ (c : σ) (u : Str → Option Value) h tk, P n c → Fr h₀ env.locals h (fun y => if y = x then u y else kstB (fun z => if stored.contains z then u z else m₀ z) (ps c) y) → News h₀ env.locals h (Led c) → Q .next { s with heap := h, toks := tk }) :
    wpAny (model prog w) A (pyIter (.ref r)) (fun it s₂ => LoopAtV prog w A h₀ env x body Q E it s₂) E s := by
  refine wpAny_pyIter_range hr hsmall ?_
  have W : Walks prog w A s.heap.objs.size [s.heap.objs.size] [s.heap.objs.size] n (fun i v => i < n ∧ ∃ t, v = .int (0 + (i : Nat) * 1) t)
      (fun i h => IsRangeIter h s.heap.objs.size (0 + (i : Nat) * 1) ((n : Int) - (i : Nat)) 1) := (Walks.range hh _ 0 1 n).bound
  let J : Nat → (Str → Option Value) → List (Addr × Obj) → Prop := fun i m₁ news₁ => ∃ c, news₁ = Led c ∧ (∀ p ∈ ps c, m₁ p.1 = some p.2) ∧ (∀ z, z ≠ x → (∀ p ∈ ps c, z ≠ p.1) → stored.contains z = false → m₁ z = m₀ z) ∧ P i c
  refine ⟨_, _, _, n, _, _, m₀, Led c₀, J, rfl, W, ?_, ?_, ?_, (by show IsRangeIter _ _ _ _ _; rw [hn]; simpa using Heap.get?_push_size _ rfl), F.push _, (fun p hp => ⟨Heap.get?_push_of_some _ (N p hp).1, (N p hp).2⟩), ⟨c₀, rfl, hk, fun _ _ _ _ => rfl, hp⟩, ?_, ?_⟩
  · intro hm
    exact absurd F.ns.lt ((List.mem_singleton.mp hm) ▸ Nat.lt_irrefl _)
  · intro b hb
    rw [List.mem_singleton.mp hb]
    exact next_is_new F
  · intro p hp hI
    exact absurd (Heap.lt_size (N p hp).1) ((List.mem_singleton.mp hI) ▸ Nat.lt_irrefl _)
  · rintro i v m₁ news₁ s₁ own ⟨hh', tk', rfl⟩ hin ⟨_, t, rfl⟩ ⟨c, rfl, h1, h2, hP⟩ hoff hown _ hall st F₁ N₁
    have e1 : (0 : Int) + (i : Int) * 1 = (i : Int) := by omega
    rw [e1] at F₁
    have hsep : OwnOff own ((Led c).map (·.1)) := by
      intro p hp b hb e
      obtain ⟨q, hq, rfl⟩ := List.mem_map.mp hb
      exact hoff q hq (e ▸ hown p hp)
    have N₂ : News h₀ env.locals hh' (Led c ++ own) := fun p hp => N₁ p ((List.mem_append.mp hp).elim (fun h => List.mem_append.mpr (.inr h)) fun h => List.mem_append.mpr (.inl h))
    refine wpAny_mono (turn c i t m₁ hh' tk' own hin hsep hP (kst_fr h1 h2 F₁) N₂) (fun f s₂ p => ?_) fun _ _ e => e
    have fin : RunEnd h₀ env.locals own Led ps x stored m₀ (P (i + 1)) { s with heap := hh', toks := tk' } s₂ → LoopStepU h₀ env.locals [s.heap.objs.size] own (J (i + 1)) { s with heap := hh', toks := tk' } .next s₂ := by
      rintro ⟨c', h', tk, m', news', e, F', N', hn, ho, hne, hk', hr', hp'⟩
      refine ⟨rfl, h', tk, m', Led c', e, F', fun p hp => N' p ((List.mem_append.mp hp).elim (ho p) (hn p)), fun p hp hq => ?_, c', rfl, hk', hr', hp'⟩
      have st' : hh'.get? s.heap.objs.size = some _ := st
      exact hne p hp _ (hall _ (List.mem_singleton.mpr rfl) (next_is_new F) _ st') (List.mem_singleton.mp hq)
    cases f with
    | ret v => exact .ret p
    | brk => exact .brk p
    | next => exact .next (fin p)
    | cont => exact .cont (fin p)
  · rintro h' tk m' news' F' N' _ ⟨c, rfl, h1, h2, hP⟩
    exact done c m' h' tk hP (kst_frOut h1 h2 F') N'
end
theorem run_same {f x : Str} {v v' t : Value} {m₀ u : Str → Option Value} {z : Str} (h1 : z ≠ x) (h4 : z ≠ f) :
    (if z = f then some v' else if z = x then some t else kstB (fun z => if ([] : List Str).contains z = true then u z else m₀ z) [(f, v)] z) = m₀ z := by
  rw [if_neg h4, if_neg h1]
  show (if z = f then some v else if ([] : List Str).contains z = true then u z else m₀ z) = m₀ z
  rw [if_neg h4]
  simp
end Mine
end

section
open PySem PySem.W PyProof.Rows
namespace Mine
/-- the told numbers, drawn round and round -/
noncomputable def drawn (T : List Int) (j : Nat) : Int := T.getD ((j : Int).fmod (T.length : Int)).toNat 0
theorem drawn_in {T : List Int} {p : Int} (hT : ∀ t ∈ T, 0 ≤ t ∧ t < p) (h0 : 0 < T.length) (j : Nat) : 0 ≤ drawn T j ∧ drawn T j < p := by
  have := @fmod_in (j : Int) T.length (by omega) h0
  exact hT _ (getD_in (by omega))
/-- which number is picked, and how many were drawn -/
structure PickN (F : Nat → Int) (b v a : Int) : Prop where
  is : (∃ j : Nat, j ≤ 80 ∧ (∀ i, i < j → ¬ F i < b) ∧ F j < b ∧ v = F j ∧ a = (j : Int) + 1) ∨ ((∀ i, i ≤ 80 → ¬ F i < b) ∧ v = F 80 - b ∧ a = 81)
theorem PickN.unique {F : Nat → Int} {b v a v' a' : Int} (h : PickN F b v a) (h' : PickN F b v' a') : v' = v ∧ a' = a := by
  rcases h.is with ⟨j, hj, hlt, hF, rfl, rfl⟩ | ⟨hall, rfl, rfl⟩ <;> rcases h'.is with ⟨j', hj', hlt', hF', rfl, rfl⟩ | ⟨hall', rfl, rfl⟩
  · have : j = j' := by
      rcases Nat.lt_trichotomy j j' with q | q | q
      · exact absurd hF (hlt' j q)
      · exact q
      · exact absurd hF' (hlt j' q)
    subst this
    exact ⟨rfl, rfl⟩
  · exact absurd hF (hall' j hj)
  · exact absurd hF' (hall j' hj')
  · exact ⟨rfl, rfl⟩
/-- what is asked of a number's limbs -/
structure LimbOk (k n t : Int) : Prop where
  len : (limbsZ k t).length ≤ 3
  dig : ∀ z ∈ limbsZ k t, 0 ≤ z ∧ z < 256
  shl : shlZ k 0 (limbsZ k t) = limbsZ k t
  add : addZ k [] (limbsZ k t) = limbsZ k t
  low : lowZ k n (limbsZ k t) = limbsZ k t
  worth : worthE k (limbsZ k t) = t
theorem LimbOk.five {k n t : Int} (h : LimbOk k n t) : (limbsZ k t).length ≤ 100 ∧ (∀ z ∈ limbsZ k t, 0 ≤ z ∧ z < 256) ∧ shlZ k 0 (limbsZ k t) = limbsZ k t ∧ addZ k [] (limbsZ k t) = limbsZ k t ∧ lowZ k n (limbsZ k t) = limbsZ k t :=
  ⟨Nat.le_trans h.len (by decide), h.dig, h.shl, h.add, h.low⟩
theorem picked_num {F : Nat → Int} {k b p a1 : Int} {res : List Int} (hF : ∀ j, 0 ≤ F j ∧ F j < p) (hb : 1 ≤ b)
    (hcmp : ∀ t, 0 ≤ t → t < p → (cmpZ (limbsZ k t) (limbsZ k b) < 0 ↔ t < b)) (hsub : ∀ t, b ≤ t → t < p → subZ k (limbsZ k t) (limbsZ k b) = limbsZ k (t - b))
    (h : Picked (fun j => limbsZ k (F j)) (limbsZ k b) k 0 res a1) : ∃ v, res = limbsZ k v ∧ 0 ≤ v ∧ v < p ∧ PickN F b v a1 := by
  rcases h with ⟨j, hj, hlt, hc, rfl, rfl⟩ | ⟨hall, rfl, rfl⟩
  · have hj2 := hF j
    refine ⟨F j, rfl, hj2.1, hj2.2, ⟨.inl ⟨j, hj, fun i hi => ?_, (hcmp _ hj2.1 hj2.2).mp hc, rfl, by omega⟩⟩⟩
    exact fun q => hlt i hi ((hcmp _ (hF i).1 (hF i).2).mpr q)
  · have h8 := hF 80
    have hall' : ∀ i, i ≤ 80 → ¬ F i < b := fun i hi q => hall i hi ((hcmp _ (hF i).1 (hF i).2).mpr q)
    have := hall' 80 (by omega)
    exact ⟨F 80 - b, hsub _ (by omega) h8.2, by omega, by omega, ⟨.inr ⟨hall', rfl, by omega⟩⟩⟩
/-- what the law's own while keeps -/
noncomputable def LawInv (F : Nat → Int) (b : Int) (due : Option (Int × Tok)) (many : Int) : Prop :=
  0 ≤ many ∧ match due with
  | none => many ≤ 80 ∧ ∀ i : Nat, (i : Int) < many → ¬ F i < b
  | some d => PickN F b d.1 many
noncomputable def dueV : Option (Int × Tok) → Value
  | none => .none
  | some d => .int d.1 d.2
noncomputable def dueM (due : Option (Int × Tok)) (many : Int) : Nat := (match due with | none => 1 | some _ => 0) + (81 - many).toNat
theorem law_start {F : Nat → Int} {b : Int} : LawInv F b none 0 := ⟨Int.le_refl _, by decide, fun i h => by omega⟩
section
variable {T : List Int} {b many : Int} {t : Tok}
theorem law_yes (h : LawInv (drawn T) b none many) (hl : T.getD (many.fmod (T.length : Int)).toNat 0 < b) : LawInv (drawn T) b (some (T.getD (many.fmod (T.length : Int)).toNat 0, t)) (many + 1) := by
  obtain ⟨h0, h8, hb⟩ := h
  have e : drawn T many.toNat = T.getD (many.fmod (T.length : Int)).toNat 0 := by unfold drawn; rw [Int.toNat_of_nonneg h0]
  refine ⟨by omega, ⟨.inl ⟨many.toNat, by omega, fun i hi => hb i (by omega), by rw [e]; exact hl, e.symm, by omega⟩⟩⟩
theorem law_last (h : LawInv (drawn T) b none many) (hl : ¬ T.getD (many.fmod (T.length : Int)).toNat 0 < b) (h81 : many + 1 = 81) : LawInv (drawn T) b (some (T.getD (many.fmod (T.length : Int)).toNat 0 - b, t)) (many + 1) := by
  obtain ⟨h0, h8, hb⟩ := h
  have hm : many = 80 := by omega
  subst hm
  have e : drawn T 80 = T.getD ((80 : Int).fmod (T.length : Int)).toNat 0 := rfl
  refine ⟨by omega, ⟨.inr ⟨fun i hi => ?_, by rw [e], by omega⟩⟩⟩
  by_cases hi8 : i < 80
  · exact hb i (by omega)
  · have : i = 80 := by omega
    subst this
    rw [e]; exact hl
theorem law_no (h : LawInv (drawn T) b none many) (hl : ¬ T.getD (many.fmod (T.length : Int)).toNat 0 < b) (h81 : many + 1 ≠ 81) : LawInv (drawn T) b none (many + 1) := by
  obtain ⟨h0, h8, hb⟩ := h
  have e : drawn T many.toNat = T.getD (many.fmod (T.length : Int)).toNat 0 := by unfold drawn; rw [Int.toNat_of_nonneg h0]
  refine ⟨by omega, by omega, fun i hi => ?_⟩
  by_cases hi8 : (i : Int) < many
  · exact hb i hi8
  · have : i = many.toNat := by omega
    subst this
    rw [e]; exact hl
end
theorem ownOff1 {rows : List (Addr × Obj)} {d : Addr} (h : ∀ p ∈ rows, p.1 ≠ d) : OwnOff rows [d] := fun p hp b hb => by
  rw [List.mem_singleton.mp hb]; exact h p hp
theorem due_less1 {d : Int × Tok} {many : Int} (h0 : 0 ≤ many) (h : many ≤ 80) : dueM (some d) (many + 1) < dueM none many := by unfold dueM; simp only; omega
theorem due_less2 {many : Int} (h0 : 0 ≤ many) (h : many ≤ 80) : dueM none (many + 1) < dueM none many := by unfold dueM; simp only; omega
end Mine
end

section
open PySem PySem.W PyProof.Rows
set_option maxRecDepth 100000
namespace Mine
/-- the limbs of a number below 2^n, k bits a limb: what is asked of them, as one test -/
noncomputable def okB (k : Nat) (t : Nat) : Bool :=
  let l := limbsF (2 ^ k) 100 (t : Int)
  decide (l.length ≤ 3) && l.all (fun z => decide (0 ≤ z) && decide (z < 2 ^ k)) && (worthE (k : Int) l == (t : Int)) && (bitsZ (k : Int) l == sizeF 100 (t : Int)) && decide (t = 0 ∨ 0 < l.length)
noncomputable def lowB (k n : Nat) (t : Nat) : Bool := let l := limbsF (2 ^ k) 100 (t : Int); lowZ (k : Int) (n : Int) l == l
theorem okA : ∀ k ∈ [2, 3, 4, 5, 6, 7, 8], (List.range 64).all (okB k) = true := by decide +kernel
theorem lowA : ∀ k ∈ [2, 3, 4, 5, 6, 7, 8], (List.range 7).all (fun n => (List.range (2 ^ n)).all (lowB k n)) = true := by decide +kernel
theorem k_of {k : Int} (h2 : 2 ≤ k) (h8 : k ≤ 8) : ∃ j : Nat, k = (j : Int) ∧ j ∈ [2, 3, 4, 5, 6, 7, 8] := by
  obtain ⟨n, rfl⟩ := Int.eq_ofNat_of_zero_le (Int.le_trans (by decide) h2)
  exact ⟨n, rfl, (by decide : ∀ n < 9, 2 ≤ n → n ∈ [2, 3, 4, 5, 6, 7, 8]) n (by omega) (by omega)⟩
theorem or0 {x : Int} (h : 0 ≤ x) : Builtin.bitOr 0 x = x := by
  rw [bitOr_and]
  have e : Builtin.bitAnd 0 x = 0 := by
    unfold Builtin.bitAnd
    rw [decide_eq_true h]
    simp
  omega
theorem shl0 {k : Int} : ∀ {xs : List Int}, (∀ z ∈ xs, 0 ≤ z ∧ z < 2 ^ k.toNat) → shlZ k 0 xs = xs := by
  intro xs
  unfold shlZ
  induction xs with
  | nil => intro _; rfl
  | cons x xs ih =>
    intro h
    have hx := h x (.head _)
    have e : x * 2 ^ (0 : Int).toNat = x := by simp
    rw [shlR_c, e, or0 hx.1, Int.emod_eq_of_lt hx.1 hx.2, Int.ediv_eq_zero_of_lt hx.1 hx.2, ih fun z hz => h z (.tail _ hz)]
theorem add0 {k : Int} : ∀ {xs : List Int}, (∀ z ∈ xs, 0 ≤ z ∧ z < 2 ^ k.toNat) → addZ k [] xs = xs := by
  intro xs
  unfold addZ
  induction xs with
  | nil => intro _; rw [addR_nn]; rfl
  | cons x xs ih =>
    intro h
    have hx := h x (.head _)
    rw [addR_nc, Int.zero_add, Int.emod_eq_of_lt hx.1 hx.2, Int.ediv_eq_zero_of_lt hx.1 hx.2, ih fun z hz => h z (.tail _ hz)]
structure LimbBase (k t : Int) : Prop where
  len : (limbsZ k t).length ≤ 3
  dig : ∀ z ∈ limbsZ k t, 0 ≤ z ∧ z < 2 ^ k.toNat
  worth : worthE k (limbsZ k t) = t
  bits : bitsZ k (limbsZ k t) = sizeZ t
  pos : t = 0 ∨ 0 < (limbsZ k t).length
theorem limb_base {k t : Int} (h2 : 2 ≤ k) (h8 : k ≤ 8) (t0 : 0 ≤ t) (t9 : t < 64) : LimbBase k t := by
  obtain ⟨j, rfl, hj⟩ := k_of h2 h8
  obtain ⟨i, rfl⟩ : ∃ i : Nat, t = (i : Int) := ⟨t.toNat, by omega⟩
  have h := List.all_eq_true.mp (okA j hj) i (List.mem_range.mpr (by omega))
  simp only [okB, Bool.and_eq_true, decide_eq_true_eq, beq_iff_eq, List.all_eq_true] at h
  obtain ⟨⟨⟨⟨a, b⟩, d⟩, e⟩, f⟩ := h
  have el : limbsZ (j : Int) (i : Int) = limbsF (2 ^ j) 100 (i : Int) := by rw [limbsZ_is]; simp
  exact ⟨by rw [el]; exact a, by rw [el]; simpa using b, by rw [el]; exact d, by rw [el, sizeZ_is]; exact e, by rw [el]; omega⟩
theorem limb_low {k n t : Int} (h2 : 2 ≤ k) (h8 : k ≤ 8) (n0 : 0 ≤ n) (n6 : n ≤ 6) (t0 : 0 ≤ t) (tp : t < 2 ^ n.toNat) : lowZ k n (limbsZ k t) = limbsZ k t := by
  obtain ⟨j, rfl, hj⟩ := k_of h2 h8
  obtain ⟨i, rfl⟩ : ∃ i : Nat, t = (i : Int) := ⟨t.toNat, by omega⟩
  obtain ⟨m, rfl⟩ : ∃ m : Nat, n = (m : Int) := ⟨n.toNat, by omega⟩
  have h := List.all_eq_true.mp (lowA j hj) m (List.mem_range.mpr (by omega))
  have hi : i < 2 ^ m := by
    have : ((i : Nat) : Int) < ((2 ^ m : Nat) : Int) := by simpa using tp
    omega
  have h := List.all_eq_true.mp h i (List.mem_range.mpr hi)
  simp only [lowB, beq_iff_eq] at h
  have el : limbsZ (j : Int) (i : Int) = limbsF (2 ^ j) 100 (i : Int) := by rw [limbsZ_is]; simp
  rw [el]; exact h
theorem pow256 {k : Int} (h8 : k ≤ 8) : (2 : Int) ^ k.toNat ≤ 256 := by
  have : k.toNat ≤ 8 := by omega
  have h := Nat.pow_le_pow_right (show 0 < 2 by decide) this
  have e : ((2 ^ k.toNat : Nat) : Int) = 2 ^ k.toNat := by simp
  omega
theorem limb_ok {k n t : Int} (h2 : 2 ≤ k) (h8 : k ≤ 8) (n0 : 0 ≤ n) (n6 : n ≤ 6) (t0 : 0 ≤ t) (tp : t < 2 ^ n.toNat) (t9 : t < 64) : LimbOk k n t := by
  have B := limb_base h2 h8 t0 t9
  exact ⟨B.len, fun z hz => ⟨(B.dig z hz).1, Int.lt_of_lt_of_le (B.dig z hz).2 (pow256 h8)⟩, shl0 B.dig, add0 B.dig, limb_low h2 h8 n0 n6 t0 tp, B.worth⟩
end Mine
end

section
open PySem PySem.W PyProof.Rows
namespace Mine
theorem cmpZ_cons (x y : Int) (xs ys : List Int) : cmpZ (x :: xs) (y :: ys) = if cmpZ xs ys ≠ 0 then cmpZ xs ys else if x < y then -1 else if y < x then 1 else 0 := by
  unfold cmpZ
  simp only [List.length_cons, Nat.add_lt_add_iff_right]
  by_cases h1 : xs.length < ys.length
  · simp [h1]
  · by_cases h2 : ys.length < xs.length
    · simp [h1, h2]
    · simp only [h1, h2, if_false, cmpR_cc]
theorem cmpZ_nil_cons (y : Int) (ys : List Int) : cmpZ [] (y :: ys) = -1 := by unfold cmpZ; simp
theorem cmpZ_cons_nil (x : Int) (xs : List Int) : cmpZ (x :: xs) [] = 1 := by unfold cmpZ; simp
theorem cmpZ_nil : cmpZ [] [] = 0 := rfl
/-- quotients and rests tell which is less -/
theorem less_parts {a b M : Int} (hM : 2 ≤ M) : (a < b ↔ (a / M < b / M ∨ (a / M = b / M ∧ a % M < b % M))) := by
  have ea := Int.mul_ediv_add_emod a M
  have eb := Int.mul_ediv_add_emod b M
  have ra := Int.emod_nonneg a (show M ≠ 0 by omega)
  have rb := Int.emod_nonneg b (show M ≠ 0 by omega)
  have la := Int.emod_lt_of_pos a (show 0 < M by omega)
  have lb := Int.emod_lt_of_pos b (show 0 < M by omega)
  rcases Int.lt_trichotomy (a / M) (b / M) with h | h | h
  · have : M * (a / M + 1) ≤ M * (b / M) := Int.mul_le_mul_of_nonneg_left (by omega) (by omega)
    rw [Int.mul_add, Int.mul_one] at this
    constructor
    · intro _; exact .inl h
    · intro _; omega
  · rw [h] at ea
    constructor
    · intro q; exact .inr ⟨h, by omega⟩
    · rintro (q | ⟨_, q⟩) <;> omega
  · have : M * (b / M + 1) ≤ M * (a / M) := Int.mul_le_mul_of_nonneg_left (by omega) (by omega)
    rw [Int.mul_add, Int.mul_one] at this
    constructor
    · intro _; omega
    · rintro (q | ⟨q, _⟩) <;> omega
theorem cmp_limbs {k : Int} (h2 : 2 ≤ k) : ∀ (m : Nat) (a b : Int), 0 ≤ a → a ≤ m → 0 ≤ b → a ≤ 100 → b ≤ 100 → cmpZ (limbsZ k a) (limbsZ k b) = if a < b then -1 else if b < a then 1 else 0
  | 0, a, b, ha, hm, hb, _, hb9 => by
    have ea : a = 0 := by omega
    subst ea
    rw [limbs_zero (by omega)]
    by_cases h : 0 < b
    · rw [limbs_step h2 h hb9, cmpZ_nil_cons, if_pos h]
    · rw [limbs_zero h, cmpZ_nil, if_neg h, if_neg (by omega)]
  | m + 1, a, b, ha, hm, hb, ha9, hb9 => by
    by_cases h : 0 < a
    · by_cases h' : 0 < b
      · have hM := two_pow_ge h2
        have da := div_lt h hM
        have db := div_lt h' hM
        rw [limbs_step h2 h ha9, limbs_step h2 h' hb9, cmpZ_cons, cmp_limbs h2 m (a / 2 ^ k.toNat) (b / 2 ^ k.toNat) (div_ge ha hM) (by omega) (div_ge hb hM) (by omega) (by omega)]
        have p1 := @less_parts a b _ hM
        have p2 := @less_parts b a _ hM
        generalize a / 2 ^ k.toNat = qa at *
        generalize b / 2 ^ k.toNat = qb at *
        generalize a % 2 ^ k.toNat = ra at *
        generalize b % 2 ^ k.toNat = rb at *
        by_cases h1 : qa < qb
        · have : a < b := p1.mpr (.inl h1)
          simp [h1, this]
        · by_cases h3 : qb < qa
          · have : b < a := p2.mpr (.inl h3)
            have n : ¬ a < b := by omega
            simp [h1, h3, this, n]
          · have e : qa = qb := by omega
            subst e
            simp only [h1, if_false]
            simp only [Int.lt_irrefl, false_or, true_and] at p1 p2
            simp [p1, p2]
      · rw [limbs_step h2 h ha9, limbs_zero h', cmpZ_cons_nil, if_neg (by omega), if_pos (by omega)]
    · rw [limbs_zero h]
      by_cases h' : 0 < b
      · rw [limbs_step h2 h' hb9, cmpZ_nil_cons, if_pos (by omega)]
      · rw [limbs_zero h', cmpZ_nil, if_neg (by omega), if_neg (by omega)]
theorem normalZ_cons (x : Int) (xs : List Int) : normalZ (x :: xs) = if normalZ xs = [] then (if x = 0 then [] else [x]) else x :: normalZ xs := by
  rw [normalZ]
  cases normalZ xs with
  | nil => simp
  | cons y ys => simp
theorem limbs_nil {k n : Int} (h2 : 2 ≤ k) (h9 : n ≤ 100) : limbsZ k n = [] ↔ ¬ 0 < n := by
  constructor
  · intro h q
    rw [limbs_step h2 q h9] at h
    cases h
  · exact limbs_zero
/-- one digit of a difference -/
theorem digit {a b c M : Int} (hM : 2 ≤ M) (hc : c = 0 ∨ c = 1) :
    (if a % M - c - b % M < 0 then a % M - c - b % M + M else a % M - c - b % M) = (a - b - c) % M ∧ a / M - b / M - (if a % M - c - b % M < 0 then 1 else 0) = (a - b - c) / M := by
  have ea := Int.mul_ediv_add_emod a M
  have eb := Int.mul_ediv_add_emod b M
  have ra := Int.emod_nonneg a (show M ≠ 0 by omega)
  have rb := Int.emod_nonneg b (show M ≠ 0 by omega)
  have la := Int.emod_lt_of_pos a (show 0 < M by omega)
  have lb := Int.emod_lt_of_pos b (show 0 < M by omega)
  have key : ∀ q r : Int, 0 ≤ r → r < M → a - b - c = M * q + r → r = (a - b - c) % M ∧ q = (a - b - c) / M := by
    intro q r h0 h1 e
    have e1 : (a - b - c) / M = q := by
      rw [e, Int.mul_add_ediv_left _ _ (by omega), Int.ediv_eq_zero_of_lt h0 h1]; omega
    have e2 : (a - b - c) % M = r := by
      rw [e, Int.mul_add_emod_self_left]; exact Int.emod_eq_of_lt h0 h1
    exact ⟨e2.symm, e1.symm⟩
  split
  · refine key _ _ (by omega) (by omega) ?_
    rw [Int.mul_sub, Int.mul_sub]; omega
  · refine key _ _ (by omega) (by omega) ?_
    rw [Int.mul_sub, Int.mul_sub]; omega
theorem join_limbs {k n : Int} (h2 : 2 ≤ k) (h0 : 0 ≤ n) (h9 : n ≤ 100) {R : List Int} (hR : normalZ R = limbsZ k (n / 2 ^ k.toNat)) : normalZ (n % 2 ^ k.toNat :: R) = limbsZ k n := by
  have hM := two_pow_ge h2
  have e := Int.mul_ediv_add_emod n (2 ^ k.toNat)
  have q0 := div_ge h0 hM
  rw [normalZ_cons, hR]
  by_cases h : 0 < n
  · have dl := div_lt h hM
    rw [limbs_step h2 h h9]
    by_cases hq : limbsZ k (n / 2 ^ k.toNat) = []
    · have hq' : n / 2 ^ k.toNat = 0 := by have := (limbs_nil h2 (by omega)).mp hq; omega
      rw [if_pos hq, hq]
      rw [hq', Int.mul_zero, Int.zero_add] at e
      rw [e, if_neg (by omega)]
    · rw [if_neg hq]
  · have hn : n = 0 := by omega
    subst hn
    have : limbsZ k (0 / 2 ^ k.toNat) = [] := by rw [Int.zero_ediv]; exact limbs_zero (by omega)
    rw [if_pos this, limbs_zero (by omega)]
    simp
theorem sub_limbs {k : Int} (h2 : 2 ≤ k) : ∀ (m : Nat) (a b c : Int), (c = 0 ∨ c = 1) → 0 ≤ a → a ≤ m → a ≤ 100 → 0 ≤ b → b + c ≤ a → normalZ (subR (2 ^ k.toNat) c (limbsZ k a) (limbsZ k b)) = limbsZ k (a - b - c) := by
  have hM := two_pow_ge h2
  intro m
  induction m with
  | zero =>
    intro a b c hc h0 hm h9 hb hbc
    rw [limbs_zero (show ¬ 0 < a by omega), subR_n, limbs_zero (by omega)]; rfl
  | succ m ih =>
    intro a b c hc h0 hm h9 hb hbc
    have g0 : 0 ≤ a - b - c := by clear ih; omega
    have g9 : a - b - c ≤ 100 := by clear ih hM hbc g0; omega
    have gb : b ≤ 100 := by clear ih hM hb g0 g9; omega
    by_cases h : 0 < a
    · have da := div_lt h hM
      have q1 : a / 2 ^ k.toNat ≤ m := by clear ih hM hbc g0 g9 gb hc hb h9 h0; omega
      have q2 : a / 2 ^ k.toNat ≤ 100 := by clear ih hM hbc g0 g9 gb hc hb hm h0 q1; omega
      have D := @digit a b c _ hM hc
      have hc' : (if a % 2 ^ k.toNat - c - b % 2 ^ k.toNat < 0 then (1 : Int) else 0) = 0 ∨ (if a % 2 ^ k.toNat - c - b % 2 ^ k.toNat < 0 then (1 : Int) else 0) = 1 := by split <;> simp
      have q0 := div_ge g0 hM
      have IH := ih (a / 2 ^ k.toNat) (b / 2 ^ k.toNat) _ hc' (div_ge h0 hM) q1 q2 (div_ge hb hM) (by omega)
      rw [D.2] at IH
      have J := join_limbs h2 g0 g9 IH
      rw [← D.1] at J
      by_cases h' : 0 < b
      · rw [limbs_step h2 h h9, limbs_step h2 h' gb, subR_cc]
        exact J
      · have hb0 : b = 0 := by omega
        subst hb0
        rw [Int.zero_emod, Int.zero_ediv, limbs_zero (show ¬ (0 : Int) < 0 by omega)] at J
        rw [limbs_step h2 h h9, limbs_zero (show ¬ (0 : Int) < 0 by omega), subR_cn]
        exact J
    · have ea : a = 0 := by omega
      subst ea
      rw [limbs_zero (by omega), subR_n, limbs_zero (by omega)]; rfl
theorem subZ_limbs {k a b : Int} (h2 : 2 ≤ k) (hb : 0 ≤ b) (h : b ≤ a) (h9 : a ≤ 100) : subZ k (limbsZ k a) (limbsZ k b) = limbsZ k (a - b) := by
  have := sub_limbs h2 a.toNat a b 0 (.inl rfl) (by omega) (by omega) h9 hb (by omega)
  rw [Int.sub_zero] at this
  exact this
theorem limbs_one {k : Int} (h2 : 2 ≤ k) : limbsZ k 1 = [1] := by
  have hM := two_pow_ge h2
  rw [limbs_step h2 (by decide) (by decide), Int.emod_eq_of_lt (by decide) (by omega), Int.ediv_eq_zero_of_lt (by decide) (by omega), limbs_zero (by decide)]
/-- all that the walk of _law_below_right asks, from numbers alone -/
structure BPure (k b n p : Int) : Prop where
  hbl : 0 < (limbsZ k b).length
  hbL : (limbsZ k b).length ≤ 100
  hms : subZ k (limbsZ k b) [1] = limbsZ k (b - 1)
  hml : (limbsZ k (b - 1)).length ≤ 200
  hbit : bitsZ k (limbsZ k (b - 1)) = n
  hc1 : 0 ≤ cmpZ (limbsZ k b) [1]
  hFacts : ∀ t, 0 ≤ t → t < p → LimbOk k n t
  hcmp : ∀ t, 0 ≤ t → t < p → (cmpZ (limbsZ k t) (limbsZ k b) < 0 ↔ t < b)
  hsub : ∀ t, b ≤ t → t < p → subZ k (limbsZ k t) (limbsZ k b) = limbsZ k (t - b)
theorem b_pure {k b n p : Int} (h2 : 2 ≤ k) (h8 : k ≤ 8) (hb1 : 1 ≤ b) (hb9 : b ≤ 60) (hn : sizeZ (b - 1) = n) (hP : 2 ^ n.toNat = p) (n0 : 0 ≤ n) (n6 : n ≤ 6) (hp9 : p ≤ 64) : BPure k b n p := by
  have B := limb_base h2 h8 (show 0 ≤ b by omega) (by omega)
  have B1 := limb_base h2 h8 (show 0 ≤ b - 1 by omega) (by omega)
  have cmp : ∀ x y : Int, 0 ≤ x → 0 ≤ y → x ≤ 100 → y ≤ 100 → cmpZ (limbsZ k x) (limbsZ k y) = if x < y then -1 else if y < x then 1 else 0 := fun x y hx hy hx9 hy9 => cmp_limbs h2 x.toNat x y hx (by omega) hy hx9 hy9
  refine ⟨by have := B.pos; omega, Nat.le_trans B.len (by decide), ?_, Nat.le_trans B1.len (by decide), by rw [B1.bits]; exact hn, ?_, fun t h0 h1 => limb_ok h2 h8 n0 n6 h0 (by omega) (by omega), fun t h0 h1 => ?_, fun t h0 h1 => subZ_limbs h2 (by omega) h0 (by omega)⟩
  · rw [← limbs_one h2]; exact subZ_limbs h2 (by decide) hb1 (by omega)
  · rw [← limbs_one h2, cmp b 1 (by omega) (by decide) (by omega) (by decide)]
    split
    · omega
    · split <;> decide
  · rw [cmp t b h0 (by omega) (by omega) (by omega)]
    by_cases q : t < b
    · simp [q]
    · by_cases q' : b < t
      · simp [q, q']
      · simp [q, q']
/-- the size of b - 1, and its power of two -/
theorem size_pow {b : Int} (hb1 : 1 ≤ b) (hb9 : b ≤ 60) : 0 ≤ sizeZ (b - 1) ∧ sizeZ (b - 1) ≤ 6 ∧ b ≤ 2 ^ (sizeZ (b - 1)).toNat ∧ (2 : Int) ^ (sizeZ (b - 1)).toNat ≤ 64 ∧ (sizeZ (b - 1) = 0 → b = 1) := by
  obtain ⟨i, e⟩ : ∃ i : Nat, b = (i : Int) + 1 := ⟨(b - 1).toNat, by omega⟩
  subst e
  have e2 : (i : Int) + 1 - 1 = (i : Int) := by omega
  rw [e2, sizeZ_is]
  have h : (List.range 60).all (fun i => decide (0 ≤ sizeF 100 (i : Int) ∧ sizeF 100 (i : Int) ≤ 6 ∧ (i : Int) + 1 ≤ 2 ^ (sizeF 100 (i : Int)).toNat ∧ (2 : Int) ^ (sizeF 100 (i : Int)).toNat ≤ 64 ∧ (sizeF 100 (i : Int) = 0 → (i : Int) + 1 = 1))) = true := by decide +kernel
  have := List.all_eq_true.mp h i (List.mem_range.mpr (by omega))
  exact of_decide_eq_true this
end Mine
end

section
open PySem PySem.W PyProof.Rows
set_option maxRecDepth 100000
namespace Mine
/-- one digit of a sum -/
theorem digit_add {a b c M : Int} (hM : 2 ≤ M) (h0 : 0 ≤ c) (hc : c ≤ 1) :
    (c + (a % M + b % M)) % M = (a + b + c) % M ∧ a / M + b / M + (c + (a % M + b % M)) / M = (a + b + c) / M ∧ 0 ≤ (c + (a % M + b % M)) / M ∧ (c + (a % M + b % M)) / M ≤ 1 := by
  have ea := Int.mul_ediv_add_emod a M
  have eb := Int.mul_ediv_add_emod b M
  have ra := Int.emod_nonneg a (show M ≠ 0 by omega)
  have rb := Int.emod_nonneg b (show M ≠ 0 by omega)
  have la := Int.emod_lt_of_pos a (show 0 < M by omega)
  have lb := Int.emod_lt_of_pos b (show 0 < M by omega)
  have e : a + b + c = M * (a / M + b / M) + (c + (a % M + b % M)) := by rw [Int.mul_add]; omega
  refine ⟨?_, ?_, Int.ediv_nonneg (by omega) (by omega), ?_⟩
  · rw [e, Int.mul_add_emod_self_left]
  · rw [e, Int.mul_add_ediv_left _ _ (by omega)]
  · have : (c + (a % M + b % M)) / M < 2 := Int.ediv_lt_of_lt_mul (by omega) (by omega)
    omega
theorem add_limbs {k : Int} (h2 : 2 ≤ k) : ∀ (m : Nat) (a b c : Int), 0 ≤ c → c ≤ 1 → 0 ≤ a → 0 ≤ b → a + b ≤ m → a + b + c ≤ 100 → addR (2 ^ k.toNat) c (limbsZ k a) (limbsZ k b) = limbsZ k (a + b + c) := by
  have hM := two_pow_ge h2
  intro m
  induction m with
  | zero =>
    intro a b c hc0 hc1 ha hb hm h9
    have ea : a = 0 := by omega
    have eb : b = 0 := by omega
    subst ea eb
    rw [limbs_zero (show ¬ (0 : Int) < 0 by omega), addR_nn]
    by_cases h : 0 < c
    · have : c = 1 := by omega
      subst this
      rw [if_pos h]; exact (limbs_one h2).symm
    · rw [if_neg h, limbs_zero (by omega)]
  | succ m ih =>
    intro a b c hc0 hc1 ha hb hm h9
    by_cases hs : 0 < a + b
    · have D := @digit_add a b c _ hM hc0 hc1
      have da : a / 2 ^ k.toNat ≤ a := Int.ediv_le_self _ ha
      have db : b / 2 ^ k.toNat ≤ b := Int.ediv_le_self _ hb
      have da' : 0 < a → a / 2 ^ k.toNat < a := fun h => div_lt h hM
      have db' : 0 < b → b / 2 ^ k.toNat < b := fun h => div_lt h hM
      have d3 := div_lt (show 0 < a + b + c by omega) hM
      have IH := ih (a / 2 ^ k.toNat) (b / 2 ^ k.toNat) _ D.2.2.1 D.2.2.2 (div_ge ha hM) (div_ge hb hM) (by omega) (by omega)
      rw [D.2.1] at IH
      have J : (a + b + c) % 2 ^ k.toNat :: limbsZ k ((a + b + c) / 2 ^ k.toNat) = limbsZ k (a + b + c) := (limbs_step h2 (by omega) h9).symm
      rw [← J, ← D.1, ← IH]
      by_cases pa : 0 < a
      · rw [limbs_step h2 pa (by omega)]
        by_cases pb : 0 < b
        · rw [limbs_step h2 pb (by omega), addR_cc]
        · have eb : b = 0 := by omega
          subst eb
          rw [Int.zero_ediv, Int.zero_emod, Int.add_zero, limbs_zero (show ¬ (0 : Int) < 0 by omega), addR_cn]
      · have ea : a = 0 := by omega
        subst ea
        rw [Int.zero_ediv, Int.zero_emod, Int.zero_add, limbs_zero (show ¬ (0 : Int) < 0 by omega), limbs_step h2 (show 0 < b by omega) (by omega), addR_nc]
    · have ea : a = 0 := by omega
      have eb : b = 0 := by omega
      exact ih a b c hc0 hc1 ha hb (by omega) h9
theorem limbs_inc {k a : Int} (h2 : 2 ≤ k) (h0 : 0 ≤ a) (h9 : a ≤ 98) : addZ k (limbsZ k a) [1] = limbsZ k (a + 1) := by
  have := add_limbs h2 (a + 1).toNat a 1 0 (by omega) (by omega) h0 (by omega) (by omega) (by omega)
  rw [limbs_one h2, Int.add_zero] at this
  exact this
theorem limbs_small {k a : Int} (h2 : 2 ≤ k) (h0 : 0 < a) (h3 : a ≤ 3) : limbsZ k a = [a] := by
  have h4 : (4 : Int) ≤ 2 ^ k.toNat := by
    obtain ⟨j, e⟩ : ∃ j, k.toNat = j + 2 := ⟨k.toNat - 2, (Nat.sub_add_cancel ((Int.le_toNat (Int.le_trans (by decide) h2)).mpr h2)).symm⟩
    rw [e, Int.pow_succ, Int.pow_succ]
    have := kbt_pos j
    omega
  rw [limbs_step h2 h0 (by omega), Int.emod_eq_of_lt (by omega) (by omega), Int.ediv_eq_zero_of_lt (by omega) (by omega), limbs_zero (by decide)]
/-- n bits to the right, as the program reckons it -/
noncomputable def shrD (k n : Int) (xs : List Int) (i : Nat) : Int := Builtin.bitAnd (Builtin.bitOr ((xs.getD i 0).fdiv (2 ^ (n.fmod k).toNat)) (xs.getD (i + 1) 0 * 2 ^ (k - n.fmod k).toNat)) (1 * 2 ^ k.toNat - 1)
noncomputable def shrZ (k n : Int) (xs : List Int) : List Int := normalZ ((List.range (xs.length - (n.fdiv k).toNat)).map fun i => shrD k n xs ((n.fdiv k).toNat + i))
noncomputable def lawB (k n t : Nat) : Bool := let l := limbsF (2 ^ k) 100 (t : Int); (lowZ (k : Int) (n : Int) l == limbsF (2 ^ k) 100 ((t : Int) % 2 ^ n)) && (shrZ (k : Int) (n : Int) l == limbsF (2 ^ k) 100 ((t : Int) / 2 ^ n))
theorem lawA : ∀ k ∈ [2, 3, 4, 5, 6, 7, 8], (List.range 4).all (fun n => (List.range 20).all (lawB k n)) = true := by decide +kernel
theorem law_limbs {k n t : Int} (h2 : 2 ≤ k) (h8 : k ≤ 8) (n0 : 0 ≤ n) (n3 : n ≤ 3) (t0 : 0 ≤ t) (t9 : t < 20) : lowZ k n (limbsZ k t) = limbsZ k (t % 2 ^ n.toNat) ∧ shrZ k n (limbsZ k t) = limbsZ k (t / 2 ^ n.toNat) := by
  obtain ⟨j, rfl, hj⟩ := k_of h2 h8
  obtain ⟨i, rfl⟩ : ∃ i : Nat, t = (i : Int) := ⟨t.toNat, by omega⟩
  obtain ⟨m, rfl⟩ : ∃ m : Nat, n = (m : Int) := ⟨n.toNat, by omega⟩
  have h := List.all_eq_true.mp (lawA j hj) m (List.mem_range.mpr (by omega))
  have h := List.all_eq_true.mp h i (List.mem_range.mpr (by omega))
  simp only [lawB, Bool.and_eq_true, beq_iff_eq] at h
  simp only [limbsZ_is, Int.toNat_natCast]
  exact h
structure ShrInv (k n : Int) (a f : List Int) : Prop where
  is : f = (List.range f.length).map fun i => shrD k n a ((n.fdiv k).toNat + i)
theorem ShrInv.start {k n : Int} {a : List Int} : ShrInv k n a [] := ⟨rfl⟩
theorem small_of2 {xs : List Int} {i : Nat} (h : ∀ z ∈ xs, 0 ≤ z ∧ z < 256) (_ : i < xs.length) : (xs.getD i 0).natAbs < 2 ^ 64 := by
  have := h _ (getD_in (by assumption)); omega
theorem ShrInv.snoc {k n : Int} {a f : List Int} (I : ShrInv k n a f) {z : Int} (hz : z = shrD k n a ((n.fdiv k).toNat + f.length)) : ShrInv k n a (f ++ [z]) := by
  refine ⟨?_⟩
  rw [len_snoc, List.range_succ, List.map_append, ← I.is, hz]; rfl
theorem sub_is {q : Int} {l : Nat} (hq : 0 ≤ q) : ((l : Int) - q).toNat = l - q.toNat := by
  obtain ⟨Q, rfl⟩ := Int.eq_ofNat_of_zero_le hq
  rw [Int.toNat_sub, Int.toNat_natCast]
theorem kn_is {q kN : Int} {l : Nat} (hq : 0 ≤ q) (e : kN = q + (l : Int)) : kN.toNat = q.toNat + l := by
  obtain ⟨Q, rfl⟩ := Int.eq_ofNat_of_zero_le hq
  rw [e, ← Int.natCast_add, Int.toNat_natCast, Int.toNat_natCast]
theorem kn_is1 {q kN : Int} {l : Nat} (hq : 0 ≤ q) (e : kN = q + (l : Int)) : (kN + 1).toNat = q.toNat + l + 1 :=
  kn_is (l := l + 1) hq (by rw [e, Int.add_assoc]; rfl)
section
variable {k n kN : Int} {a f pre : List Int} (hkN : kN = n.fdiv k + (pre.length : Int)) (hq : 0 ≤ n.fdiv k) (hlt : pre.length < ((a.length : Int) - n.fdiv k).toNat) (h : f.length = pre.length) (I : ShrInv k n a f)
include hkN hq hlt h I
theorem shr_turn1 (_hb : kN + 1 < (a.length : Int)) :
    (f ++ [Builtin.bitAnd (Builtin.bitOr ((a.getD kN.toNat 0).fdiv (2 ^ (n.fmod k).toNat)) (a.getD (kN + 1).toNat 0 * 2 ^ (k - n.fmod k).toNat)) (1 * 2 ^ k.toNat - 1)]).length = (pre ++ [kN]).length ∧ (f ++ [Builtin.bitAnd (Builtin.bitOr ((a.getD kN.toNat 0).fdiv (2 ^ (n.fmod k).toNat)) (a.getD (kN + 1).toNat 0 * 2 ^ (k - n.fmod k).toNat)) (1 * 2 ^ k.toNat - 1)]).length ≤ a.length ∧ ShrInv k n a (f ++ [Builtin.bitAnd (Builtin.bitOr ((a.getD kN.toNat 0).fdiv (2 ^ (n.fmod k).toNat)) (a.getD (kN + 1).toNat 0 * 2 ^ (k - n.fmod k).toNat)) (1 * 2 ^ k.toNat - 1)]) := by
  have hl' : f.length + 1 ≤ a.length := by rw [sub_is hq] at hlt; rw [h]; exact Nat.le_trans hlt (Nat.sub_le _ _)
  refine ⟨by rw [len_snoc, len_snoc, h], by rw [len_snoc]; exact hl', I.snoc ?_⟩
  rw [shrD, show kN.toNat = (n.fdiv k).toNat + f.length from kn_is hq (by rw [h]; exact hkN), show (kN + 1).toNat = (n.fdiv k).toNat + f.length + 1 from kn_is1 hq (by rw [h]; exact hkN)]
theorem shr_turn2 (hb : ¬ kN + 1 < (a.length : Int)) :
    (f ++ [Builtin.bitAnd (Builtin.bitOr ((a.getD kN.toNat 0).fdiv (2 ^ (n.fmod k).toNat)) (0 * 2 ^ (k - n.fmod k).toNat)) (1 * 2 ^ k.toNat - 1)]).length = (pre ++ [kN]).length ∧ (f ++ [Builtin.bitAnd (Builtin.bitOr ((a.getD kN.toNat 0).fdiv (2 ^ (n.fmod k).toNat)) (0 * 2 ^ (k - n.fmod k).toNat)) (1 * 2 ^ k.toNat - 1)]).length ≤ a.length ∧ ShrInv k n a (f ++ [Builtin.bitAnd (Builtin.bitOr ((a.getD kN.toNat 0).fdiv (2 ^ (n.fmod k).toNat)) (0 * 2 ^ (k - n.fmod k).toNat)) (1 * 2 ^ k.toNat - 1)]) := by
  have e : a.getD (kN + 1).toNat 0 = 0 := by rw [List.getD_eq_getElem?_getD, List.getElem?_eq_none (by clear hlt; omega)]; rfl
  have hl' : f.length + 1 ≤ a.length := by rw [sub_is hq] at hlt; rw [h]; exact Nat.le_trans hlt (Nat.sub_le _ _)
  refine ⟨by rw [len_snoc, len_snoc, h], by rw [len_snoc]; exact hl', I.snoc ?_⟩
  rw [shrD, show kN.toNat = (n.fdiv k).toNat + f.length from kn_is hq (by rw [h]; exact hkN), show (n.fdiv k).toNat + f.length + 1 = (kN + 1).toNat from (kn_is1 hq (by rw [h]; exact hkN)).symm, e]
end
theorem shr_end {k n : Int} {a f : List Int} (hq : 0 ≤ n.fdiv k) (h : f.length = (rangeKs (n.fdiv k) ((a.length : Int) - n.fdiv k).toNat).length) (I : ShrInv k n a f) : normalZ f = shrZ k n a := by
  rw [rangeKs_length] at h
  rw [shrZ, I.is, h, show ((a.length : Int) - n.fdiv k).toNat = a.length - (n.fdiv k).toNat from sub_is hq]
theorem fmod_one (n : Int) : n.fmod 1 = 0 := by rw [Int.fmod_eq_emod_of_nonneg _ (by decide)]; exact Int.emod_one n
theorem one_small : ∀ z ∈ ([1] : List Int), 0 ≤ z ∧ z < 256 := by intro z hz; rw [List.mem_singleton.mp hz]; decide
theorem two_small : ∀ z ∈ ([2] : List Int), 0 ≤ z ∧ z < 256 := by intro z hz; rw [List.mem_singleton.mp hz]; decide
theorem one_lt {k : Int} (h2 : 2 ≤ k) : ∀ z ∈ ([1] : List Int), 0 ≤ z ∧ z < 2 ^ k.toNat := by
  have := two_pow_ge h2
  intro z hz; rw [List.mem_singleton.mp hz]; omega
theorem shl_one0 {k : Int} (h2 : 2 ≤ k) : shlZ k 0 [1] = [1] := shl0 (one_lt h2)
theorem shl_one1 {k : Int} (h2 : 2 ≤ k) : shlZ k 1 [1] = [2] := by
  have h4 : (4 : Int) ≤ 2 ^ k.toNat := by
    obtain ⟨j, e⟩ : ∃ j, k.toNat = j + 2 := ⟨k.toNat - 2, (Nat.sub_add_cancel ((Int.le_toNat (Int.le_trans (by decide) h2)).mpr h2)).symm⟩
    rw [e, Int.pow_succ, Int.pow_succ]
    have := kbt_pos j
    omega
  have e : Builtin.bitOr 0 (1 * 2 ^ (1 : Int).toNat) = 2 := by decide
  rw [shlZ, shlR_c, e, Int.emod_eq_of_lt (by decide) (by omega), Int.ediv_eq_zero_of_lt (by decide) (by omega)]
  rfl
theorem add_01 {k : Int} (h2 : 2 ≤ k) : addZ k [] [1] = [1] := add0 (one_lt h2)
theorem add_12 {k : Int} (h2 : 2 ≤ k) : addZ k [1] [2] = [3] := by
  rw [addZ_comm, ← limbs_small h2 (show (0 : Int) < 2 by decide) (by decide), limbs_inc h2 (by decide) (by decide)]
  exact limbs_small h2 (by decide) (by decide)
theorem low_3 {k : Int} (h2 : 2 ≤ k) (h8 : k ≤ 8) : lowZ k 2 [3] = [3] := by
  rw [← limbs_small h2 (show (0 : Int) < 3 by decide) (by decide)]
  exact limb_low h2 h8 (by decide) (by decide) (by decide) (by decide)
theorem b4 {k : Int} (h2 : 2 ≤ k) (h8 : k ≤ 8) : BPure k 4 2 4 := b_pure h2 h8 (by decide) (by decide) (by rw [sizeZ_is]; decide +kernel) (by decide) (by decide) (by decide) (by decide)
theorem sub4 {k : Int} (h2 : 2 ≤ k) (h8 : k ≤ 8) : subZ k (limbsZ k 4) [1] = [3] := by rw [(b4 h2 h8).hms]; exact limbs_small h2 (by decide) (by decide)
theorem bits3 {k : Int} (h2 : 2 ≤ k) (h8 : k ≤ 8) : bitsZ k [3] = 2 := by
  have := (b4 h2 h8).hbit
  rw [show (4 : Int) - 1 = 3 by decide, limbs_small h2 (by decide) (by decide)] at this
  exact this
theorem cmp34 {k : Int} (h2 : 2 ≤ k) : cmpZ [3] (limbsZ k 4) = -1 := by
  rw [← limbs_small h2 (show (0 : Int) < 3 by decide) (by decide), cmp_limbs h2 3 3 4 (by decide) (by decide) (by decide) (by decide) (by decide)]; rfl
theorem len4 {k : Int} (h2 : 2 ≤ k) (h8 : k ≤ 8) : 0 < (limbsZ k 4).length ∧ (limbsZ k 4).length ≤ 100 := ⟨(b4 h2 h8).hbl, (b4 h2 h8).hbL⟩
theorem ints_one {us : List Value} {z : Int} (h : IntsAre us [z]) : ∃ t, us = [.int z t] := by
  cases h with
  | cons _ t h => cases h; exact ⟨t, rfl⟩
end Mine
end

section
open PySem PySem.W PyProof.Rows
namespace Mine
theorem dig_and {k p : Int} (g : 0 ≤ p ∧ p < 2 ^ k.toNat) : Builtin.bitAnd (0 + (0 + p * 1)) (1 * 2 ^ k.toNat - 1) = p := by
  rw [mask_is, Int.zero_add, Int.zero_add, Int.mul_one, Int.emod_eq_of_lt g.1 g.2]
theorem dig_div {k p : Int} (g : 0 ≤ p ∧ p < 2 ^ k.toNat) : (0 + (0 + p * 1)).fdiv (2 ^ k.toNat) = 0 := by
  rw [fdiv_is, Int.zero_add, Int.zero_add, Int.mul_one, Int.ediv_eq_zero_of_lt g.1 g.2]
theorem mul0_pure {us : List Value} (I : IntsAre us (normalZ [0])) : IntsAre us [] := I
theorem mul1_pure {us : List Value} {k p0 : Int} (g0 : 0 ≤ p0 ∧ p0 < 2 ^ k.toNat) (hp : p0 ≠ 0)
    (I : IntsAre us (normalZ [Builtin.bitAnd (0 + (0 + p0 * 1)) (1 * 2 ^ k.toNat - 1), (0 + (0 + p0 * 1)).fdiv (2 ^ k.toNat)])) : IntsAre us [p0] := by
  rw [dig_and g0, dig_div g0] at I
  have e : normalZ [p0, 0] = [p0] := by rw [normalZ_cons, show normalZ [0] = [] from rfl, if_pos rfl, if_neg hp]
  rw [e] at I; exact I
theorem mul2_pure {us : List Value} {k p0 p1 : Int} (g0 : 0 ≤ p0 ∧ p0 < 2 ^ k.toNat) (g1 : 0 ≤ p1 ∧ p1 < 2 ^ k.toNat) (hp : p1 ≠ 0)
    (I : IntsAre us (normalZ [Builtin.bitAnd (0 + (0 + p0 * 1)) (1 * 2 ^ k.toNat - 1), Builtin.bitAnd (0 + ((0 + (0 + p0 * 1)).fdiv (2 ^ k.toNat) + p1 * 1)) (1 * 2 ^ k.toNat - 1), (0 + ((0 + (0 + p0 * 1)).fdiv (2 ^ k.toNat) + p1 * 1)).fdiv (2 ^ k.toNat)])) : IntsAre us [p0, p1] := by
  rw [dig_and g0, dig_div g0, dig_and g1, dig_div g1] at I
  have e : normalZ [p0, p1, 0] = [p0, p1] := by
    rw [normalZ_cons, normalZ_cons, show normalZ [0] = [] from rfl, if_pos rfl, if_neg hp]
    simp
  rw [e] at I; exact I
/-- a number below 8, by its limbs -/
theorem limbs_three {k a : Int} (h2 : 2 ≤ k) (h0 : 0 ≤ a) (h9 : a < 8) : (a = 0 ∧ limbsZ k a = []) ∨ (0 < a ∧ a < 2 ^ k.toNat ∧ limbsZ k a = [a]) ∨ (0 < a / 2 ^ k.toNat ∧ a / 2 ^ k.toNat < 2 ^ k.toNat ∧ 0 ≤ a % 2 ^ k.toNat ∧ a % 2 ^ k.toNat < 2 ^ k.toNat ∧ limbsZ k a = [a % 2 ^ k.toNat, a / 2 ^ k.toNat]) := by
  have h4 : (4 : Int) ≤ 2 ^ k.toNat := by
    obtain ⟨j, e⟩ : ∃ j, k.toNat = j + 2 := ⟨k.toNat - 2, (Nat.sub_add_cancel ((Int.le_toNat (Int.le_trans (by decide) h2)).mpr h2)).symm⟩
    rw [e, Int.pow_succ, Int.pow_succ]
    have := kbt_pos j
    omega
  by_cases hz : 0 < a
  · rw [limbs_step h2 hz (by omega)]
    by_cases hl : a < 2 ^ k.toNat
    · refine .inr (.inl ⟨hz, hl, ?_⟩)
      rw [Int.emod_eq_of_lt h0 hl, Int.ediv_eq_zero_of_lt h0 hl, limbs_zero (by decide)]
    · have q1 : a / 2 ^ k.toNat < 2 := Int.ediv_lt_of_lt_mul (by omega) (by omega)
      have q2 : 1 ≤ a / 2 ^ k.toNat := (Int.le_ediv_iff_mul_le (by omega)).mpr (by omega)
      refine .inr (.inr ⟨by omega, by omega, Int.emod_nonneg _ (by omega), Int.emod_lt_of_pos _ (by omega), ?_⟩)
      have r0 : (0 : Int) ≤ a / 2 ^ k.toNat := by omega
      have r1 : a / 2 ^ k.toNat < 2 ^ k.toNat := by omega
      have e1 : a / 2 ^ k.toNat % 2 ^ k.toNat = a / 2 ^ k.toNat := Int.emod_eq_of_lt r0 r1
      have e2 : a / 2 ^ k.toNat / 2 ^ k.toNat = 0 := Int.ediv_eq_zero_of_lt r0 r1
      rw [limbs_step h2 (show 0 < a / 2 ^ k.toNat by omega) (by omega), e1, e2, limbs_zero (by decide)]
  · exact .inl ⟨by omega, limbs_zero hz⟩
end Mine
end

section
open PySem PySem.W PyProof.Rows
namespace Mine
section
variable {E k : Int} (e0 : 0 ≤ E) (e1 : E ≤ 1)
include e0 e1
theorem cg_pow : (2 : Int) ^ (2 + E).toNat = 4 ∨ (2 : Int) ^ (2 + E).toNat = 8 := by
  have h : E = 0 ∨ E = 1 := by omega
  rcases h with rfl | rfl
  · exact .inl rfl
  · exact .inr rfl
theorem cg_mod (n : Int) : 0 ≤ n.fmod (2 ^ (2 + E).toNat) ∧ n.fmod (2 ^ (2 + E).toNat) < 8 := by
  have h := cg_pow e0 e1
  have a := @fmod_pos n (2 ^ (2 + E).toNat) (by omega)
  omega
theorem cg_many : (2 + E).fdiv 2 = 1 := by
  have h : E = 0 ∨ E = 1 := by omega
  rcases h with rfl | rfl <;> decide
theorem cg_low (h2 : 2 ≤ k) (h8 : k ≤ 8) {t : Int} (t0 : 0 ≤ t) (t9 : t < 20) : lowZ k (2 + E) (limbsZ k t) = limbsZ k (t.fmod (2 ^ (2 + E).toNat)) := by
  rw [(law_limbs h2 h8 (by omega) (by omega) t0 t9).1, Int.fmod_eq_emod_of_nonneg _ (by have := cg_pow e0 e1; omega)]
theorem cg_shr (h2 : 2 ≤ k) (h8 : k ≤ 8) {t : Int} (t0 : 0 ≤ t) (t9 : t < 8) : shrZ k (2 + E - 1) (limbsZ k t) = limbsZ k (t.fdiv (2 ^ (1 + E).toNat)) := by
  have e : (2 + E - 1).toNat = (1 + E).toNat := congrArg Int.toNat (by omega)
  rw [(law_limbs h2 h8 (by omega) (by omega) t0 (by omega)).2, e, Int.fdiv_eq_ediv_of_nonneg _ (Int.le_of_lt (kbt_pos _))]
theorem cg_div {t : Int} (t0 : 0 ≤ t) (t9 : t < 8) : 0 ≤ t.fdiv (2 ^ (1 + E).toNat) ∧ t.fdiv (2 ^ (1 + E).toNat) < 8 := by
  have p := kbt_pos (1 + E).toNat
  have a := fdiv_ge t0 p
  have b := fdiv_le t0 p
  omega
theorem cg_inc (n : Int) : (n.fmod (2 ^ (2 + E).toNat) + 1).fmod (2 ^ (2 + E).toNat) = (n + 1).fmod (2 ^ (2 + E).toNat) := by
  have h := Int.le_of_lt (kbt_pos (2 + E).toNat)
  rw [Int.fmod_eq_emod_of_nonneg _ h, Int.fmod_eq_emod_of_nonneg _ h, Int.fmod_eq_emod_of_nonneg _ h]
  exact Int.emod_add_emod _ _ _
end
theorem limb_small {k t : Int} (h2 : 2 ≤ k) (h8 : k ≤ 8) (t0 : 0 ≤ t) (t9 : t < 20) : (limbsZ k t).length ≤ 3 ∧ (∀ z ∈ limbsZ k t, 0 ≤ z ∧ z < 256) ∧ worthE k (limbsZ k t) = t := by
  have B := limb_base h2 h8 t0 (by omega)
  exact ⟨B.len, fun z hz => ⟨(B.dig z hz).1, Int.lt_of_lt_of_le (B.dig z hz).2 (pow256 h8)⟩, B.worth⟩
end Mine
namespace Mine
theorem fm_idem (n P : Int) (h : 0 < P) : (n.fmod P).fmod P = n.fmod P := by
  have a := @fmod_pos n P h
  exact fmod_small a.1 a.2
theorem led2_off {own tl : List (Addr × Obj)} {r r' dx : Addr} {o1 o2 : Obj} (hr : ∀ q ∈ own, r' ≠ q.1) (ho : OwnOff own (r :: dx :: tl.map (·.1))) :
    ∀ p ∈ (r', o1) :: (dx, o2) :: tl, ∀ q ∈ own, p.1 ≠ q.1 := by
  intro p hp q hq e
  rcases List.mem_cons.mp hp with rfl | hp
  · exact hr q hq e
  rcases List.mem_cons.mp hp with rfl | hp
  · exact ho q hq _ (.tail _ (.head _)) e.symm
  · exact ho q hq _ (.tail _ (.tail _ (List.mem_map_of_mem hp))) e.symm
theorem cg_same {v v' t a b : Value} {m₀ u : Str → Option Value} {x f g h z : Str} (h1 : z ≠ x) (h4 : z ≠ f) (h5 : z ≠ g) (h6 : z ≠ h) :
    (if z = h then some b else if z = g then some a else if z = f then some v' else if z = x then some t else kstB (fun z => if ([g, h] : List Str).contains z = true then u z else m₀ z) [(f, v)] z) = m₀ z := by
  rw [if_neg h6, if_neg h5, if_neg h4, if_neg h1]
  show (if z = f then some v else if ([g, h] : List Str).contains z = true then u z else m₀ z) = m₀ z
  rw [if_neg h4]
  simp [h5, h6]
end Mine
namespace Mine
theorem min_le3 {a t : Nat} (h : a = min t ([1, 2, 3] : List Int).length) : a ≤ 3 := by
  rw [h]; exact Nat.min_le_right _ _
theorem pl_bool {b : Bool} {c l : Int} (h : b = true ↔ c < 1 ∨ l ≤ c) (hc : ¬ c < 1) : b = decide (l ≤ c) := by
  by_cases e : l ≤ c
  · rw [h.mpr (.inr e), decide_eq_true e]
  · rw [decide_eq_false e]; exact Bool.eq_false_iff.mpr fun z => (h.mp z).elim hc e
theorem pl_no {P : Prop} {i j : Decidable P} (q : (@decide P i != @decide P j) = true) : False := by
  rw [Subsingleton.elim i j] at q
  revert q; cases @decide P j <;> exact fun z => nomatch z
end Mine
end

section
open PySem PySem.W PySem.Calls PyProof.Rows
namespace Mine
theorem frames_mem {env : Env} {L b : Addr} {outer : List Env} (hf : env.frame = some L) (hm : b ∈ (env :: outer).filterMap (·.frame)) : b = L ∨ b ∈ outer.filterMap (·.frame) := by
  obtain ⟨e, he, hb⟩ := List.mem_filterMap.mp hm
  rcases List.mem_cons.mp he with rfl | he
  · exact .inl (Option.some.inj (hf.symm.trans hb)).symm
  · exact .inr (List.mem_filterMap.mpr ⟨e, he, hb⟩)

/-- how a called body ends that caught something: its ground turned; what comes then stands inside -/
noncomputable def LeaveQ (A₀ : Around) (base : Heap) (outer : List Env) (K : Frag) (p : Program) (loose : List Str) (mean : ExcName → Option Value) (mg mb : Str → Option Value) (fs : List Addr) (h₀ : Heap) (L : Addr) (m : Str → Option Value) (news : List (Addr × Obj)) (g : Heap) (need : List (Addr × Obj)) (Q : Value → Shared → Prop) (v : Value) (s' : Shared) : Prop :=
  ∃ g' L' m', KtsTurn fs g g' ∧ Fr g' L' s'.heap m' ∧ News g' L' s'.heap need ∧
    (∀ h₀', KtsTurn (outer.filterMap (·.frame)) h₀ h₀' → Fr h₀' L s'.heap m → News h₀' L s'.heap news → Below A₀ base outer h₀' → K.In h₀' → Top p loose mean mg mb h₀' → KtsDicts (outer.filterMap (·.frame)) h₀' → Q v s')
theorem leaveQ_ {A₀ : Around} {base : Heap} {outer : List Env} {K : Frag} {p : Program} {loose : List Str} {mean : ExcName → Option Value} {mg mb : Str → Option Value} {fs : List Addr} {h₀ : Heap} {L : Addr} {m : Str → Option Value} {news : List (Addr × Obj)} {g : Heap} {need led : List (Addr × Obj)} {Q : Value → Shared → Prop} {v : Value} {s' : Shared} {g' : Heap} {L' : Addr} {m' : Str → Option Value}
    (F : Fr g' L' s'.heap m') (N : News g' L' s'.heap led) (T : KtsTurn fs g g') (hn : ∀ q ∈ need, q ∈ led)
    (k : ∀ h₀', KtsTurn (outer.filterMap (·.frame)) h₀ h₀' → Fr h₀' L s'.heap m → News h₀' L s'.heap news → Below A₀ base outer h₀' → K.In h₀' → Top p loose mean mg mb h₀' → KtsDicts (outer.filterMap (·.frame)) h₀' → Q v s') :
    LeaveQ A₀ base outer K p loose mean mg mb fs h₀ L m news g need Q v s' := ⟨g', L', m', T, F, fun q hq => N q (hn q hq), k⟩

section
variable {prog : Program} {w : World} {A₀ A : Around} {s : Shared} {base h₀ : Heap} {outer : List Env} {L : Addr} {m : Str → Option Value} {env : Env} {news need : List (Addr × Obj)} {K : Frag} {p : Program} {loose : List Str} {mean : ExcName → Option Value} {mg mb : Str → Option Value}
  {name qual : Str} {params : Arguments} {body : List Stmt} {scope : Scope} {dV kV doc pm cdv ct oc : Value} {an od : Option Addr} {osl : Array (Option Value)} {f : Addr} {pos : List Value} {binds : List (Str × Value)} {Q E : Value → Shared → Prop}

/-- the ground of a frame, turned by what was raised and caught in a call of it -/
theorem turned {h' g' : Heap} {L' : Addr} {m' : Str → Option Value} (B : Below A₀ base outer h₀) (F : Fr h₀ L s.heap m) (N : News h₀ L s.heap news) (XB : K.In base) (TB : Top p loose mean mg mb base) (D : KtsDicts (outer.filterMap (·.frame)) h₀)
    (hsub : ∀ q ∈ need, q ∈ news) (hf : env.frame = some L)
    (T' : KtsTurn ((env :: outer).filterMap (·.frame)) (hideAll s.heap (need.map (·.1))) g') (F' : Fr g' L' h' m') (N' : News g' L' h' need) :
    ∃ h₀', KtsTurn (outer.filterMap (·.frame)) h₀ h₀' ∧ Fr h₀' L h' m ∧ News h₀' L h' news ∧ Below A₀ base outer h₀' ∧ K.In h₀' ∧ Top p loose mean mg mb h₀' ∧ KtsDicts (outer.filterMap (·.frame)) h₀' := by
  have N0 : News h₀ L s.heap need := fun q hq => N q (hsub q hq)
  have nm : ∀ b o, h₀.get? b = some o → b ∉ need.map (·.1) := fun b o e q => by
    obtain ⟨r, hr, rfl⟩ := List.mem_map.mp q
    rw [(N0 r hr).2.2] at e; cases e
  have st : ∀ b o, h₀.get? b = some o → (hideAll s.heap (need.map (·.1))).get? b = some o := fun b o e => hideAll_get _ (F.keep b o e) (nm b o e)
  obtain ⟨oL, es, ep, hL, hLd, hLk, hLf⟩ := F.ns
  have nL : L ∉ need.map (·.1) := fun q => by
    obtain ⟨r, hr, e⟩ := List.mem_map.mp q
    exact (N0 r hr).2.1 e
  have hLg := hideAll_get (need.map (·.1)) hL nL
  have nL₀ : h₀.get? L = none := kts_self F
  obtain ⟨sl, hs⟩ := T'.up hLg
  have notF : ∀ b o, h₀.get? b = some o → b ∉ outer.filterMap (·.frame) → b ∉ (env :: outer).filterMap (·.frame) := fun b o e nmem q => by
    rcases frames_mem hf q with z | z
    · rw [z, nL₀] at e; cases e
    · exact nmem z
  obtain ⟨T₁, S₁⟩ := kts_turn_at (h := h') (fs := outer.filterMap (·.frame)) (g := h₀)
    (fun b hb => by
      obtain ⟨_, o, ho', _⟩ := B.frames.mem hb
      exact ⟨o, ho'⟩)
    (fun b o e nmem => F'.keep b o (T'.other b o (st b o e) (notF b o e nmem)))
    (fun b o e hm => by
      obtain ⟨sl', hs'⟩ := T'.up (st b o e)
      exact ⟨sl', F'.keep _ _ hs'⟩)
  have B₃ : Below A₀ base outer (ktsHeap h' (outer.filterMap (·.frame)) h₀) := ⟨B.stack, fun b o e => T₁.other b o (B.stays b o e) (fun hm => by
    rw [(B.frames.mem hm).1] at e
    cases e), B.frames.of_keeps fun b o e _ => by
    obtain ⟨sl', hs'⟩ := T₁.up e
    exact ⟨_, hs', rfl⟩⟩
  refine ⟨_, T₁, ⟨⟨_, es, ep, F'.keep _ _ hs, hLd, hLk, hLf⟩, S₁, by rw [T₁.size]; exact F.above⟩, fun q hq => ⟨?_, (N q hq).2.1, T₁.none_ _ (N q hq).2.2⟩, B₃, XB.keeps B₃.stays, TB.keeps B₃.stays, D.turn T₁⟩
  by_cases hb : q.1 ∈ need.map (·.1)
  · obtain ⟨r, hr, e⟩ := List.mem_map.mp hb
    have h1 := (N0 r hr).1
    have h2 := (N q hq).1
    rw [e, h2] at h1
    have h3 := (N' r hr).1
    rw [e] at h3
    rw [h3, ← h1]
  · refine F'.keep _ _ (T'.other _ _ (hideAll_get _ (N q hq).1 hb) fun z => ?_)
    rcases frames_mem hf z with z | z
    · exact (N q hq).2.1 z
    · obtain ⟨_, o, ho', _⟩ := B.frames.mem z
      rw [(N q hq).2.2] at ho'; cases ho'

/-- the dicts of the frames, on the ground of a call -/
theorem dicts_in (F : Fr h₀ L s.heap m) (N0 : News h₀ L s.heap need) (D : KtsDicts (outer.filterMap (·.frame)) h₀) (hf : env.frame = some L) : KtsDicts ((env :: outer).filterMap (·.frame)) (hideAll s.heap (need.map (·.1))) := fun b hb => by
  rcases frames_mem hf hb with rfl | hb
  · obtain ⟨oL, es, ep, hL, hLd, hLk, hLf⟩ := F.ns
    exact ⟨oL, es, ep, hideAll_get _ hL fun q => by
      obtain ⟨r, hr, e⟩ := List.mem_map.mp q
      exact (N0 r hr).2.1 e, hLd⟩
  · obtain ⟨o, es', n', ho', hd'⟩ := D b hb
    refine ⟨o, es', n', hideAll_get _ (F.keep b o ho') fun q => ?_, hd'⟩
    obtain ⟨r, hr, rfl⟩ := List.mem_map.mp q
    rw [(N0 r hr).2.2] at ho'; cases ho'

/-- a call of a def that catches: the walk goes on inside its end, on a turned ground -/
theorem call_rQ (need : List (Addr × Obj))
    (B : Below A₀ base outer h₀) (F : Fr h₀ L s.heap m) (X₀ : K.In h₀) (N : News h₀ L s.heap news) (T : Top p loose mean mg mb h₀) (XB : K.In base) (TB : Top p loose mean mg mb base) (D : KtsDicts (outer.filterMap (·.frame)) h₀) (hsub : ∀ q ∈ need, q ∈ news) (hA : A.frames = some (env :: outer)) (hf : env.frame = some L) (hke : env.scope.kind = .function)
    (ho : K.lookup f = some ⟨oc, od, .func (fnOf name qual params body scope dV kV doc pm an cdv ct), osl⟩) (hcd : codeIn K cdv qual = true) (hroom : A.depth < recursionLimit)
    (hbind : BindsTo s (fnOf name qual params body scope dV kV doc pm an cdv ct) ⟨pos, []⟩ binds) (hloc : ∀ y ∈ binds, scope.names.lookup y.1 = some .local)
    (h : ∀ g L' h₁, Fr g L' h₁ (fun y => binds.reverse.lookup y) → News g L' h₁ need → Below A base (env :: outer) g → K.In g → Top p loose mean mg mb g → KtsDicts ((env :: outer).filterMap (·.frame)) g →
      wpAny (model prog w) (A.deeper (envOf qual scope L' f cdv)) (execs body (envOf qual scope L' f cdv))
        (fun fl s' => LeaveQ A₀ base outer K p loose mean mg mb ((env :: outer).filterMap (·.frame)) h₀ L m news g need Q (match fl with | .ret v => v | _ => .none) s') (fun _ _ => False)
        { s with heap := h₁, toks := s.toks + binds.length })
    (hco : scope.isCoroutine = false) (hgen : scope.isGenerator = false) (hk : scope.kind = .function)
    (hcell : ∀ x ∈ scope.names, x.2 ≠ .cell) : wpAny (model prog w) A (call (.ref f) pos) Q E s := by
  have N0 : News h₀ L s.heap need := fun q hq => N q (hsub q hq)
  obtain ⟨FG, BG, st, _⟩ := groundX (R := fun _ _ => True) B F N0 hA hf hke
  refine wpAny_call (codeAny_call_def (fd := fnX name qual params body scope [] dV kV doc pm an cdv ct) (body := body) (binds := binds) hroom ((X₀.keeps F.keep) _ _ ho) rfl (T.nolimit.keeps F.keep) (codeRec_of (X₀.keeps F.keep) hcd) rfl hbind hcell hloc (fun h₁ hns hk₁ => ?_) hco hgen hk)
  refine wpAny_mono (h _ s.heap.objs.size h₁ ⟨hns, fun b o e => hk₁ b o (of_hideAll _ e), Nat.le_of_eq (hideAll_size _ _)⟩
    (fun p hp => ⟨hk₁ _ _ (N0 p hp).1, Nat.ne_of_lt (Heap.lt_size (N0 p hp).1), hideAll_none _ (List.mem_map_of_mem hp)⟩) BG (X₀.keeps st) (T.keeps st) (dicts_in F N0 D hf)) (fun fl s' hl => ?_) fun _ _ y => y.elim
  obtain ⟨g', L', m', T', F', N', k⟩ := hl
  obtain ⟨h₀', a1, a2, a3, a4, a5, a6, a7⟩ := turned B F N XB TB D hsub hf T' F' N'
  exact k h₀' a1 a2 a3 a4 a5 a6 a7
/-- call_rQ with the whole ledger -/
theorem call_rQ1
    (B : Below A₀ base outer h₀) (F : Fr h₀ L s.heap m) (X₀ : K.In h₀) (N : News h₀ L s.heap news) (T : Top p loose mean mg mb h₀) (XB : K.In base) (TB : Top p loose mean mg mb base) (D : KtsDicts (outer.filterMap (·.frame)) h₀) (hA : A.frames = some (env :: outer)) (hf : env.frame = some L) (hke : env.scope.kind = .function)
    (ho : K.lookup f = some ⟨oc, od, .func (fnOf name qual params body scope dV kV doc pm an cdv ct), osl⟩) (hcd : codeIn K cdv qual = true) (hroom : A.depth < recursionLimit)
    (hbind : BindsTo s (fnOf name qual params body scope dV kV doc pm an cdv ct) ⟨pos, []⟩ binds) (hloc : ∀ y ∈ binds, scope.names.lookup y.1 = some .local)
    (h : ∀ g L' h₁, Fr g L' h₁ (fun y => binds.reverse.lookup y) → News g L' h₁ news → Below A base (env :: outer) g → K.In g → Top p loose mean mg mb g → KtsDicts ((env :: outer).filterMap (·.frame)) g →
      wpAny (model prog w) (A.deeper (envOf qual scope L' f cdv)) (execs body (envOf qual scope L' f cdv))
        (fun fl s' => LeaveQ A₀ base outer K p loose mean mg mb ((env :: outer).filterMap (·.frame)) h₀ L m news g news Q (match fl with | .ret v => v | _ => .none) s') (fun _ _ => False)
        { s with heap := h₁, toks := s.toks + binds.length })
    (hco : scope.isCoroutine = false) (hgen : scope.isGenerator = false) (hk : scope.kind = .function)
    (hcell : ∀ x ∈ scope.names, x.2 ≠ .cell) : wpAny (model prog w) A (call (.ref f) pos) Q E s :=
  call_rQ news B F X₀ N T XB TB D (fun _ hq => hq) hA hf hke ho hcd hroom hbind hloc h hco hgen hk hcell
end

section
variable {M : Model} {A : Around} {E : Value → Shared → Prop} {s' : Shared} {base g g₂ : Heap} {outer : List Env} {L a e t : Addr} {m : Str → Option Value} {name : Str} {scope : Scope} {cd : Value} {cl : List (Str × Addr)} {Q : Unit → Shared → Prop} {news : List (Addr × Obj)}
/-- an exception that goes through a frame with a closure -/
theorem leave_onX {cls : Value} {vs : List Value} (K : Below A base outer g) (F : Fr g L g₂ m) (R : RaisedS base g₂ (envX name scope L a cd cl :: outer) e cls t vs news s'.heap) (hsm : g₂.UpToSlots s'.heap)
    (hQ : ∀ h', RaisedS base g outer e cls t vs news h' → RaisedK base outer e cls t vs news h' → g.UpToSlots h' → Q () { s' with heap := h' }) :
    wpAny M (A.deeper (envX name scope L a cd cl)) (leaving (envX name scope L a cd cl) (.ref e)) Q E s' := by
  obtain ⟨⟨B, hB, hBG, hl, hfl, hnew⟩, htup⟩ := R
  refine wpAny_leaves_onW (Around.frames_deeper K.stack) rfl hfl fun h' x1 x2 => ?_
  have R : RaisedS base g outer e cls t vs news h' := ⟨⟨B, hB, fun b o q nm => hBG b o (F.keep b o q) (fun hm => by
    rcases frames_mem rfl hm with z | z
    · rw [z, kts_self F] at q
      cases q
    · exact nm z), fun q hq => ⟨(hl q hq).1, kts_none F.keep (hl q hq).2.1, (hl q hq).2.2⟩, x1, hnew⟩, htup.of_slots x2⟩
  exact hQ h' R R.toK ((Heap.UpToSlots.of_keeps F.keep).trans (hsm.trans x2))
end

/-- how a body ends that was called from the law's own frame: its ground turned, one object changed -/
noncomputable def BodyEndG (fs : List Addr) (g : Heap) (dx : Addr) (rest : List (Addr × Obj)) (P : Obj → Value → Prop) (v : Value) (s s' : Shared) : Prop :=
  ∃ g' L' m' od' h' tk', s' = { s with heap := h', toks := tk' } ∧ KtsTurn fs g g' ∧ Fr g' L' h' m' ∧ News g' L' h' ((dx, od') :: rest) ∧ P od' v
theorem endG {fs : List Addr} {g : Heap} {dx : Addr} {rest led : List (Addr × Obj)} {P : Obj → Value → Prop} {v : Value} {s : Shared} {g' : Heap} {L' : Addr} {m' : Str → Option Value} {od' : Obj} {h' : Heap} {tk : Nat}
    (F : Fr g' L' h' m') (N : News g' L' h' led) (T : KtsTurn fs g g') (hd : (dx, od') ∈ led) (hn : ∀ q ∈ rest, q ∈ led) (hP : P od' v) : BodyEndG fs g dx rest P v s { s with heap := h', toks := tk } :=
  ⟨g', L', m', od', h', tk, rfl, T, F, fun q hq => N q ((List.mem_cons.mp hq).elim (fun e => e ▸ hd) (hn q)), hP⟩
/-- what _law_nothing_right hands back: True, and its table of codes grown -/
noncomputable def OutG (ob' : Obj) (v : Value) : Prop := (∃ ps, ob' = tabObj ps) ∧ v = .bool true
theorem outG {ps : Array Value} : OutG (tabObj ps) (.bool true) := ⟨⟨_, rfl⟩, rfl⟩

section
variable {prog : Program} {w : World} {A₀ A : Around} {s : Shared} {base h₀ : Heap} {L : Addr} {m : Str → Option Value} {env : Env} {news : List (Addr × Obj)} {K : Frag} {p : Program} {loose : List Str} {mean : ExcName → Option Value} {mg mb : Str → Option Value}
  {name qual : Str} {params : Arguments} {body : List Stmt} {scope : Scope} {dV kV doc pm cdv ct oc : Value} {an od : Option Addr} {osl : Array (Option Value)} {f : Addr} {pos : List Value} {binds : List (Str × Value)} {Q E : Value → Shared → Prop}
theorem call_uG {dx : Addr} {ob : Obj} {gl : Obj → List (Addr × Obj)} (rest : List (Addr × Obj)) (P : Obj → Value → Prop)
    (B : Below A₀ base [] h₀) (F : Fr h₀ L s.heap m) (X₀ : K.In h₀) (N : News h₀ L s.heap news) (T : Top p loose mean mg mb h₀) (U : UpdF dx ob news gl) (hsub : ∀ q ∈ rest, q ∈ news) (hA : A.frames = some [env]) (hf : env.frame = some L) (hke : env.scope.kind = .function)
    (ho : K.lookup f = some ⟨oc, od, .func (fnOf name qual params body scope dV kV doc pm an cdv ct), osl⟩) (hcd : codeIn K cdv qual = true) (hroom : A.depth < recursionLimit)
    (hbind : BindsTo s (fnOf name qual params body scope dV kV doc pm an cdv ct) ⟨pos, []⟩ binds) (hkind : (binds.all fun y => scope.names.lookup y.1 == some .local || scope.names.lookup y.1 == some .cell) = true)
    (hnd : ((cellsFrom 0 scope.names []).map (·.1)).Nodup)
    (ret : ∀ v ob' h' tk', Fr h₀ L h' m → News h₀ L h' (gl ob') → P ob' v → Q v { s with heap := h', toks := tk' })
    (h : ∀ g L' h₁ tk cells, Fr g L' h₁ (bindL (envOfC qual scope L' f cdv).kindOf binds fun _ => none) → News g L' h₁ (cells ++ (dx, ob) :: rest) →
      CellsAre (bindC (envOfC qual scope L' f cdv).kindOf binds fun _ => none) (cellsFrom (L' + 1) scope.names []) cells → Below A base [env] g → K.In g → Top p loose mean mg mb g → KtsDicts ([env].filterMap (·.frame)) g → (∀ p ∈ (dx, ob) :: rest, p.1 < L') →
      wpAny (model prog w) (A.deeper (envOfC qual scope L' f cdv)) (execs body (envOfC qual scope L' f cdv))
        (fun fl s' => BodyEndG ([env].filterMap (·.frame)) g dx rest P (match fl with | .ret v => v | _ => .none) { s with heap := h₁, toks := tk } s') (fun _ _ => False)
        { s with heap := h₁, toks := tk })
    (hco : scope.isCoroutine = false) (hgen : scope.isGenerator = false) (hk : scope.kind = .function) : wpAny (model prog w) A (call (.ref f) pos) Q E s := by
  have hdx := (updF_mem (o' := ob) U).1
  have N0 : News h₀ L s.heap ((dx, ob) :: rest) := fun q hq => N q ((List.mem_cons.mp hq).elim (fun e => e ▸ hdx) (hsub q))
  obtain ⟨FG, BG, st, _⟩ := groundX (R := fun _ _ => True) B F N0 hA hf hke
  have hcd' : s.heap.CodeRec cdv qual := (codeRec_of (X₀.keeps F.keep) hcd)
  have hlim := T.nolimit.keeps F.keep
  refine wpAny_call (codeAny_call_function hroom ((X₀.keeps F.keep) _ _ ho) rfl hco hgen rfl hcd' (hbind _ _ _ _ ?_))
  refine wpAny_newFunctionEnv_cells hk (kindsX hkind _) fun env' he s' x => ?_
  subst he
  refine ⟨hlim.keeps x.toInCall.keep, codeAny_func ?_⟩
  obtain ⟨h₁, tk, rfl, _⟩ := x.done
  have hk₁ := x.toInCall.keep
  obtain ⟨cells, NC, Y⟩ := Cl.news (h₀ := s.heap) (Nat.le_refl _) fun n c hm => ⟨x.cell n c (lookup_of_mem_nodup (cellsFrom_names scope.names 0 (s.heap.objs.size + 1) [] [] rfl ▸ hnd) hm), x.above n c hm⟩
  refine wpAny_mono (h _ s.heap.objs.size h₁ tk cells ⟨x.toInCall.ns, fun b o e => hk₁ b o (of_hideAll _ e), Nat.le_of_eq (hideAll_size _ _)⟩
    (fun p hp => ?_) Y BG (X₀.keeps st) (T.keeps st) (dicts_in F N0 (outer := []) ktsDicts_nil hf) (fun p hp => Heap.lt_size (N0 p hp).1)) (fun fl s' hl => ?_) fun _ _ y => y.elim
  · rcases List.mem_append.mp hp with hp | hp
    · refine ⟨(NC p hp).1, (NC p hp).2.1, ?_⟩
      cases q : (hideAll s.heap (((dx, ob) :: rest).map (·.1))).get? p.1 with
      | none => rfl
      | some o => have := of_hideAll _ q; rw [(NC p hp).2.2] at this; cases this
    · exact ⟨hk₁ _ _ (N0 p hp).1, Nat.ne_of_lt (Heap.lt_size (N0 p hp).1), hideAll_none _ (List.mem_map_of_mem hp)⟩
  obtain ⟨g', L', m', ob', h', tk', rfl, T', F', N', hP⟩ := hl
  obtain ⟨oL, es, ep, hL, hLd, hLk, hLf⟩ := F.ns
  have nL : L ∉ ((dx, ob) :: rest).map (·.1) := fun q => by
    obtain ⟨p, hp, e⟩ := List.mem_map.mp q
    exact (N0 p hp).2.1 e
  have hLg := hideAll_get (((dx, ob) :: rest).map (·.1)) hL nL
  have nL₀ : h₀.get? L = none := kts_self F
  obtain ⟨sl, hs⟩ := T'.up hLg
  have off : ∀ b, b ≠ L → b ∉ [env].filterMap (·.frame) := fun b hb q => by
    rcases frames_mem hf q with z | z
    · exact hb z
    · simp at z
  have look : ∀ q ∈ gl ob', h'.get? q.1 = some q.2 ∧ q.1 ≠ L ∧ h₀.get? q.1 = none := fun q hq => by
    rcases (updF_mem (o' := ob') U).2 q hq with rfl | ⟨hqd, hq⟩
    · exact ⟨(N' _ (.head _)).1, (N _ hdx).2⟩
    · refine ⟨?_, (N q hq).2⟩
      by_cases hb : q.1 ∈ ((dx, ob) :: rest).map (·.1)
      · obtain ⟨r, hr, e⟩ := List.mem_map.mp hb
        rcases List.mem_cons.mp hr with rfl | hr
        · exact absurd e.symm hqd
        · have h1 := (N r (hsub r hr)).1
          have h2 := (N q hq).1
          rw [e, h2] at h1
          have h3 := (N' r (.tail _ hr)).1
          rw [e] at h3
          rw [h3, ← h1]
      · exact F'.keep _ _ (T'.other _ _ (hideAll_get _ (N q hq).1 hb) (off _ (N q hq).2.1))
  refine ret _ ob' h' tk' ⟨⟨_, es, ep, F'.keep _ _ hs, hLd, hLk, hLf⟩, fun b o e => F'.keep b o (T'.other b o (st b o e) (off b fun q => by rw [q, nL₀] at e; cases e)), F.above⟩ look hP
end

/-- LeaveQ on a ground without the law's frame -/
noncomputable def LeaveM (fs : List Addr) (gs : Heap) (L L' : Addr) (oL : Obj) (m : Str → Option Value) (gl : Obj → List (Addr × Obj)) (g : Heap) (need : List (Addr × Obj)) (Q : Value → Shared → Prop) (v : Value) (s' : Shared) : Prop :=
  ∃ g' L'' m', KtsTurn fs g g' ∧ Fr g' L'' s'.heap m' ∧ News g' L'' s'.heap need ∧ (∀ sl', Fr gs L' s'.heap m → News gs L' s'.heap (gl { oL with slots := sl' }) → Q v s')
theorem leaveM_ {fs : List Addr} {gs : Heap} {L L' : Addr} {oL : Obj} {m : Str → Option Value} {gl : Obj → List (Addr × Obj)} {g : Heap} {need led : List (Addr × Obj)} {Q : Value → Shared → Prop} {v : Value} {s' : Shared} {g' : Heap} {L'' : Addr} {m' : Str → Option Value}
    (F : Fr g' L'' s'.heap m') (N : News g' L'' s'.heap led) (T : KtsTurn fs g g') (hn : ∀ q ∈ need, q ∈ led)
    (k : ∀ sl', Fr gs L' s'.heap m → News gs L' s'.heap (gl { oL with slots := sl' }) → Q v s') : LeaveM fs gs L L' oL m gl g need Q v s' := ⟨g', L'', m', T, F, fun q hq => N q (hn q hq), k⟩
/-- a ledger without one of its objects -/
inductive Rem (L : Addr) (ob : Obj) : List (Addr × Obj) → List (Addr × Obj) → Prop
  | here {r} : Rem L ob ((L, ob) :: r) r
  | there {q r r'} : Rem L ob r r' → Rem L ob (q :: r) (q :: r')
theorem Rem.sub {L : Addr} {ob : Obj} {l r : List (Addr × Obj)} (h : Rem L ob l r) : (∀ q ∈ r, q ∈ l) ∧ (∀ q ∈ l, q = (L, ob) ∨ q ∈ r) ∧ (L, ob) ∈ l := by
  induction h with
  | here => exact ⟨fun q hq => .tail _ hq, fun q hq => (List.mem_cons.mp hq).elim .inl .inr, .head _⟩
  | there _ ih =>
    refine ⟨fun q hq => ?_, fun q hq => ?_, .tail _ ih.2.2⟩
    · rcases List.mem_cons.mp hq with e | hq
      · exact e ▸ .head _
      · exact .tail _ (ih.1 q hq)
    · rcases List.mem_cons.mp hq with e | hq
      · exact .inr (e ▸ .head _)
      · exact (ih.2.1 q hq).imp id (.tail _)
/-- a ground without the frame of the law -/
noncomputable def shut (g : Heap) (L : Addr) : Heap := hideAll g [L]
section
variable {prog : Program} {w : World} {A₀ A : Around} {s : Shared} {base G : Heap} {L L' : Addr} {oL : Obj} {m : Str → Option Value} {env env₀ : Env} {news led need : List (Addr × Obj)} {K : Frag} {p : Program} {loose : List Str} {mean : ExcName → Option Value} {mg mb : Str → Option Value} {h : Heap}
  {name qual : Str} {params : Arguments} {body : List Stmt} {scope : Scope} {dV kV doc pm cdv ct oc : Value} {an od : Option Addr} {osl : Array (Option Value)} {f : Addr} {pos : List Value} {binds : List (Str × Value)} {Q E : Value → Shared → Prop}
theorem shut_get {b : Addr} {o : Obj} (e : (shut G L).get? b = some o) : G.get? b = some o ∧ b ≠ L := by
  refine ⟨of_hideAll _ e, fun q => ?_⟩
  rw [q, show (shut G L).get? L = none from hideAll_none _ (.head _)] at e; cases e
theorem get_shut {b : Addr} {o : Obj} (e : G.get? b = some o) (hb : b ≠ L) : (shut G L).get? b = some o := hideAll_get _ e fun q => hb (List.mem_singleton.mp q)
theorem shut_none {b : Addr} (e : G.get? b = none) : (shut G L).get? b = none := by
  cases q : (shut G L).get? b with
  | none => rfl
  | some o => rw [(shut_get q).1] at e; cases e
theorem one_frame (hf : env₀.frame = some L) {b : Addr} : b ∈ [env₀].filterMap (·.frame) ↔ b = L := by
  constructor
  · intro q
    rcases frames_mem hf q with z | z
    · exact z
    · simp at z
  · rintro rfl
    exact List.mem_filterMap.mpr ⟨env₀, .head _, hf⟩
theorem shut_stays (B : Below A₀ base [env₀] G) (hf : env₀.frame = some L) : base.StaysIn (shut G L) := fun b o e => get_shut (B.stays b o e) fun q => by
  rw [q, (B.frames.mem ((one_frame hf).mpr rfl)).1] at e; cases e
/-- from the whole ground to the one without the law's frame -/
theorem shut_in (B : Below A₀ base [env₀] G) (hf : env₀.frame = some L) (XB : K.In base) (TB : Top p loose mean mg mb base) (F : Fr G L' h m) (N : News G L' h led) :
    ∃ oL sl, G.get? L = some oL ∧ @LT.lt Nat instLTNat L L' ∧ (∀ q ∈ led, L ≠ q.1) ∧ Fr (shut G L) L' h m ∧ News (shut G L) L' h ((L, { oL with slots := sl }) :: led) ∧ K.In (shut G L) ∧ Top p loose mean mg mb (shut G L) := by
  obtain ⟨hb0, oL, hL, _⟩ := B.frames.mem ((one_frame hf).mpr rfl)
  have st : base.StaysIn (shut G L) := fun b o e => get_shut (B.stays b o e) fun q => by rw [q, hb0] at e; cases e
  have hne : L ≠ L' := fun q => by rw [q, kts_self F] at hL; cases hL
  refine ⟨oL, oL.slots, hL, Nat.lt_of_lt_of_le (Heap.lt_size hL) F.above, fun q hq e => ?_, ⟨F.ns, fun b o e => F.keep b o (shut_get e).1, Nat.le_trans (Nat.le_of_eq (hideAll_size _ _)) F.above⟩, fun q hq => ?_, XB.keeps st, TB.keeps st⟩
  · have := (N q hq).2.2; rw [← e, hL] at this; cases this
  · rcases List.mem_cons.mp hq with rfl | hq
    · exact ⟨F.keep _ _ hL, hne, hideAll_none _ (.head _)⟩
    · exact ⟨(N q hq).1, (N q hq).2.1, shut_none (N q hq).2.2⟩
/-- and back -/
theorem shut_out {sl : Array (Option Value)} (B : Below A₀ base [env₀] G) (hf : env₀.frame = some L) (hG : G.get? L = some oL) (XB : K.In base) (TB : Top p loose mean mg mb base) (D : KtsDicts ([env₀].filterMap (·.frame)) G)
    (F : Fr (shut G L) L' h m) (N : News (shut G L) L' h news) (R : Rem L { oL with slots := sl } news need) (hne : ∀ q ∈ need, q.1 ≠ L) :
    ∃ G', KtsTurn ([env₀].filterMap (·.frame)) G G' ∧ Fr G' L' h m ∧ News G' L' h need ∧ Below A₀ base [env₀] G' ∧ K.In G' ∧ Top p loose mean mg mb G' ∧ KtsDicts ([env₀].filterMap (·.frame)) G' := by
  have hL := (N _ R.sub.2.2).1
  obtain ⟨T₁, S₁⟩ := kts_turn_at (h := h) (fs := [env₀].filterMap (·.frame)) (g := G)
    (fun b hb => ⟨oL, by rw [(one_frame hf).mp hb]; exact hG⟩)
    (fun b o e nm => F.keep b o (get_shut e fun q => nm ((one_frame hf).mpr q)))
    (fun b o e hb => by
      have z := (one_frame hf).mp hb
      subst z
      rw [hG] at e; cases e
      exact ⟨sl, hL⟩)
  have B₃ : Below A₀ base [env₀] (ktsHeap h ([env₀].filterMap (·.frame)) G) := ⟨B.stack, fun b o e => T₁.other b o (B.stays b o e) (fun hm => by
    rw [(B.frames.mem hm).1] at e
    cases e), B.frames.of_keeps fun b o e _ => by
    obtain ⟨sl', hs'⟩ := T₁.up e
    exact ⟨_, hs', rfl⟩⟩
  refine ⟨_, T₁, ⟨F.ns, S₁, by rw [T₁.size]; exact Nat.le_trans (Nat.le_of_eq (hideAll_size (h := G) [L]).symm) F.above⟩, fun q hq => ?_, B₃, XB.keeps B₃.stays, TB.keeps B₃.stays, D.turn T₁⟩
  have n := N q (R.sub.1 q hq)
  refine ⟨n.1, n.2.1, T₁.none_ _ ?_⟩
  cases e : G.get? q.1 with
  | none => rfl
  | some o =>
    have := n.2.2
    rw [get_shut e (hne q hq)] at this; cases this
theorem shut_k {C : Prop} {sl : Array (Option Value)} (F : Fr (shut G L) L' h m) (N : News (shut G L) L' h news) (B : Below A₀ base [env₀] G) (hf : env₀.frame = some L) (hG : G.get? L = some oL) (R : Rem L { oL with slots := sl } news need) (hne : ∀ q ∈ need, q.1 ≠ L) (XB : K.In base) (TB : Top p loose mean mg mb base) (D : KtsDicts ([env₀].filterMap (·.frame)) G)
    (k : ∀ G', KtsTurn ([env₀].filterMap (·.frame)) G G' → Fr G' L' h m → News G' L' h need → Below A₀ base [env₀] G' → K.In G' → Top p loose mean mg mb G' → KtsDicts ([env₀].filterMap (·.frame)) G' → C) : C := by
  obtain ⟨G', a1, a2, a3, a4, a5, a6, a7⟩ := shut_out B hf hG XB TB D F N R hne
  exact k G' a1 a2 a3 a4 a5 a6 a7
end

/-- a table of codes, one longer -/
theorem triples_one {C : Prop} {v : Value} {l : List Value} (h : TriplesOk (v :: l)) (k : ∀ x t, v = .int x t → C) : C := by
  cases v with
  | int x t => exact k x t rfl
  | _ => exact h.elim
theorem triples_two {C : Prop} {v : Value} {l : List Value} {x : Int} {t : Tok} (h : TriplesOk (.int x t :: v :: l)) (k : ∀ x t, v = .int x t → C) : C := by
  cases v with
  | int x t => exact k x t rfl
  | _ => exact h.elim
theorem among_list {pos : Pos} {a b : Int} {c : Value} (hne : ¬ (a = (pos.line : Int) ∧ b = (pos.col : Int))) : ∀ (n : Nat) (l : List Value), l.length ≤ n → TriplesOk l → codeAmong pos l = none → codeAmong pos (l ++ [rawInt a, rawInt b, c]) = none := by
  intro n
  induction n with
  | zero =>
    intro l hl _ _
    rw [List.eq_nil_of_length_eq_zero (Nat.le_zero.mp hl)]
    exact if_neg fun z => hne ⟨eq_of_beq (Bool.and_eq_true_iff.mp z).1, eq_of_beq (Bool.and_eq_true_iff.mp z).2⟩
  | succ n ih =>
    intro l hl ht h
    cases l with
    | nil => exact ih [] (Nat.zero_le _) ht h
    | cons v l =>
      refine triples_one ht fun x t e => ?_
      subst e
      cases l with
      | nil => exact ht.elim
      | cons w l =>
        refine triples_two ht fun y u e => ?_
        subst e
        cases l with
        | nil => exact ht.elim
        | cons d rest =>
          have h' : (if (x == (pos.line : Int) && y == (pos.col : Int)) = true then some d else codeAmong pos rest) = none := h
          show (if (x == (pos.line : Int) && y == (pos.col : Int)) = true then some d else codeAmong pos (rest ++ [rawInt a, rawInt b, c])) = none
          by_cases q : (x == (pos.line : Int) && y == (pos.col : Int)) = true
          · rw [if_pos q] at h'; cases h'
          · rw [if_neg q] at h' ⊢
            exact ih rest (Nat.le_trans (Nat.le_add_right _ 2) (Nat.le_of_succ_le_succ hl)) ht h'
theorem among_skip {pos : Pos} {xs : Array Value} {a b : Int} {c : Value} (hne : ¬ (a = (pos.line : Int) ∧ b = (pos.col : Int))) (ht : TriplesOk xs.toList) (h : codeAmong pos xs.toList = none) : codeAmong pos (xs ++ #[rawInt a, rawInt b, c]).toList = none := by
  rw [Array.toList_append]; exact among_list hne _ _ (Nat.le_refl _) ht h
theorem among_hit {pos : Pos} {xs : Array Value} {c : Value} (ht : TriplesOk xs.toList) (h : codeAmong pos xs.toList = none) : codeAmong pos (xs ++ #[rawInt (pos.line : Int), rawInt (pos.col : Int), c]).toList = some c := by
  rw [Array.toList_append]; exact codeAmong_snoc _ ht h
theorem triples_push {xs : Array Value} {a b : Int} {c : Value} (ht : TriplesOk xs.toList) : TriplesOk (xs ++ #[rawInt a, rawInt b, c]).toList := by
  rw [Array.toList_append]; exact TriplesOk_snoc a b c _ ht
theorem among_of {l c el ec : Nat} {xs : List Value} (h : ∀ el ec, codeAmong ⟨l, c, el, ec⟩ xs = none) : codeAmong ⟨l, c, el, ec⟩ xs = none := h _ _
theorem among_nil {pos : Pos} : codeAmong pos (#[] : Array Value).toList = none := rfl
theorem triples_nil : TriplesOk (#[] : Array Value).toList := trivial
end Mine
end

section
open PySem PySem.W PySem.Calls PySem.Spec PyProof.Rows
namespace Mine
/-! the rules of a call once more: what the body starts with told by names alone, the rest of its locals and the count of its tokens left open (the terms of a walk stay small) -/

section
variable {prog : Program} {w : World} {A₀ A : Around} {s : Shared} {base h₀ : Heap} {outer : List Env} {L : Addr} {m : Str → Option Value} {env : Env} {news need : List (Addr × Obj)} {K : Frag} {p : Program} {loose : List Str} {mean : ExcName → Option Value} {mg mb : Str → Option Value}
  {name qual : Str} {params : Arguments} {body : List Stmt} {scope : Scope} {dV kV doc pm cdv ct oc : Value} {an od : Option Addr} {osl : Array (Option Value)} {f : Addr} {pos : List Value} {binds : List (Str × Value)} {Q E : Value → Shared → Prop}
theorem call_r2 (need : List (Addr × Obj)) (P : List (Addr × Obj) → Value → Prop)
    (B : Below A₀ base outer h₀) (F : Fr h₀ L s.heap m) (X₀ : K.In h₀) (N : News h₀ L s.heap news) (T : Top p loose mean mg mb h₀) (hsub : ∀ q ∈ need, q ∈ news) (hA : A.frames = some (env :: outer)) (hf : env.frame = some L) (hke : env.scope.kind = .function)
    (ho : K.lookup f = some ⟨oc, od, .func (fnOf name qual params body scope dV kV doc pm an cdv ct), osl⟩) (hcd : codeIn K cdv qual = true) (hroom : A.depth < recursionLimit)
    (hbind : BindsTo s (fnOf name qual params body scope dV kV doc pm an cdv ct) ⟨pos, []⟩ binds) (hloc : ∀ y ∈ binds, scope.names.lookup y.1 = some .local)
    (ret : ∀ v new h' tk', Fr h₀ L h' m → News h₀ L h' (new ++ news) → (∀ p ∈ new, ∀ q ∈ news, p.1 ≠ q.1) → P new v → Q v { s with heap := h', toks := tk' })
    {ps : List (Str × Value)} (hp : ∀ p ∈ ps, binds.reverse.lookup p.1 = some p.2)
    (h : ∀ g L' h₁ u tk₁, Fr g L' h₁ (kstB u ps) → News g L' h₁ need → Below A base (env :: outer) g → K.In g → Top p loose mean mg mb g →
      wpAny (model prog w) (A.deeper (envOf qual scope L' f cdv)) (execs body (envOf qual scope L' f cdv))
        (fun fl s' => BodyEnd g need P (match fl with | .ret v => v | _ => .none) s s') (fun _ _ => False)
        { s with heap := h₁, toks := tk₁ })
    (hco : scope.isCoroutine = false) (hgen : scope.isGenerator = false) (hk : scope.kind = .function)
    (hcell : ∀ x ∈ scope.names, x.2 ≠ .cell) : wpAny (model prog w) A (call (.ref f) pos) Q E s :=
  call_r need P B F X₀ N T hsub hA hf hke ho hcd hroom hbind hloc ret (fun g L' h₁ a1 a2 a3 a4 a5 => h g L' h₁ _ _ (fr_names a1 hp) a2 a3 a4 a5) hco hgen hk hcell
end

section
variable {prog : Program} {w : World} {A₀ A : Around} {s : Shared} {base h₀ : Heap} {outer : List Env} {L : Addr} {m : Str → Option Value} {env : Env} {news : List (Addr × Obj)} {K : Frag} {p : Program} {loose : List Str} {mean : ExcName → Option Value} {mg mb : Str → Option Value}
  {name qual : Str} {params : Arguments} {body : List Stmt} {scope : Scope} {dV kV doc pm cdv ct oc : Value} {an od : Option Addr} {osl : Array (Option Value)} {f : Addr} {pos : List Value} {binds : List (Str × Value)} {Q E : Value → Shared → Prop}
theorem call_u2 {dx : Addr} {ob : Obj} {gl : Obj → List (Addr × Obj)} (rest : List (Addr × Obj)) (P : Obj → List (Addr × Obj) → Value → Prop)
    (B : Below A₀ base outer h₀) (F : Fr h₀ L s.heap m) (X₀ : K.In h₀) (N : News h₀ L s.heap news) (T : Top p loose mean mg mb h₀) (U : UpdF dx ob news gl) (hsub : ∀ q ∈ rest, q ∈ news) (hoff : ∀ q ∈ rest, q.1 ≠ dx) (hA : A.frames = some (env :: outer)) (hf : env.frame = some L) (hke : env.scope.kind = .function)
    (ho : K.lookup f = some ⟨oc, od, .func (fnOf name qual params body scope dV kV doc pm an cdv ct), osl⟩) (hcd : codeIn K cdv qual = true) (hroom : A.depth < recursionLimit)
    (hbind : BindsTo s (fnOf name qual params body scope dV kV doc pm an cdv ct) ⟨pos, []⟩ binds) (hloc : ∀ y ∈ binds, scope.names.lookup y.1 = some .local)
    (ret : ∀ v new ob' h' tk', Fr h₀ L h' m → News h₀ L h' (new ++ gl ob') → (∀ p ∈ new, ∀ q ∈ gl ob', p.1 ≠ q.1) → P ob' new v → Q v { s with heap := h', toks := tk' })
    {ps : List (Str × Value)} (hp : ∀ p ∈ ps, binds.reverse.lookup p.1 = some p.2)
    (h : ∀ g L' h₁ u tk₁, Fr g L' h₁ (kstB u ps) → News g L' h₁ ((dx, ob) :: rest) → Below A base (env :: outer) g → K.In g → Top p loose mean mg mb g →
      wpAny (model prog w) (A.deeper (envOf qual scope L' f cdv)) (execs body (envOf qual scope L' f cdv))
        (fun fl s' => BodyEndU g dx rest P (match fl with | .ret v => v | _ => .none) s s') (fun _ _ => False)
        { s with heap := h₁, toks := tk₁ })
    (hco : scope.isCoroutine = false) (hgen : scope.isGenerator = false) (hk : scope.kind = .function)
    (hcell : ∀ x ∈ scope.names, x.2 ≠ .cell) : wpAny (model prog w) A (call (.ref f) pos) Q E s :=
  call_u rest P B F X₀ N T U hsub hoff hA hf hke ho hcd hroom hbind hloc ret (fun g L' h₁ a1 a2 a3 a4 a5 => h g L' h₁ _ _ (fr_names a1 hp) a2 a3 a4 a5) hco hgen hk hcell
end

section
variable {prog : Program} {w : World} {A₀ A : Around} {s : Shared} {base h₀ : Heap} {outer : List Env} {L : Addr} {m : Str → Option Value} {env : Env} {news need : List (Addr × Obj)} {K : Frag} {p : Program} {loose : List Str} {mean : ExcName → Option Value} {mg mb : Str → Option Value}
  {name qual : Str} {params : Arguments} {body : List Stmt} {scope : Scope} {dV kV doc pm cdv ct oc : Value} {an od : Option Addr} {osl : Array (Option Value)} {f : Addr} {pos : List Value} {binds : List (Str × Value)} {Q E : Value → Shared → Prop}
theorem call_rC2 (need : List (Addr × Obj)) (P : List (Addr × Obj) → Value → Prop)
    (B : Below A₀ base outer h₀) (F : Fr h₀ L s.heap m) (X₀ : K.In h₀) (N : News h₀ L s.heap news) (T : Top p loose mean mg mb h₀) (hsub : ∀ q ∈ need, q ∈ news) (hA : A.frames = some (env :: outer)) (hf : env.frame = some L) (hke : env.scope.kind = .function)
    (ho : K.lookup f = some ⟨oc, od, .func (fnOf name qual params body scope dV kV doc pm an cdv ct), osl⟩) (hcd : codeIn K cdv qual = true) (hroom : A.depth < recursionLimit)
    (hbind : BindsTo s (fnOf name qual params body scope dV kV doc pm an cdv ct) ⟨pos, []⟩ binds) (hkind : (binds.all fun y => scope.names.lookup y.1 == some .local || scope.names.lookup y.1 == some .cell) = true)
    (hnd : ((cellsFrom 0 scope.names []).map (·.1)).Nodup)
    (ret : ∀ v new h' tk', Fr h₀ L h' m → News h₀ L h' (new ++ news) → (∀ p ∈ new, ∀ q ∈ news, p.1 ≠ q.1) → P new v → Q v { s with heap := h', toks := tk' })
    {ps : List (Str × Value)} (hp : ∀ L', ∀ p ∈ ps, bindL (envOfC qual scope L' f cdv).kindOf binds (fun _ => none) p.1 = some p.2)
    (h : ∀ g L' h₁ tk cells u, Fr g L' h₁ (kstB u ps) → News g L' h₁ (cells ++ need) →
      CellsAre (bindC (envOfC qual scope L' f cdv).kindOf binds fun _ => none) (cellsFrom (L' + 1) scope.names []) cells → Below A base (env :: outer) g → K.In g → Top p loose mean mg mb g → (∀ p ∈ need, p.1 < L') →
      wpAny (model prog w) (A.deeper (envOfC qual scope L' f cdv)) (execs body (envOfC qual scope L' f cdv))
        (fun fl s' => BodyEnd g need P (match fl with | .ret v => v | _ => .none) s s') (fun _ _ => False)
        { s with heap := h₁, toks := tk })
    (hco : scope.isCoroutine = false) (hgen : scope.isGenerator = false) (hk : scope.kind = .function) : wpAny (model prog w) A (call (.ref f) pos) Q E s :=
  call_rC need P B F X₀ N T hsub hA hf hke ho hcd hroom hbind hkind hnd ret (fun g L' h₁ tk cells a1 a2 a3 a4 a5 a6 a7 => h g L' h₁ tk cells _ (fr_names a1 (hp L')) a2 a3 a4 a5 a6 a7) hco hgen hk
end

section
variable {prog : Program} {w : World} {A₀ A : Around} {s : Shared} {base h₀ : Heap} {L : Addr} {m : Str → Option Value} {env : Env} {news : List (Addr × Obj)} {K : Frag} {p : Program} {loose : List Str} {mean : ExcName → Option Value} {mg mb : Str → Option Value}
  {name qual : Str} {params : Arguments} {body : List Stmt} {scope : Scope} {dV kV doc pm cdv ct oc : Value} {an od : Option Addr} {osl : Array (Option Value)} {f : Addr} {pos : List Value} {binds : List (Str × Value)} {Q E : Value → Shared → Prop}
theorem call_uG2 {dx : Addr} {ob : Obj} {gl : Obj → List (Addr × Obj)} (rest : List (Addr × Obj)) (P : Obj → Value → Prop)
    (B : Below A₀ base [] h₀) (F : Fr h₀ L s.heap m) (X₀ : K.In h₀) (N : News h₀ L s.heap news) (T : Top p loose mean mg mb h₀) (U : UpdF dx ob news gl) (hsub : ∀ q ∈ rest, q ∈ news) (hA : A.frames = some [env]) (hf : env.frame = some L) (hke : env.scope.kind = .function)
    (ho : K.lookup f = some ⟨oc, od, .func (fnOf name qual params body scope dV kV doc pm an cdv ct), osl⟩) (hcd : codeIn K cdv qual = true) (hroom : A.depth < recursionLimit)
    (hbind : BindsTo s (fnOf name qual params body scope dV kV doc pm an cdv ct) ⟨pos, []⟩ binds) (hkind : (binds.all fun y => scope.names.lookup y.1 == some .local || scope.names.lookup y.1 == some .cell) = true)
    (hnd : ((cellsFrom 0 scope.names []).map (·.1)).Nodup)
    (ret : ∀ v ob' h' tk', Fr h₀ L h' m → News h₀ L h' (gl ob') → P ob' v → Q v { s with heap := h', toks := tk' })
    {ps : List (Str × Value)} (hp : ∀ L', ∀ p ∈ ps, bindL (envOfC qual scope L' f cdv).kindOf binds (fun _ => none) p.1 = some p.2)
    (h : ∀ g L' h₁ tk cells u, Fr g L' h₁ (kstB u ps) → News g L' h₁ (cells ++ (dx, ob) :: rest) →
      CellsAre (bindC (envOfC qual scope L' f cdv).kindOf binds fun _ => none) (cellsFrom (L' + 1) scope.names []) cells → Below A base [env] g → K.In g → Top p loose mean mg mb g → KtsDicts ([env].filterMap (·.frame)) g → (∀ p ∈ (dx, ob) :: rest, p.1 < L') →
      wpAny (model prog w) (A.deeper (envOfC qual scope L' f cdv)) (execs body (envOfC qual scope L' f cdv))
        (fun fl s' => BodyEndG ([env].filterMap (·.frame)) g dx rest P (match fl with | .ret v => v | _ => .none) s s') (fun _ _ => False)
        { s with heap := h₁, toks := tk })
    (hco : scope.isCoroutine = false) (hgen : scope.isGenerator = false) (hk : scope.kind = .function) : wpAny (model prog w) A (call (.ref f) pos) Q E s :=
  call_uG rest P B F X₀ N T U hsub hA hf hke ho hcd hroom hbind hkind hnd ret (fun g L' h₁ tk cells a1 a2 a3 a4 a5 a6 a7 a8 => h g L' h₁ tk cells _ (fr_names a1 (hp L')) a2 a3 a4 a5 a6 a7 a8) hco hgen hk
end

section
variable {prog : Program} {w : World} {A₀ A : Around} {s : Shared} {base h₀ : Heap} {outer : List Env} {L : Addr} {m : Str → Option Value} {env : Env} {news need : List (Addr × Obj)} {K : Frag} {p : Program} {loose : List Str} {mean : ExcName → Option Value} {mg mb : Str → Option Value}
  {name qual : Str} {params : Arguments} {body : List Stmt} {scope : Scope} {dV kV doc pm cdv ct oc : Value} {an od : Option Addr} {osl : Array (Option Value)} {f : Addr} {pos : List Value} {binds : List (Str × Value)} {Q E : Value → Shared → Prop}
theorem call_rQ12
    (B : Below A₀ base outer h₀) (F : Fr h₀ L s.heap m) (X₀ : K.In h₀) (N : News h₀ L s.heap news) (T : Top p loose mean mg mb h₀) (XB : K.In base) (TB : Top p loose mean mg mb base) (D : KtsDicts (outer.filterMap (·.frame)) h₀) (hA : A.frames = some (env :: outer)) (hf : env.frame = some L) (hke : env.scope.kind = .function)
    (ho : K.lookup f = some ⟨oc, od, .func (fnOf name qual params body scope dV kV doc pm an cdv ct), osl⟩) (hcd : codeIn K cdv qual = true) (hroom : A.depth < recursionLimit)
    (hbind : BindsTo s (fnOf name qual params body scope dV kV doc pm an cdv ct) ⟨pos, []⟩ binds) (hloc : ∀ y ∈ binds, scope.names.lookup y.1 = some .local)
    {ps : List (Str × Value)} (hp : ∀ p ∈ ps, binds.reverse.lookup p.1 = some p.2)
    (h : ∀ g L' h₁ u tk₁, Fr g L' h₁ (kstB u ps) → News g L' h₁ news → Below A base (env :: outer) g → K.In g → Top p loose mean mg mb g → KtsDicts ((env :: outer).filterMap (·.frame)) g →
      wpAny (model prog w) (A.deeper (envOf qual scope L' f cdv)) (execs body (envOf qual scope L' f cdv))
        (fun fl s' => LeaveQ A₀ base outer K p loose mean mg mb ((env :: outer).filterMap (·.frame)) h₀ L m news g news Q (match fl with | .ret v => v | _ => .none) s') (fun _ _ => False)
        { s with heap := h₁, toks := tk₁ })
    (hco : scope.isCoroutine = false) (hgen : scope.isGenerator = false) (hk : scope.kind = .function)
    (hcell : ∀ x ∈ scope.names, x.2 ≠ .cell) : wpAny (model prog w) A (call (.ref f) pos) Q E s :=
  call_rQ1 B F X₀ N T XB TB D hA hf hke ho hcd hroom hbind hloc (fun g L' h₁ a1 a2 a3 a4 a5 a6 => h g L' h₁ _ _ (fr_names a1 hp) a2 a3 a4 a5 a6) hco hgen hk hcell
end

section
variable {prog : Program} {w : World} {A₀ A : Around} {s : Shared} {base G : Heap} {L L' : Addr} {oL : Obj} {m : Str → Option Value} {env env₀ : Env} {news led need : List (Addr × Obj)} {K : Frag} {p : Program} {loose : List Str} {mean : ExcName → Option Value} {mg mb : Str → Option Value} {h : Heap}
  {name qual : Str} {params : Arguments} {body : List Stmt} {scope : Scope} {dV kV doc pm cdv ct oc : Value} {an od : Option Addr} {osl : Array (Option Value)} {f : Addr} {pos : List Value} {binds : List (Str × Value)} {Q E : Value → Shared → Prop}
/-- call_rM2 whose body reads a part of the ledger alone -/
theorem call_rM3 (need' : List (Addr × Obj)) {sl : Array (Option Value)} {gl : Obj → List (Addr × Obj)} (F : Fr (shut G L) L' s.heap m) (N : News (shut G L) L' s.heap news) (B : Below A₀ base [env₀] G) (hf₀ : env₀.frame = some L) (hG : G.get? L = some oL)
    (U : UpdF L { oL with slots := sl } news gl) (R : Rem L { oL with slots := sl } news need) (hne : ∀ q ∈ need, q.1 ≠ L) (XB : K.In base) (TB : Top p loose mean mg mb base) (D : KtsDicts ([env₀].filterMap (·.frame)) G) (hsub' : ∀ q ∈ need', q ∈ need)
    (hA : A.frames = some (env :: [env₀])) (hf : env.frame = some L') (hke : env.scope.kind = .function)
    (ho : K.lookup f = some ⟨oc, od, .func (fnOf name qual params body scope dV kV doc pm an cdv ct), osl⟩) (hcd : codeIn K cdv qual = true) (hroom : A.depth < recursionLimit)
    (hbind : BindsTo s (fnOf name qual params body scope dV kV doc pm an cdv ct) ⟨pos, []⟩ binds) (hloc : ∀ y ∈ binds, scope.names.lookup y.1 = some .local)
    {ps : List (Str × Value)} (hp : ∀ p ∈ ps, binds.reverse.lookup p.1 = some p.2)
    (h : ∀ g L'' h₁ u tk₁, Fr g L'' h₁ (kstB u ps) → News g L'' h₁ need' → Below A base (env :: [env₀]) g → K.In g → Top p loose mean mg mb g → KtsDicts ((env :: [env₀]).filterMap (·.frame)) g →
      wpAny (model prog w) (A.deeper (envOf qual scope L'' f cdv)) (execs body (envOf qual scope L'' f cdv))
        (fun fl s' => LeaveM ((env :: [env₀]).filterMap (·.frame)) (shut G L) L L' oL m gl g need' Q (match fl with | .ret v => v | _ => .none) s') (fun _ _ => False)
        { s with heap := h₁, toks := tk₁ })
    (hco : scope.isCoroutine = false) (hgen : scope.isGenerator = false) (hk : scope.kind = .function)
    (hcell : ∀ x ∈ scope.names, x.2 ≠ .cell) : wpAny (model prog w) A (call (.ref f) pos) Q E s := by
  obtain ⟨G', T₁, F₁, N₁, B₁, X₁, P₁, D₁⟩ := shut_out B hf₀ hG XB TB D F N R hne
  refine call_rQ need' B₁ F₁ X₁ N₁ P₁ XB TB D₁ hsub' hA hf hke ho hcd hroom hbind hloc (fun g L'' h₁ a1 a2 a3 a4 a5 a6 => wpAny_mono (h g L'' h₁ _ _ (fr_names a1 hp) a2 a3 a4 a5 a6) (fun fl s' hl => ?_) fun _ _ y => y) hco hgen hk hcell
  obtain ⟨g', L₃, m', T', F', N', k⟩ := hl
  refine ⟨g', L₃, m', T', F', N', fun h₀' t1 t2 t3 t4 t5 t6 t7 => ?_⟩
  have T₂ := T₁.trans t1
  obtain ⟨sl', hs⟩ := T₂.up hG
  refine k sl' ⟨t2.ns, fun b o e => t2.keep b o (T₂.other b o (shut_get e).1 fun q => (shut_get e).2 ((one_frame hf₀).mp q)), F.above⟩ fun q hq => ?_
  rcases (updF_mem (o' := { oL with slots := sl' }) U).2 q hq with rfl | ⟨hqd, hq⟩
  · exact ⟨t2.keep _ _ hs, (N _ R.sub.2.2).2⟩
  · rcases R.sub.2.1 q hq with rfl | hq'
    · exact absurd rfl hqd
    · exact ⟨(t3 q hq').1, (N q hq).2⟩
end
/-- what stands first in an expression: the left side of a compare, the first argument of a call, or the parts of a lambda -/
noncomputable def arg1 (e : PySem.Expr) : Option (PySem.Expr ⊕ (Arguments × PySem.Expr × Scope)) := by
  cases e with
  | Compare l => exact some (.inl l)
  | Call _ l => exact l.head?.map .inl
  | Lambda ps b sc => exact some (.inr (ps, b, sc))
  | _ => exact none
noncomputable def arg2 (e : PySem.Expr) : Option (PySem.Expr ⊕ (Arguments × PySem.Expr × Scope)) := (arg1 e).bind fun x => x.elim arg1 fun _ => none
/-- a lambda of the text, by its place: the one that is handed over in the test of the first statement of a for loop -/
noncomputable def lamIn (s : Stmt) : Option (Arguments × PySem.Expr × Scope) :=
  (blk s).bind fun b => b.1.head?.bind fun i => (blk i).bind fun c => c.2.bind fun t => (arg2 t).bind fun u => u.elim (fun a => (arg1 a).bind fun v => v.elim (fun _ => none) some) fun _ => none
noncomputable def lamAt (i j : Nat) : Option (Arguments × PySem.Expr × Scope) := (stmIn i j).bind lamIn
theorem lam_eq {o : Option (Arguments × PySem.Expr × Scope)} {la la' : Arguments} {lb lb' : PySem.Expr} {lsc lsc' : Scope} (h : o = some (la, lb, lsc)) (h' : o = some (la', lb', lsc')) : la = la' ∧ lb = lb' ∧ lsc = lsc' := by
  have e := h.symm.trans h'
  simp only [Option.some.injEq, Prod.mk.injEq] at e
  exact e
theorem sub_nil {need : List (Addr × Obj)} : ∀ p ∈ ([] : List (Addr × Obj)), p ∈ need := fun _ h => absurd h List.not_mem_nil
theorem sub_cons {q : Addr × Obj} {l need : List (Addr × Obj)} (h : q ∈ need) (t : ∀ p ∈ l, p ∈ need) : ∀ p ∈ q :: l, p ∈ need := List.forall_mem_cons.mpr ⟨h, t⟩
theorem news_tail {h₀ h : Heap} {L : Addr} {q : Addr × Obj} {l : List (Addr × Obj)} (N : News h₀ L h (q :: l)) : News h₀ L h l := fun p hp => N p (.tail _ hp)
theorem prod5 {α β γ δ ε : Type} {C : α × β × γ × δ × ε → Prop} (h : ∀ a b c d e, C (a, b, c, d, e)) : ∀ x, C x := fun ⟨a, b, c, d, e⟩ => h a b c d e
theorem room1 {a i k c : Nat} (h : a + k < c) (e : Nat.ble i k = true) : a + i < c := Nat.lt_of_le_of_lt (Nat.add_le_add_left (Nat.le_of_ble_eq_true e) a) h
theorem room2 {a i j k c : Nat} (h : a + k < c) (e : Nat.ble (i + j) k = true) : a + i + j < c := by rw [Nat.add_assoc]; exact room1 h e
theorem room3 {a i j l k c : Nat} (h : a + k < c) (e : Nat.ble (i + (j + l)) k = true) : a + i + j + l < c := by rw [Nat.add_assoc (a + i)]; exact room2 h e
theorem room4 {a i j l n k c : Nat} (h : a + k < c) (e : Nat.ble (i + (j + (l + n))) k = true) : a + i + j + l + n < c := by rw [Nat.add_assoc (a + i + j)]; exact room3 h e
theorem room5 {a i j l n o k c : Nat} (h : a + k < c) (e : Nat.ble (i + (j + (l + (n + o)))) k = true) : a + i + j + l + n + o < c := by rw [Nat.add_assoc (a + i + j + l)]; exact room4 h e
theorem room0 {a k c : Nat} (h : a + k < c) : a < c := Nat.lt_of_le_of_lt (Nat.le_add_right a k) h
end Mine
end

section
open PySem PySem.W PySem.Calls PySem.Spec PyProof.Rows
namespace Mine
/-! a call whose arguments are names of the frame: one step in place of many -/
noncomputable def EvTo (M : Model) (A : Around) (env : Env) (s : Shared) (e : PySem.Expr) (v : Value) : Prop := ∀ (Q : Value → Shared → Prop) (E : Value → Shared → Prop), Q v s → wpAny M A (eval e env) Q E s
inductive EvAll (M : Model) (A : Around) (env : Env) (s : Shared) : List PySem.Expr → List Value → Prop
  | nil : EvAll M A env s [] []
  | cons {e : PySem.Expr} {es : List PySem.Expr} {v : Value} {vs : List Value} : EvTo M A env s e v → (∀ rest, starEach (e :: rest) env = (false, eval e env) :: starEach rest env) → EvAll M A env s es vs → EvAll M A env s (e :: es) (v :: vs)
section
variable {prog : Program} {w : World} {A : Around} {E : Value → Shared → Prop} {s : Shared} {K : Frag} {h₀ : Heap} {L a : Addr} {m mg mb : Str → Option Value} {cn : Str} {cs : Scope} {ccd : Value} {cl : List (Str × Addr)} {p : Program} {loose : List Str} {news : List (Addr × Obj)}
theorem EvAll.spliced {M : Model} {env : Env} {pos : Pos} {es : List PySem.Expr} {vs : List Value} (h : EvAll M A env s es vs) : ∀ {Q : List Value → Shared → Prop}, Q vs s → wpAny M A (spliced (backTo pos (starEach es env))) Q E s := by
  induction h with
  | nil => intro Q hq; exact args_nil hq
  | cons he hs _ ih => intro Q hq; exact args_cons (he _ _ (ih hq)) (hs _)
theorem ev_L {M : Model} {x : Str} {pos : Pos} {v : Value} (F : Fr h₀ L s.heap m) (hv : m x = some v) (hk : cs.kind = .function) (hx : (envX cn cs L a ccd cl).kindOf x = some .local) (hd : (x == ("__debug__" : Str)) = false) :
    EvTo M A (envX cn cs L a ccd cl) s (.Name x pos) v := fun _ _ h => nameX_L F hv h hk hx hd
theorem ev_C {M : Model} {x : Str} {pos : Pos} {v : Value} {c : Addr} {o : Obj} (N : News h₀ L s.heap news) (hc : cl.lookup x = some c) (hm : (c, o) ∈ news) (hd : o.data = .cell (some v)) (hk : cs.kind = .function) (hx : (envX cn cs L a ccd cl).kindOf x = some .cell) (hb : (x == ("__debug__" : Str)) = false) :
    EvTo M A (envX cn cs L a ccd cl) s (.Name x pos) v := fun _ _ h => nameX_C N hc hm hd h hk hx hb
theorem evs_L {M : Model} {x : Str} {pos : Pos} {v : Value} {es : List PySem.Expr} {vs : List Value} (F : Fr h₀ L s.heap m) (hv : m x = some v) (hk : cs.kind = .function) (hx : (envX cn cs L a ccd cl).kindOf x = some .local) (hd : (x == ("__debug__" : Str)) = false) (t : EvAll M A (envX cn cs L a ccd cl) s es vs) :
    EvAll M A (envX cn cs L a ccd cl) s (.Name x pos :: es) (v :: vs) := .cons (ev_L F hv hk hx hd) (fun _ => rfl) t
theorem evs_C {M : Model} {x : Str} {pos : Pos} {v : Value} {c : Addr} {o : Obj} {es : List PySem.Expr} {vs : List Value} (N : News h₀ L s.heap news) (hc : cl.lookup x = some c) (hm : (c, o) ∈ news) (hd : o.data = .cell (some v)) (hk : cs.kind = .function) (hx : (envX cn cs L a ccd cl).kindOf x = some .cell) (hb : (x == ("__debug__" : Str)) = false) (t : EvAll M A (envX cn cs L a ccd cl) s es vs) :
    EvAll M A (envX cn cs L a ccd cl) s (.Name x pos :: es) (v :: vs) := .cons (ev_C N hc hm hd hk hx hb) (fun _ => rfl) t
/-- a call of a def of the text's -/
theorem call_names {x : Str} {p0 pos : Pos} {f : Value} {e : PySem.Expr} {es : List PySem.Expr} {vs : List Value} {Q : Value → Shared → Prop} (F : Fr h₀ L s.heap m) (X : K.In h₀) (T : TopRead p loose mg mb h₀) (e1 : nsIn K mainGlobals x = some (some f)) (kf : keepIn K f = true)
    (ha : EvAll (model prog w) A (envX cn cs L a ccd cl) s (e :: es) vs) (hk : cs.kind = .function) (hx : (envX cn cs L a ccd cl).kindOf x = some .globalImplicit) (hd : (x == ("__debug__" : Str)) = false)
    (he : starEach (e :: es) (envX cn cs L a ccd cl) = (false, eval e (envX cn cs L a ccd cl)) :: starEach es (envX cn cs L a ccd cl)) (hpl : (backTo pos (starEach es (envX cn cs L a ccd cl))).any (·.1) = false)
    (h : wpAny (model prog w) A (call f vs) Q E s) : wpAny (model prog w) A (eval (.Call (.Name x p0) (e :: es) [] pos) (envX cn cs L a ccd cl)) Q E s :=
  Call_ (nameX_K F X T e1 (callWith_K (first := []) X kf (ha.spliced ⟨X.keeps F.keep, h⟩) he hpl) hk hx hd)
/-- a call of a built-in -/
theorem call_namesB {x : Str} {id : String} {p0 pos : Pos} {e : PySem.Expr} {es : List PySem.Expr} {vs : List Value} {Q : Value → Shared → Prop} (F : Fr h₀ L s.heap m) (X : K.In h₀) (T : TopRead p loose mg mb h₀) (e1 : nsIn K mainGlobals x = some none) (hv : bootBuiltins x = some (.builtin id)) (hn : x ≠ "__name__")
    (ha : EvAll (model prog w) A (envX cn cs L a ccd cl) s (e :: es) vs) (hk : cs.kind = .function) (hx : (envX cn cs L a ccd cl).kindOf x = some .globalImplicit) (hd : (x == ("__debug__" : Str)) = false)
    (he : starEach (e :: es) (envX cn cs L a ccd cl) = (false, eval e (envX cn cs L a ccd cl)) :: starEach es (envX cn cs L a ccd cl)) (hpl : (backTo pos (starEach es (envX cn cs L a ccd cl))).any (·.1) = false)
    (h : wpAny (model prog w) A (call (.builtin id) vs) Q E s) : wpAny (model prog w) A (eval (.Call (.Name x p0) (e :: es) [] pos) (envX cn cs L a ccd cl)) Q E s :=
  Call_ (nameX_B F X T e1 hv hn (PyProof.Rows.callWith_builtin1 (ha.spliced h) he hpl) hk hx hd)
end
/-- the frame by the names that are still asked alone -/
theorem fr_gen {C : Prop} {h₀ h : Heap} {L : Addr} {m : Str → Option Value} (ps : List (Str × Value)) (F : Fr h₀ L h m) (hp : ∀ p ∈ ps, m p.1 = some p.2) (k : ∀ u, Fr h₀ L h (kstB u ps) → C) : C := k _ (fr_names F hp)
/-! small closers (an omega's proof is ten times as big) -/
theorem i_up {n c C : Int} (h : n ≤ c) (e : decide (c ≤ C) = true) : n ≤ C := Int.le_trans h (of_decide_eq_true e)
theorem i_lt {n c C : Int} (h : n ≤ c) (e : decide (c < C) = true) : n < C := Int.lt_of_le_of_lt h (of_decide_eq_true e)
theorem i_dn {n c C : Int} (h : c ≤ n) (e : decide (C ≤ c) = true) : C ≤ n := Int.le_trans (of_decide_eq_true e) h
theorem i_gt {n c C : Int} (h : c ≤ n) (e : decide (C < c) = true) : C < n := Int.lt_of_lt_of_le (of_decide_eq_true e) h
theorem n_up {n c C : Nat} (h : n ≤ c) (e : Nat.ble c C = true) : n ≤ C := Nat.le_trans h (Nat.le_of_ble_eq_true e)
theorem n_eq {n c C : Nat} (h : n = c) (e : Nat.ble c C = true) : n ≤ C := h ▸ Nat.le_of_ble_eq_true e
theorem n_ge {n c C : Nat} (h : n = c) (e : Nat.ble C c = true) : C ≤ n := h ▸ Nat.le_of_ble_eq_true e
theorem sub0n {a : Int} : (((a - 0).toNat : Nat) : Int) = (a.toNat : Int) := by rw [Int.sub_zero]
theorem len7 {r : Int} {l : Nat} (h1 : 1 ≤ r) (h7 : r ≤ 7) (h : l = r.toNat) : 0 < l ∧ l ≤ 7 := by omega
end Mine
end

open PySem PySem.W PySem.Spec PySem.Calls PyProof.Rows
local macro_rules | `(tactic| walk_at $s:str) => `(tactic| k_extra $s)
local macro_rules | `(tactic| k_ne) => `(tactic| first | (k_whole; first | with_reducible assumption | exact Nat.ne_of_lt (by with_reducible assumption) | exact Nat.ne_of_gt (by with_reducible assumption) | exact Ne.symm (by with_reducible assumption) | exact Nat.ne_of_lt (by walk_at "MineLt") | exact Nat.ne_of_gt (by walk_at "MineLt") | exact Nat.ne_of_lt (by walk_at "MineLt2") | exact Nat.ne_of_gt (by walk_at "MineLt2")) | (refine neN ?_; (try dsimp only); omega))
local macro_rules | `(tactic| k_lt $h) => `(tactic| ((replace $h := allLt_of $h; simp only [AllLt, and_true] at $h:ident); (repeat (have hn9 := And.left $h; replace $h := And.right $h))))
local macro_rules | `(tactic| k_room) => `(tactic| ((try dsimp only [ktrTop, Around.deeper, callerA]); (try simp only [depth_under_make, depth_under_kw, depth_in1, depth_deeper, depth_caller]); (try dsimp only [ktrTop, Around.deeper, callerA]); first | walk_at "MineRoom" | omega | decide))
local macro_rules | `(tactic| kn_triples) => `(tactic| (with_reducible (repeat (first | assumption | exact Mine.triples_nil | refine Mine.triples_push ?_))))
local macro_rules | `(tactic| kn_among) => `(tactic| (with_reducible (repeat (first | exact Mine.among_of (by assumption) | exact Mine.among_nil | refine Mine.among_skip (by first | decide | (dsimp only; decide)) (by kn_triples) ?_))))
local macro_rules | `(tactic| kn_hit) => `(tactic| (with_reducible (exact Mine.among_hit (by kn_triples) (by kn_among))))

section
open PySem PySem.W PySem.Spec PySem.Calls PyProof.Rows

namespace Mine
set_option maxRecDepth 100000 in
set_option maxHeartbeats 8000000 in
theorem normal_c {w : World} {p : Program} {loose : List Str} {mean : ExcName → Option Value} {mg mb : Str → Option Value} {dp un : Nat} {gd : Option (List Code)} {cn : Str} {cs : Scope} {a : Addr} {ccd : Value} {cl : List (Str × Addr)} {outer : List Env} {A₀ : Around} {base h₀ : Heap} {L : Addr} {m : Str → Option Value} {news : List (Addr × Obj)} {s : Shared} {Q E : Value → Shared → Prop}
    (B : Below A₀ base outer h₀) (F : Fr h₀ L s.heap m) (X : (Mine.hd.heap_39 w.params).In h₀) (N : News h₀ L s.heap news) (T : Top p loose mean mg mb h₀) (hk : cs.kind = .function) (hd : dp + 1 < recursionLimit) (hu : un + 8 < cLine)
    {x : Addr} {vs : List Value} {ns : List Int} {c : Nat} (hm : (x, listOf vs.toArray c) ∈ news) (hi : IntsAre vs ns) (hb : ns.length ≤ 200)
    (ret : ∀ r us c' h' tk', Fr h₀ L h' m → News h₀ L h' ((r, listOf us.toArray c') :: news) → (∀ q ∈ news, r ≠ q.1) → IntsAre us (normalZ ns) → Q (.ref r) { s with heap := h', toks := tk' }) :
    wpAny (model PySem.Challenge.rw_pq0542_01.row.prog w) (ktrTop dp un gd cn cs L a ccd cl outer) (call (.ref 46) [Value.ref x]) Q E s := by
  k_with_none
  k_with "Om" => (first | walk_at "MineRoom" | exact Int.natCast_nonneg _ | exact Mine.i_up (by with_reducible assumption) rfl | exact Mine.i_dn (by with_reducible assumption) rfl | exact Mine.i_lt (by with_reducible assumption) rfl | exact Mine.i_gt (by with_reducible assumption) rfl | exact Mine.n_up (by with_reducible assumption) rfl | exact Mine.n_eq (by with_reducible assumption) rfl | exact Mine.n_ge (by with_reducible assumption) rfl | exact Mine.sub0n)
  k_with "EvAll" => (first | exact Mine.EvAll.nil | exact Mine.evs_L (by k_asm) (by exact rfl) rfl rfl (by decide) (by walk_at "EvAll") | exact Mine.evs_C (by k_asm) (by exact rfl) (by k_mem) (by assumption) rfl rfl (by decide) (by walk_at "EvAll"))
  k_with "MineLt" => (first | ((repeat (first | exact Nat.lt_succ_self _ | refine Nat.lt_succ_of_lt ?_)); done) | ((repeat (refine Nat.lt_succ_of_lt ?_)); with_reducible assumption))
  k_with "MineLt2" => (refine Nat.lt_trans ?_ (by with_reducible assumption); walk_at "MineLt")
  k_with "MineRoom" => (k_whole; first | exact Mine.room1 (by with_reducible assumption) rfl | exact Mine.room2 (by with_reducible assumption) rfl | exact Mine.room3 (by with_reducible assumption) rfl | exact Mine.room4 (by with_reducible assumption) rfl | exact Mine.room5 (by with_reducible assumption) rfl | exact Mine.room0 (by with_reducible assumption))
  w_top off
  revert X; k_fill; intro X
  k_dflt (refine' call_r2 [(x, listOf vs.toArray c)] (OutI (normalZ ns)) ?k1 ?k2 ?k3 ?k4 ?k5 ?ks ?kA ?kF ?kK ?k6 ?k7 ?k8 ?k9 ?kB ?kR (ps := [(Str.ofString "a", Value.ref x)]) ?kP ?_ ?c2 ?c3 ?c4 ?c5; (case kA => exact rfl); (case kF => exact rfl); (case kK => assumption); (case k1 => k_asm); (case k2 => k_asm); (case k3 => k_asm); (case k4 => k_asm); (case k5 => k_asm); (case k6 => k_is); (case k7 => k_is); (case k8 => (show dp < recursionLimit; first | walk_at "MineRoom" | omega)); (case k9 => exact BindsTo.of_eq rfl); (case c5 => decide); (case kB => exact locs rfl); (case kP => kst_all); (case c2 => exact rfl); (case c3 => exact rfl); (case c4 => exact rfl))
  case ks => exact List.forall_mem_cons.mpr ⟨hm, List.forall_mem_nil _⟩
  case kR =>
    rintro v new h' tk' F' N' hne ⟨r, us, c', rfl, rfl, hI⟩
    exact ret r us c' h' tk' F' N' (fun q hq => hne _ (.head _) q hq) hI
  clear B F X N T ret
  clear hm
  intro g' L' h' u tk₁ F' N' B' X' T'
  (try dsimp only [kstB] at F')
  try dsimp only
  try k_fold
  k_with "exec While BoolOp cons nil" => k_while_given ["a"] (fun a script e => 0 ≤ e ∧ e ≤ (a.length : Int) ∧ normalZ (a.take e.toNat) = normalZ a) (fun a script e => e.toNat) "end"
  k_with "state" => exact normal_turn (by assumption) (by assumption) (by assumption) (by assumption) (by assumption)
  k_with "BodyEnd" => (k_dflt (first
  | ((refine Mine.end_new (by k_asm) (by k_asm) (by k_mem) (by kst_allIn) (by k_all) ?_); (refine Mine.outI ?_))
  | ((refine Mine.end_val (by k_asm) (by k_asm) (by kst_allIn) ?_))))
  k_with "eval Call" => ((with_reducible show wpAny _ _ (eval (PySem.Expr.Call (PySem.Expr.Name _ _) (PySem.Expr.Name _ _ :: _) [] _) _) _ _ _); k_dflt (first | (refine' Mine.call_names ?zF ?zX ?zT ?ze ?zk ?za ?zz ?zx ?zd ?zh ?zp ?_; (case zx => exact rfl); (case zz => exact rfl); (case zF => k_asm); (case zX => k_asm); (case zT => k_asm); (case ze => k_is); (case zk => k_is); (case za => walk_at "EvAll"); (case zd => decide); (case zh => exact rfl); (case zp => exact rfl)) | (refine' Mine.call_namesB ?zF ?zX ?zT ?ze ?zv ?zn ?za ?zz ?zx ?zd ?zh ?zp ?_; (case zx => exact rfl); (case zz => exact rfl); (case zF => k_asm); (case zX => k_asm); (case zT => k_asm); (case ze => k_is); (case zv => boot_by_name); (case zn => decide); (case za => walk_at "EvAll"); (case zd => decide); (case zh => exact rfl); (case zp => exact rfl))))
  k_with "storeName" => (dsimp only; walk_at "storeName")
  first | (refine (id (α := let zA9 := _; let ze9 := _; let zg9 := _; let zd9 := _; let zo9 := _; wpAny _ zA9 (execs _ ze9) _ _ (Shared.mk _ zg9 zd9 _ zo9)) ?_); intro zA9 ze9 zg9 zd9 zo9) | skip
  k_steps
  all_goals first | (rw [← normal_end1 (by assumption) (by assumption) (by assumption)]; assumption) | (rw [← normal_end2 (by assumption) (by assumption) (by assumption) (by assumption)]; assumption)

end Mine
end

section
open PySem PySem.W PySem.Spec PySem.Calls PyProof.Rows

namespace Mine
set_option maxRecDepth 100000 in
set_option maxHeartbeats 8000000 in
theorem compare_c {w : World} {p : Program} {loose : List Str} {mean : ExcName → Option Value} {mg mb : Str → Option Value} {dp un : Nat} {gd : Option (List Code)} {cn : Str} {cs : Scope} {a : Addr} {ccd : Value} {cl : List (Str × Addr)} {outer : List Env} {A₀ : Around} {base h₀ : Heap} {L : Addr} {m : Str → Option Value} {news : List (Addr × Obj)} {s : Shared} {Q E : Value → Shared → Prop}
    (B : Below A₀ base outer h₀) (F : Fr h₀ L s.heap m) (X : (Mine.hd.heap_39 w.params).In h₀) (N : News h₀ L s.heap news) (T : Top p loose mean mg mb h₀) (hk : cs.kind = .function) (hd : dp + 1 < recursionLimit) (hu : un + 8 < cLine)
    {x y : Addr} {vs us : List Value} {xs ys : List Int} {c d : Nat} (hm : (x, listOf vs.toArray c) ∈ news) (hm2 : (y, listOf us.toArray d) ∈ news) (hi : IntsAre vs xs) (hj : IntsAre us ys) (hb : xs.length ≤ 200) (hb2 : ys.length ≤ 200)
    (ret : ∀ t h' tk', Fr h₀ L h' m → News h₀ L h' news → Q (.int (cmpZ xs ys) t) { s with heap := h', toks := tk' }) :
    wpAny (model PySem.Challenge.rw_pq0542_01.row.prog w) (ktrTop dp un gd cn cs L a ccd cl outer) (call (.ref 53) [Value.ref x, Value.ref y]) Q E s := by
  k_with_none
  k_with "Om" => (first | walk_at "MineRoom" | exact Int.natCast_nonneg _ | exact Mine.i_up (by with_reducible assumption) rfl | exact Mine.i_dn (by with_reducible assumption) rfl | exact Mine.i_lt (by with_reducible assumption) rfl | exact Mine.i_gt (by with_reducible assumption) rfl | exact Mine.n_up (by with_reducible assumption) rfl | exact Mine.n_eq (by with_reducible assumption) rfl | exact Mine.n_ge (by with_reducible assumption) rfl | exact Mine.sub0n)
  k_with "EvAll" => (first | exact Mine.EvAll.nil | exact Mine.evs_L (by k_asm) (by exact rfl) rfl rfl (by decide) (by walk_at "EvAll") | exact Mine.evs_C (by k_asm) (by exact rfl) (by k_mem) (by assumption) rfl rfl (by decide) (by walk_at "EvAll"))
  k_with "MineLt" => (first | ((repeat (first | exact Nat.lt_succ_self _ | refine Nat.lt_succ_of_lt ?_)); done) | ((repeat (refine Nat.lt_succ_of_lt ?_)); with_reducible assumption))
  k_with "MineLt2" => (refine Nat.lt_trans ?_ (by with_reducible assumption); walk_at "MineLt")
  k_with "MineRoom" => (k_whole; first | exact Mine.room1 (by with_reducible assumption) rfl | exact Mine.room2 (by with_reducible assumption) rfl | exact Mine.room3 (by with_reducible assumption) rfl | exact Mine.room4 (by with_reducible assumption) rfl | exact Mine.room5 (by with_reducible assumption) rfl | exact Mine.room0 (by with_reducible assumption))
  w_top off
  revert X; k_fill; intro X
  k_dflt (refine' call_r2 [(x, listOf vs.toArray c), (y, listOf us.toArray d)] (OutN (cmpZ xs ys)) ?k1 ?k2 ?k3 ?k4 ?k5 ?ks ?kA ?kF ?kK ?k6 ?k7 ?k8 ?k9 ?kB ?kR (ps := [(Str.ofString "a", Value.ref x), (Str.ofString "b", Value.ref y)]) ?kP ?_ ?c2 ?c3 ?c4 ?c5; (case kA => exact rfl); (case kF => exact rfl); (case kK => assumption); (case k1 => k_asm); (case k2 => k_asm); (case k3 => k_asm); (case k4 => k_asm); (case k5 => k_asm); (case k6 => k_is); (case k7 => k_is); (case k8 => (show dp < recursionLimit; first | walk_at "MineRoom" | omega)); (case k9 => exact BindsTo.of_eq rfl); (case c5 => decide); (case kB => exact locs rfl); (case kP => kst_all); (case c2 => exact rfl); (case c3 => exact rfl); (case c4 => exact rfl))
  case ks => exact List.forall_mem_cons.mpr ⟨hm, List.forall_mem_cons.mpr ⟨hm2, List.forall_mem_nil _⟩⟩
  case kR =>
    rintro v new h' tk' F' N' hne ⟨rfl, t, rfl⟩
    exact ret t h' tk' F' N'
  clear B F X N T ret
  clear hm hm2
  intro g' L' h' u tk₁ F' N' B' X' T'
  (try dsimp only [kstB] at F')
  try dsimp only
  try k_fold
  k_with "pyIter ref" => ((with_reducible show wpAny _ _ (pyIter (Value.ref _)) (fun it s₂ => LoopAtV _ _ _ _ _ _ _ _ _ it s₂) _ _); (rename Fr _ _ _ _ => lF'); (rename News _ _ _ _ => lN'); (rename IsRange _ _ _ _ _ _ _ _ => rgX); (with_unfolding_all refine' kst_rangeD (σ := Unit) (fun _ => _) (fun _ => []) (fun _ => True) [] (fun pre _ => CmpInv xs ys pre) () (by rfl) (by first | exact rgX | assumption) (by exact small_down (by l_bnd) (by l_bnd) (by l_bnd) (by l_bnd)) (by exact rangeSize_downNat _ _) lF' lN' ?kf ?kk ?kp ?kt ?kd); (case kf => exact True.intro); (case kk => exact List.forall_mem_nil _); (case kp => exact CmpInv.start (by omega)); (case' kt => (clear lF' lN'; intro c pre k t u h tk own kEq kLt kOff kFacts kInv kFr kNews; have kMark := kstMark; try k_fold)); (case' kd => (clear lF' lN'; intro c u h tk kFacts kInv kFr kNews; have kMark := kstMark; try k_fold)))
  k_with "InvEndN" => ((rename News _ _ _ _ => nE'); (refine' kst_end (ps := fun _ => []) (Facts := fun _ => True) () ?zza nE' ?zzb ?zzc ?zzd True.intro (List.forall_mem_nil _) ?zze ?zzf); (case zza => assumption); (case zzb => kst_in); (case zzc => (intro p hp; kst_mem)); (case zzd => rfl); (case zze => (intro z h1 h2 h3; exact (if_neg h1).trans rfl)); (case zzf => exact CmpInv.turn (by assumption) (by assumption) (by assumption) (by assumption)))
  k_with "BodyEnd" => (k_dflt (first
  | ((refine Mine.end_new (by k_asm) (by k_asm) (by k_mem) (by kst_allIn) (by k_all) ?_); (refine Mine.outI ?_))
  | ((refine Mine.end_val (by k_asm) (by k_asm) (by kst_allIn) ?_))))
  k_with "eval Call" => ((with_reducible show wpAny _ _ (eval (PySem.Expr.Call (PySem.Expr.Name _ _) (PySem.Expr.Name _ _ :: _) [] _) _) _ _ _); k_dflt (first | (refine' Mine.call_names ?zF ?zX ?zT ?ze ?zk ?za ?zz ?zx ?zd ?zh ?zp ?_; (case zx => exact rfl); (case zz => exact rfl); (case zF => k_asm); (case zX => k_asm); (case zT => k_asm); (case ze => k_is); (case zk => k_is); (case za => walk_at "EvAll"); (case zd => decide); (case zh => exact rfl); (case zp => exact rfl)) | (refine' Mine.call_namesB ?zF ?zX ?zT ?ze ?zv ?zn ?za ?zz ?zx ?zd ?zh ?zp ?_; (case zx => exact rfl); (case zz => exact rfl); (case zF => k_asm); (case zX => k_asm); (case zT => k_asm); (case ze => k_is); (case zv => boot_by_name); (case zn => decide); (case za => walk_at "EvAll"); (case zd => decide); (case zh => exact rfl); (case zp => exact rfl))))
  k_with "storeName" => (dsimp only; walk_at "storeName")
  first | (refine (id (α := let zA9 := _; let ze9 := _; let zg9 := _; let zd9 := _; let zo9 := _; wpAny _ zA9 (execs _ ze9) _ _ (Shared.mk _ zg9 zd9 _ zo9)) ?_); intro zA9 ze9 zg9 zd9 zo9) | skip
  k_with "execs cons" => ((rename Fr _ _ _ _ => lF); (refine (id (α := let zu9 := _; Fr _ _ _ zu9 → _) ?_) lF); clear lF; intro zu9 lF9; (try k_gentoks); refine wpAny_execs_cons ?_; (try dsimp only))
  k_steps
  all_goals first
    | (rw [cmp_e1 (by assumption)]; exact outN)
    | (rw [cmp_e2 (by assumption) (by assumption)]; exact outN)
    | (rw [cmp_e3 (by assumption) (by assumption) (by assumption) (by assumption) (by assumption)]; exact outN)
    | (rw [cmp_e4 (by assumption) (by assumption) (by assumption) (by assumption) (by assumption)]; exact outN)
    | (rw [cmp_e5 (by assumption)]; exact outN)

end Mine
end

section
open PySem PySem.W PySem.Spec PySem.Calls PyProof.Rows

namespace Mine
theorem bodyEnd_sub {g : Heap} {need need' : List (Addr × Obj)} {P P' : List (Addr × Obj) → Value → Prop} {v : Value} {s s' : Shared} (h : BodyEnd g need P v s s') (hs : ∀ q ∈ need', q ∈ need) (hP : ∀ n, P n v → P' n v) : BodyEnd g need' P' v s s' := by
  obtain ⟨L', m', new, h', tk', e, F, N, hne, p⟩ := h
  exact ⟨L', m', new, h', tk', e, F, fun q hq => N q ((List.mem_append.mp hq).elim (fun z => List.mem_append.mpr (.inl z)) fun z => List.mem_append.mpr (.inr (hs q z))), fun p hp q hq => hne p hp q (hs q hq), hP _ p⟩
set_option maxRecDepth 100000 in
set_option maxHeartbeats 8000000 in
theorem addt_c {w : World} {p' : Program} {loose : List Str} {mean : ExcName → Option Value} {mg mb u : Str → Option Value} {dp un : Nat} {gd : Option (List Code)} {cn : Str} {cs : Scope} {a L' : Addr} {ccd : Value} {cl : List (Str × Addr)} {outer : List Env} {base g' : Heap} {L : Addr} {s0 : Shared} {hs : Heap} {tks : Nat}
    {name qual : Str} {params : Arguments} {body st : List Stmt} {scope : Scope} {dV kV doc pm cdv ct oc : Value} {an od : Option Addr} {osl : Array (Option Value)}
    (ho : (Mine.hd.heap_39 w.params).lookup 60 = some ⟨oc, od, .func (fnOf name qual params body scope dV kV doc pm an cdv ct), osl⟩) (hst : body.drop 1 = st)
    (B' : Below (ktrTop dp un gd cn cs L a ccd cl outer) base (envX cn cs L a ccd cl :: outer) g') (X : (Mine.hd.heap_39 w.params).In g') (T' : Top p' loose mean mg mb g') (hk : cs.kind = .function) (hd : dp + 1 < recursionLimit) (hu : un + 8 < cLine)
    {x y : Addr} {vs us : List Value} {xs ys : List Int} {c d : Nat} {k : Int} {tw : Tok}
    (F' : Fr g' L' hs (kstB u [(Str.ofString "a", .ref x), (Str.ofString "b", .ref y), (Str.ofString "w", .int k tw)])) (N' : News g' L' hs [(x, listOf vs.toArray c), (y, listOf us.toArray d)])
    (hle : ys.length ≤ xs.length) (hi : IntsAre vs xs) (hj : IntsAre us ys) (hb : xs.length ≤ 200) (hb2 : ys.length ≤ 200) (h2 : 2 ≤ k) (h8 : k ≤ 8) (gx : ∀ z ∈ xs, 0 ≤ z) (gy : ∀ z ∈ ys, 0 ≤ z) :
    wpAny (model PySem.Challenge.rw_pq0542_01.row.prog w) ((ktrTop dp un gd cn cs L a ccd cl outer).deeper (envOf qual scope L' 60 cdv)) (execs st (envOf qual scope L' 60 cdv)) (fun fl s' => BodyEnd g' [(x, listOf vs.toArray c), (y, listOf us.toArray d)] (OutI (addZ k xs ys)) (match fl with | .ret v => v | _ => .none) s0 s') (fun _ _ => False) { s0 with heap := hs, toks := tks } := by
  k_with_none
  k_with "Om" => (first | walk_at "MineRoom" | exact Int.natCast_nonneg _ | exact Mine.i_up (by with_reducible assumption) rfl | exact Mine.i_dn (by with_reducible assumption) rfl | exact Mine.i_lt (by with_reducible assumption) rfl | exact Mine.i_gt (by with_reducible assumption) rfl | exact Mine.n_up (by with_reducible assumption) rfl | exact Mine.n_eq (by with_reducible assumption) rfl | exact Mine.n_ge (by with_reducible assumption) rfl | exact Mine.sub0n)
  k_with "EvAll" => (first | exact Mine.EvAll.nil | exact Mine.evs_L (by k_asm) (by exact rfl) rfl rfl (by decide) (by walk_at "EvAll") | exact Mine.evs_C (by k_asm) (by exact rfl) (by k_mem) (by assumption) rfl rfl (by decide) (by walk_at "EvAll"))
  k_with "MineLt" => (first | ((repeat (first | exact Nat.lt_succ_self _ | refine Nat.lt_succ_of_lt ?_)); done) | ((repeat (refine Nat.lt_succ_of_lt ?_)); with_reducible assumption))
  k_with "MineLt2" => (refine Nat.lt_trans ?_ (by with_reducible assumption); walk_at "MineLt")
  k_with "MineRoom" => (k_whole; first | exact Mine.room1 (by with_reducible assumption) rfl | exact Mine.room2 (by with_reducible assumption) rfl | exact Mine.room3 (by with_reducible assumption) rfl | exact Mine.room4 (by with_reducible assumption) rfl | exact Mine.room5 (by with_reducible assumption) rfl | exact Mine.room0 (by with_reducible assumption))
  w_top off
  revert X; k_fill; intro X
  subst hst
  k_dflt (refine' tail_of (P := fun qual scope body cdv => wpAny (model PySem.Challenge.rw_pq0542_01.row.prog w) ((ktrTop dp un gd cn cs L a ccd cl outer).deeper (envOf qual scope L' 60 cdv)) (execs (body.drop 1) (envOf qual scope L' 60 cdv)) (fun fl s' => BodyEnd g' [(x, listOf vs.toArray c), (y, listOf us.toArray d)] (OutI (addZ k xs ys)) (match fl with | .ret v => v | _ => .none) s0 s') (fun _ _ => False) { s0 with heap := hs, toks := tks }) ho ?e ?h; (case e => k_is))
  all_goals try dsimp only [List.drop]
  (try dsimp only [kstB] at F')
  try k_fold
  k_with "pyIter ref" => k_state_given ["a", "b", "w", "found!"] (fun a b w f0 pre carry found => found.length = f0.length + pre.length ∧ found.length ≤ a.length ∧ AddInv w a b carry found) "carry" "found"
  k_with "state" => first | exact ⟨rfl, Nat.zero_le _, AddInv.start (by omega) (by assumption) (by assumption)⟩ | exact ⟨rfl, by assumption, by assumption⟩ | exact add_turn1 (by assumption) (by assumption) (by assumption) (by assumption) | exact add_turn2 (by assumption) (by assumption) (by assumption) (by assumption) (by assumption)
  k_with "BodyEnd" => (k_dflt (first
  | ((refine Mine.end_new (by k_asm) (by k_asm) (by k_mem) (by kst_allIn) (by k_all) ?_); (refine Mine.outI ?_))
  | ((refine Mine.end_val (by k_asm) (by k_asm) (by kst_allIn) ?_))))
  k_with "subscriptTail Name Slice ref ref" => (((with_reducible show wpAny _ _ (subscriptTail _ (PySem.Expr.Slice _ _ none _) (Value.ref _) (Value.ref _)) _ _ _); k_dflt (refine' kmk_slice_ints ?sF ?sN ?sl ?sp ?sq ?si ?sm ?sc ?_ ?ss ?st ?sz; (case sF => k_asm); (case sN => k_asm); (case sl => kmk_list); (case sp => kmk_part); (case sq => kmk_part); (case si => l_ints); (case sm => first | (with_reducible exact kmk_all (by assumption)) | (with_reducible exact kmk_upto (by assumption) (by first | assumption | walk_at "Om" | omega))); (case sc => exact rfl); (case ss => with_unfolding_all rfl); (case st => kmk_pure); (case sz => exact kmk_sz (by assumption) (by rw [sizeLine_eq]; omega)); intro D9 ws9 h9 F9 N9 l9 I9 C9 L9; (try k_lt l9); (try k_sweep))))
  k_with "BodyEndU" => (first
  | ((refine Mine.end_newU (by k_asm) (by k_asm) (by k_mem) (by k_mem) (by kst_allIn) (And.intro (by k_ne) (Mine.ne_allOf (by (simp only [Mine.AllNe, and_true]; (repeat' (refine And.intro ?_ ?_)) <;> first | assumption | k_ne)))) ?_))
  | ((refine Mine.end_valU (by k_asm) (by k_asm) (by k_mem) (by kst_allIn) ?_)))
  k_with "eval Call" => ((with_reducible show wpAny _ _ (eval (PySem.Expr.Call (PySem.Expr.Name _ _) (PySem.Expr.Name _ _ :: _) [] _) _) _ _ _); k_dflt (first | (refine' Mine.call_names ?zF ?zX ?zT ?ze ?zk ?za ?zz ?zx ?zd ?zh ?zp ?_; (case zx => exact rfl); (case zz => exact rfl); (case zF => k_asm); (case zX => k_asm); (case zT => k_asm); (case ze => k_is); (case zk => k_is); (case za => walk_at "EvAll"); (case zd => decide); (case zh => exact rfl); (case zp => exact rfl)) | (refine' Mine.call_namesB ?zF ?zX ?zT ?ze ?zv ?zn ?za ?zz ?zx ?zd ?zh ?zp ?_; (case zx => exact rfl); (case zz => exact rfl); (case zF => k_asm); (case zX => k_asm); (case zT => k_asm); (case ze => k_is); (case zv => boot_by_name); (case zn => decide); (case za => walk_at "EvAll"); (case zd => decide); (case zh => exact rfl); (case zp => exact rfl))))
  k_with "storeName" => (dsimp only; walk_at "storeName")
  first | (refine (id (α := let zA9 := _; let ze9 := _; let zg9 := _; let zd9 := _; let zo9 := _; wpAny _ zA9 (execs _ ze9) _ _ (Shared.mk _ zg9 zd9 _ zo9)) ?_); intro zA9 ze9 zg9 zd9 zo9) | skip
  k_steps
  all_goals first
    | (rw [← add_endB (by assumption) (by assumption) (by assumption) (by assumption)]; assumption)
    | (rw [← add_endA (by assumption) (by assumption) (by assumption) (by assumption), List.concat_eq_append]; exact IntsAre.append (by assumption) (IntsAre.cons _ _ .nil))
set_option maxRecDepth 100000 in
set_option maxHeartbeats 8000000 in
theorem add_c {w : World} {p : Program} {loose : List Str} {mean : ExcName → Option Value} {mg mb : Str → Option Value} {dp un : Nat} {gd : Option (List Code)} {cn : Str} {cs : Scope} {a : Addr} {ccd : Value} {cl : List (Str × Addr)} {outer : List Env} {A₀ : Around} {base h₀ : Heap} {L : Addr} {m : Str → Option Value} {news : List (Addr × Obj)} {s : Shared} {Q E : Value → Shared → Prop}
    (B : Below A₀ base outer h₀) (F : Fr h₀ L s.heap m) (X : (Mine.hd.heap_39 w.params).In h₀) (N : News h₀ L s.heap news) (T : Top p loose mean mg mb h₀) (hk : cs.kind = .function) (hd : dp + 1 < recursionLimit) (hu : un + 8 < cLine)
    {x y : Addr} {vs us : List Value} {xs ys : List Int} {c d : Nat} {k : Int} {tw : Tok} (hm : (x, listOf vs.toArray c) ∈ news) (hm2 : (y, listOf us.toArray d) ∈ news) (hi : IntsAre vs xs) (hj : IntsAre us ys) (hb : xs.length ≤ 200) (hb2 : ys.length ≤ 200) (h2 : 2 ≤ k) (h8 : k ≤ 8) (gx : ∀ z ∈ xs, 0 ≤ z) (gy : ∀ z ∈ ys, 0 ≤ z)
    (ret : ∀ r us c' h' tk', Fr h₀ L h' m → News h₀ L h' ((r, listOf us.toArray c') :: news) → (∀ q ∈ news, r ≠ q.1) → IntsAre us (addZ k xs ys) → Q (.ref r) { s with heap := h', toks := tk' }) :
    wpAny (model PySem.Challenge.rw_pq0542_01.row.prog w) (ktrTop dp un gd cn cs L a ccd cl outer) (call (.ref 60) [Value.ref x, Value.ref y, Value.int k tw]) Q E s := by
  k_with_none
  k_with "Om" => (first | walk_at "MineRoom" | exact Int.natCast_nonneg _ | exact Mine.i_up (by with_reducible assumption) rfl | exact Mine.i_dn (by with_reducible assumption) rfl | exact Mine.i_lt (by with_reducible assumption) rfl | exact Mine.i_gt (by with_reducible assumption) rfl | exact Mine.n_up (by with_reducible assumption) rfl | exact Mine.n_eq (by with_reducible assumption) rfl | exact Mine.n_ge (by with_reducible assumption) rfl | exact Mine.sub0n)
  k_with "EvAll" => (first | exact Mine.EvAll.nil | exact Mine.evs_L (by k_asm) (by exact rfl) rfl rfl (by decide) (by walk_at "EvAll") | exact Mine.evs_C (by k_asm) (by exact rfl) (by k_mem) (by assumption) rfl rfl (by decide) (by walk_at "EvAll"))
  k_with "MineLt" => (first | ((repeat (first | exact Nat.lt_succ_self _ | refine Nat.lt_succ_of_lt ?_)); done) | ((repeat (refine Nat.lt_succ_of_lt ?_)); with_reducible assumption))
  k_with "MineLt2" => (refine Nat.lt_trans ?_ (by with_reducible assumption); walk_at "MineLt")
  k_with "MineRoom" => (k_whole; first | exact Mine.room1 (by with_reducible assumption) rfl | exact Mine.room2 (by with_reducible assumption) rfl | exact Mine.room3 (by with_reducible assumption) rfl | exact Mine.room4 (by with_reducible assumption) rfl | exact Mine.room5 (by with_reducible assumption) rfl | exact Mine.room0 (by with_reducible assumption))
  w_top off
  revert X; k_fill; intro X
  k_dflt (refine' call_r2 [(x, listOf vs.toArray c), (y, listOf us.toArray d)] (OutI (addZ k xs ys)) ?k1 ?k2 ?k3 ?k4 ?k5 ?ks ?kA ?kF ?kK ?k6 ?k7 ?k8 ?k9 ?kB ?kR (ps := [(Str.ofString "a", Value.ref x), (Str.ofString "b", Value.ref y), (Str.ofString "w", Value.int k tw)]) ?kP ?_ ?c2 ?c3 ?c4 ?c5; (case kA => exact rfl); (case kF => exact rfl); (case kK => assumption); (case k1 => k_asm); (case k2 => k_asm); (case k3 => k_asm); (case k4 => k_asm); (case k5 => k_asm); (case k6 => k_is); (case k7 => k_is); (case k8 => (show dp < recursionLimit; first | walk_at "MineRoom" | omega)); (case k9 => exact BindsTo.of_eq rfl); (case c5 => decide); (case kB => exact locs rfl); (case kP => kst_all); (case c2 => exact rfl); (case c3 => exact rfl); (case c4 => exact rfl))
  case ks => exact List.forall_mem_cons.mpr ⟨hm, List.forall_mem_cons.mpr ⟨hm2, List.forall_mem_nil _⟩⟩
  case kR =>
    rintro v new h' tk' F' N' hne ⟨r, us, c', rfl, rfl, hI⟩
    exact ret r us c' h' tk' F' N' (fun q hq => hne _ (.head _) q hq) hI
  clear B F X N T ret
  clear hm hm2
  intro g' L' h' u tk₁ F' N' B' X' T'
  (try dsimp only [kstB] at F')
  try dsimp only
  try k_fold
  k_with "execs cons" => ((with_reducible show wpAny _ _ (execs (PySem.Stmt.Assign _ _ _ :: PySem.Stmt.For _ _ _ _ _ :: _) _) _ _ _); (rename Fr _ _ _ _ => lF'); (rename News _ _ _ _ => lN'); k_dflt (first
    | (refine' wpAny_mono (addt_c (xs := ys) (ys := xs) ?ho ?hst ?hB ?hX ?hT ?hk ?hd ?hu ?hF ?hN ?hle hj hi hb2 hb h2 h8 gy gx) (fun fl s' hl => bodyEnd_sub hl ?hs ?hP) (fun _ _ z => z); (case ho => k_is); (case hst => exact rfl); (case hF => exact fr_names lF' (by kst_all)); (case hN => exact kst_newsOf lN' (by kst_allIn)); (case hB => assumption); (case hX => assumption); (case hT => assumption); (case hk => exact hk); (case hd => exact hd); (case hu => exact hu); (case hle => first | walk_at "Om" | omega); (case hs => kst_allIn); (case hP => (intro n hn; rw [addZ_comm]; exact hn)))
    | (refine' addt_c (xs := xs) (ys := ys) ?ho ?hst ?hB ?hX ?hT ?hk ?hd ?hu ?hF ?hN ?hle hi hj hb hb2 h2 h8 gx gy; (case ho => k_is); (case hst => exact rfl); (case hF => exact fr_names lF' (by kst_all)); (case hN => exact kst_newsOf lN' (by kst_allIn)); (case hB => assumption); (case hX => assumption); (case hT => assumption); (case hk => exact hk); (case hd => exact hd); (case hu => exact hu); (case hle => first | walk_at "Om" | omega))))
  k_with "BodyEnd" => (k_dflt (first
  | ((refine Mine.end_new (by k_asm) (by k_asm) (by k_mem) (by kst_allIn) (by k_all) ?_); (refine Mine.outI ?_))
  | ((refine Mine.end_val (by k_asm) (by k_asm) (by kst_allIn) ?_))))
  k_with "subscriptTail Name Slice ref ref" => (((with_reducible show wpAny _ _ (subscriptTail _ (PySem.Expr.Slice _ _ none _) (Value.ref _) (Value.ref _)) _ _ _); k_dflt (refine' kmk_slice_ints ?sF ?sN ?sl ?sp ?sq ?si ?sm ?sc ?_ ?ss ?st ?sz; (case sF => k_asm); (case sN => k_asm); (case sl => kmk_list); (case sp => kmk_part); (case sq => kmk_part); (case si => l_ints); (case sm => first | (with_reducible exact kmk_all (by assumption)) | (with_reducible exact kmk_upto (by assumption) (by first | assumption | walk_at "Om" | omega))); (case sc => exact rfl); (case ss => with_unfolding_all rfl); (case st => kmk_pure); (case sz => exact kmk_sz (by assumption) (by rw [sizeLine_eq]; omega)); intro D9 ws9 h9 F9 N9 l9 I9 C9 L9; (try k_lt l9); (try k_sweep))))
  k_with "BodyEndU" => (first
  | ((refine Mine.end_newU (by k_asm) (by k_asm) (by k_mem) (by k_mem) (by kst_allIn) (And.intro (by k_ne) (Mine.ne_allOf (by (simp only [Mine.AllNe, and_true]; (repeat' (refine And.intro ?_ ?_)) <;> first | assumption | k_ne)))) ?_))
  | ((refine Mine.end_valU (by k_asm) (by k_asm) (by k_mem) (by kst_allIn) ?_)))
  k_with "eval Call" => ((with_reducible show wpAny _ _ (eval (PySem.Expr.Call (PySem.Expr.Name _ _) (PySem.Expr.Name _ _ :: _) [] _) _) _ _ _); k_dflt (first | (refine' Mine.call_names ?zF ?zX ?zT ?ze ?zk ?za ?zz ?zx ?zd ?zh ?zp ?_; (case zx => exact rfl); (case zz => exact rfl); (case zF => k_asm); (case zX => k_asm); (case zT => k_asm); (case ze => k_is); (case zk => k_is); (case za => walk_at "EvAll"); (case zd => decide); (case zh => exact rfl); (case zp => exact rfl)) | (refine' Mine.call_namesB ?zF ?zX ?zT ?ze ?zv ?zn ?za ?zz ?zx ?zd ?zh ?zp ?_; (case zx => exact rfl); (case zz => exact rfl); (case zF => k_asm); (case zX => k_asm); (case zT => k_asm); (case ze => k_is); (case zv => boot_by_name); (case zn => decide); (case za => walk_at "EvAll"); (case zd => decide); (case zh => exact rfl); (case zp => exact rfl))))
  k_with "storeName" => (dsimp only; walk_at "storeName")
  first | (refine (id (α := let zA9 := _; let ze9 := _; let zg9 := _; let zd9 := _; let zo9 := _; wpAny _ zA9 (execs _ ze9) _ _ (Shared.mk _ zg9 zd9 _ zo9)) ?_); intro zA9 ze9 zg9 zd9 zo9) | skip
  k_steps


end Mine
end

section
open PySem PySem.W PySem.Spec PySem.Calls PyProof.Rows

namespace Mine

set_option maxRecDepth 100000 in
set_option maxHeartbeats 8000000 in
theorem low_c {w : World} {p : Program} {loose : List Str} {mean : ExcName → Option Value} {mg mb : Str → Option Value} {dp un : Nat} {gd : Option (List Code)} {cn : Str} {cs : Scope} {a : Addr} {ccd : Value} {cl : List (Str × Addr)} {outer : List Env} {A₀ : Around} {base h₀ : Heap} {L : Addr} {m : Str → Option Value} {news : List (Addr × Obj)} {s : Shared} {Q E : Value → Shared → Prop}
    (B : Below A₀ base outer h₀) (F : Fr h₀ L s.heap m) (X : (Mine.hd.heap_39 w.params).In h₀) (N : News h₀ L s.heap news) (T : Top p loose mean mg mb h₀) (hk : cs.kind = .function) (hd : dp + 2 < recursionLimit) (hu : un + 20 < cLine)
    {x : Addr} {vs : List Value} {xs : List Int} {c : Nat} {k n : Int} {tw tn : Tok} (hm : (x, listOf vs.toArray c) ∈ news) (hi : IntsAre vs xs) (hb : xs.length ≤ 200) (h2 : 2 ≤ k) (h8 : k ≤ 8) (n0 : 0 ≤ n) (n9 : n ≤ 60)
    (ret : ∀ r us c' h' tk', Fr h₀ L h' m → News h₀ L h' ((r, listOf us.toArray c') :: news) → (∀ q ∈ news, r ≠ q.1) → IntsAre us (lowZ k n xs) → Q (.ref r) { s with heap := h', toks := tk' }) :
    wpAny (model PySem.Challenge.rw_pq0542_01.row.prog w) (ktrTop dp un gd cn cs L a ccd cl outer) (call (.ref 95) [Value.ref x, Value.int n tn, Value.int k tw]) Q E s := by
  k_with_none
  k_with "Om" => (first | walk_at "MineRoom" | exact Int.natCast_nonneg _ | exact Mine.i_up (by with_reducible assumption) rfl | exact Mine.i_dn (by with_reducible assumption) rfl | exact Mine.i_lt (by with_reducible assumption) rfl | exact Mine.i_gt (by with_reducible assumption) rfl | exact Mine.n_up (by with_reducible assumption) rfl | exact Mine.n_eq (by with_reducible assumption) rfl | exact Mine.n_ge (by with_reducible assumption) rfl | exact Mine.sub0n)
  k_with "EvAll" => (first | exact Mine.EvAll.nil | exact Mine.evs_L (by k_asm) (by exact rfl) rfl rfl (by decide) (by walk_at "EvAll") | exact Mine.evs_C (by k_asm) (by exact rfl) (by k_mem) (by assumption) rfl rfl (by decide) (by walk_at "EvAll"))
  k_with "MineLt" => (first | ((repeat (first | exact Nat.lt_succ_self _ | refine Nat.lt_succ_of_lt ?_)); done) | ((repeat (refine Nat.lt_succ_of_lt ?_)); with_reducible assumption))
  k_with "MineLt2" => (refine Nat.lt_trans ?_ (by with_reducible assumption); walk_at "MineLt")
  k_with "MineRoom" => (k_whole; first | exact Mine.room1 (by with_reducible assumption) rfl | exact Mine.room2 (by with_reducible assumption) rfl | exact Mine.room3 (by with_reducible assumption) rfl | exact Mine.room4 (by with_reducible assumption) rfl | exact Mine.room5 (by with_reducible assumption) rfl | exact Mine.room0 (by with_reducible assumption))
  w_top off
  revert X; k_fill; intro X
  k_dflt (refine' call_r2 [(x, listOf vs.toArray c)] (OutI (lowZ k n xs)) ?k1 ?k2 ?k3 ?k4 ?k5 ?ks ?kA ?kF ?kK ?k6 ?k7 ?k8 ?k9 ?kB ?kR (ps := [(Str.ofString "a", Value.ref x), (Str.ofString "n", Value.int n tn), (Str.ofString "w", Value.int k tw)]) ?kP ?_ ?c2 ?c3 ?c4 ?c5; (case kA => exact rfl); (case kF => exact rfl); (case kK => assumption); (case k1 => k_asm); (case k2 => k_asm); (case k3 => k_asm); (case k4 => k_asm); (case k5 => k_asm); (case k6 => k_is); (case k7 => k_is); (case k8 => (show dp < recursionLimit; first | walk_at "MineRoom" | omega)); (case k9 => exact BindsTo.of_eq rfl); (case c5 => decide); (case kB => exact locs rfl); (case kP => kst_all); (case c2 => exact rfl); (case c3 => exact rfl); (case c4 => exact rfl))
  case ks => exact List.forall_mem_cons.mpr ⟨hm, List.forall_mem_nil _⟩
  case kR =>
    rintro v new h' tk' F' N' hne ⟨r, us, c', rfl, rfl, hI⟩
    exact ret r us c' h' tk' F' N' (fun q hq => hne _ (.head _) q hq) hI
  clear B F X N T ret
  clear hm
  intro g' L' h' u tk₁ F' N' B' X' T'
  (try dsimp only [kstB] at F')
  try dsimp only
  try k_fold
  have q0 : 0 ≤ n.fdiv k := fdiv_ge n0 (by omega)
  have q9 : n.fdiv k ≤ 60 := Int.le_trans (fdiv_le n0 (by omega)) n9
  have r0 : 0 ≤ n.fmod k := fmod_ge n0 (by omega)
  have r9 : n.fmod k ≤ 7 := Int.le_of_lt_add_one (Int.lt_of_lt_of_le (fmod_lt n (by omega)) h8)
  k_with "BodyEnd" => (k_dflt (first
  | ((refine Mine.end_new (by k_asm) (by k_asm) (by k_mem) (by kst_allIn) (by k_all) ?_); (refine Mine.outI ?_))
  | ((refine Mine.end_val (by k_asm) (by k_asm) (by kst_allIn) ?_))))
  k_with "call ref" => (((with_reducible show wpAny _ _ (call (Value.ref 46) _) _ _ _); k_dflt (refine' Mine.normal_c ?uB ?uF ?uX ?uN ?uT ?uk ?ud ?uu ?p0 ?p1 ?p2 ?ur; (case uB => k_asm); (case uF => k_asm); (case uX => k_asm); (case uN => k_asm); (case uT => k_asm); (case uk => exact rfl); (case ud => ((try dsimp only [ktrTop, Around.deeper, callerA]); first | walk_at "MineRoom" | omega | decide)); (case uu => ((try dsimp only [ktrTop, Around.deeper, callerA]); first | walk_at "MineRoom" | omega | decide)); (case p0 => k_mem); (case p1 => l_ints); (case p2 => first | assumption | ((try simp only [List.length_append, List.length_cons, List.length_nil, List.length_take]); omega)); (case' ur => (intro r9 us9 c9 h9 tk9 F9 N9 ne9 I9; (replace ne9 := Mine.allNe_of ne9; simp only [Mine.AllNe, and_true] at ne9); (try k_sweep); (try dsimp only); (try k_fold))))))
  k_with "subscriptTail Name Slice ref ref" => (((with_reducible show wpAny _ _ (subscriptTail _ (PySem.Expr.Slice _ _ none _) (Value.ref _) (Value.ref _)) _ _ _); k_dflt (refine' kmk_slice_ints ?sF ?sN ?sl ?sp ?sq ?si ?sm ?sc ?sg ?ss ?st ?sz; (case sF => k_asm); (case sN => k_asm); (case sl => kmk_list); (case sp => kmk_part); (case sq => kmk_part); (case si => l_ints); (case sm => first | (with_reducible exact kmk_all (by assumption)) | (with_reducible exact kmk_upto (by assumption) (by first | assumption | walk_at "Om" | omega))); (case sc => exact rfl); (case ss => with_unfolding_all rfl); (case st => kmk_pure); (case sz => exact kmk_sz (by assumption) (by rw [sizeLine_eq]; omega)); (case' sg => (intro D9 ws9 h9 F9 N9 l9 I9 C9 L9; (try k_lt l9); (try k_sweep))))))
  k_with "eval Call" => ((with_reducible show wpAny _ _ (eval (PySem.Expr.Call (PySem.Expr.Name _ _) (PySem.Expr.Name _ _ :: _) [] _) _) _ _ _); k_dflt (first | (refine' Mine.call_names ?zF ?zX ?zT ?ze ?zk ?za ?zz ?zx ?zd ?zh ?zp ?_; (case zx => exact rfl); (case zz => exact rfl); (case zF => k_asm); (case zX => k_asm); (case zT => k_asm); (case ze => k_is); (case zk => k_is); (case za => walk_at "EvAll"); (case zd => decide); (case zh => exact rfl); (case zp => exact rfl)) | (refine' Mine.call_namesB ?zF ?zX ?zT ?ze ?zv ?zn ?za ?zz ?zx ?zd ?zh ?zp ?_; (case zx => exact rfl); (case zz => exact rfl); (case zF => k_asm); (case zX => k_asm); (case zT => k_asm); (case ze => k_is); (case zv => boot_by_name); (case zn => decide); (case za => walk_at "EvAll"); (case zd => decide); (case zh => exact rfl); (case zp => exact rfl))))
  k_with "storeName" => (dsimp only; walk_at "storeName")
  first | (refine (id (α := let zA9 := _; let ze9 := _; let zg9 := _; let zd9 := _; let zo9 := _; wpAny _ zA9 (execs _ ze9) _ _ (Shared.mk _ zg9 zd9 _ zo9)) ?_); intro zA9 ze9 zg9 zd9 zo9) | skip
  k_with "execs cons" => ((rename Fr _ _ _ _ => lF); (refine (id (α := let zu9 := _; Fr _ _ _ zu9 → _) ?_) lF); clear lF; intro zu9 lF9; (try k_gentoks); refine wpAny_execs_cons ?_; (try dsimp only))
  k_steps
  all_goals first
    | (rw [lowZ, if_pos (by assumption)]; assumption)
    | (rw [lowZ, if_neg (by assumption), ← mask_is]; assumption)

end Mine
end

section
open PySem PySem.W PySem.Spec PySem.Calls PyProof.Rows

namespace Mine
set_option maxRecDepth 100000 in
set_option maxHeartbeats 8000000 in
theorem shl_c {w : World} {p : Program} {loose : List Str} {mean : ExcName → Option Value} {mg mb : Str → Option Value} {dp un : Nat} {gd : Option (List Code)} {cn : Str} {cs : Scope} {a : Addr} {ccd : Value} {cl : List (Str × Addr)} {outer : List Env} {A₀ : Around} {base h₀ : Heap} {L : Addr} {m : Str → Option Value} {news : List (Addr × Obj)} {s : Shared} {Q E : Value → Shared → Prop}
    (B : Below A₀ base outer h₀) (F : Fr h₀ L s.heap m) (X : (Mine.hd.heap_39 w.params).In h₀) (N : News h₀ L s.heap news) (T : Top p loose mean mg mb h₀) (hk : cs.kind = .function) (hd : dp + 1 < recursionLimit) (hu : un + 8 < cLine)
    {x : Addr} {vs : List Value} {xs : List Int} {c : Nat} {k n : Int} {tw tn : Tok} (hm : (x, listOf vs.toArray c) ∈ news) (hi : IntsAre vs xs) (hb : xs.length ≤ 200) (h2 : 2 ≤ k) (h8 : k ≤ 8) (n0 : 0 ≤ n) (n9 : n ≤ 1) (gx : ∀ z ∈ xs, 0 ≤ z ∧ z < 256)
    (ret : ∀ r us c' h' tk', Fr h₀ L h' m → News h₀ L h' ((r, listOf us.toArray c') :: news) → (∀ q ∈ news, r ≠ q.1) → IntsAre us (shlZ k n xs) → Q (.ref r) { s with heap := h', toks := tk' }) :
    wpAny (model PySem.Challenge.rw_pq0542_01.row.prog w) (ktrTop dp un gd cn cs L a ccd cl outer) (call (.ref 74) [Value.ref x, Value.int n tn, Value.int k tw]) Q E s := by
  k_with_none
  k_with "Om" => (first | walk_at "MineRoom" | exact Int.natCast_nonneg _ | exact Mine.i_up (by with_reducible assumption) rfl | exact Mine.i_dn (by with_reducible assumption) rfl | exact Mine.i_lt (by with_reducible assumption) rfl | exact Mine.i_gt (by with_reducible assumption) rfl | exact Mine.n_up (by with_reducible assumption) rfl | exact Mine.n_eq (by with_reducible assumption) rfl | exact Mine.n_ge (by with_reducible assumption) rfl | exact Mine.sub0n)
  k_with "EvAll" => (first | exact Mine.EvAll.nil | exact Mine.evs_L (by k_asm) (by exact rfl) rfl rfl (by decide) (by walk_at "EvAll") | exact Mine.evs_C (by k_asm) (by exact rfl) (by k_mem) (by assumption) rfl rfl (by decide) (by walk_at "EvAll"))
  k_with "MineLt" => (first | ((repeat (first | exact Nat.lt_succ_self _ | refine Nat.lt_succ_of_lt ?_)); done) | ((repeat (refine Nat.lt_succ_of_lt ?_)); with_reducible assumption))
  k_with "MineLt2" => (refine Nat.lt_trans ?_ (by with_reducible assumption); walk_at "MineLt")
  k_with "MineRoom" => (k_whole; first | exact Mine.room1 (by with_reducible assumption) rfl | exact Mine.room2 (by with_reducible assumption) rfl | exact Mine.room3 (by with_reducible assumption) rfl | exact Mine.room4 (by with_reducible assumption) rfl | exact Mine.room5 (by with_reducible assumption) rfl | exact Mine.room0 (by with_reducible assumption))
  w_top off
  revert X; k_fill; intro X
  k_dflt (refine' call_r2 [(x, listOf vs.toArray c)] (OutI (shlZ k n xs)) ?k1 ?k2 ?k3 ?k4 ?k5 ?ks ?kA ?kF ?kK ?k6 ?k7 ?k8 ?k9 ?kB ?kR (ps := [(Str.ofString "a", Value.ref x), (Str.ofString "n", Value.int n tn), (Str.ofString "w", Value.int k tw)]) ?kP ?_ ?c2 ?c3 ?c4 ?c5; (case kA => exact rfl); (case kF => exact rfl); (case kK => assumption); (case k1 => k_asm); (case k2 => k_asm); (case k3 => k_asm); (case k4 => k_asm); (case k5 => k_asm); (case k6 => k_is); (case k7 => k_is); (case k8 => (show dp < recursionLimit; first | walk_at "MineRoom" | omega)); (case k9 => exact BindsTo.of_eq rfl); (case c5 => decide); (case kB => exact locs rfl); (case kP => kst_all); (case c2 => exact rfl); (case c3 => exact rfl); (case c4 => exact rfl))
  case ks => exact List.forall_mem_cons.mpr ⟨hm, List.forall_mem_nil _⟩
  case kR =>
    rintro v new h' tk' F' N' hne ⟨r, us, c', rfl, rfl, hI⟩
    exact ret r us c' h' tk' F' N' (fun q hq => hne _ (.head _) q hq) hI
  clear B F X N T ret
  clear hm
  intro g' L' h' u tk₁ F' N' B' X' T'
  (try dsimp only [kstB] at F')
  try dsimp only
  try k_fold
  have hq : n.fdiv k = 0 := fdiv_small n0 (by omega)
  have hr : n.fmod k = n := fmod_small n0 (by omega)
  k_with "binaryOp Mult ref int" => rw [hq]
  k_with "pyIter ref" => k_state (fun pre carry found => found.length = pre.length ∧ found.length ≤ xs.length ∧ ShlInv k (n.fmod k) xs carry found) "carry" "found"
  k_with "state" => first | exact ⟨rfl, Nat.zero_le _, ShlInv.start⟩ | exact shl_turn (by assumption) (by assumption) (by assumption)
  k_with "BodyEnd" => (k_dflt (first
  | ((refine Mine.end_new (by k_asm) (by k_asm) (by k_mem) (by kst_allIn) (by k_all) ?_); (refine Mine.outI ?_))
  | ((refine Mine.end_val (by k_asm) (by k_asm) (by kst_allIn) ?_))))
  k_with "binaryOp LShift int int" => ((with_reducible refine lshift_int_small (by omega) (by omega) (by first | decide | exact Mine.small_of (by assumption) (by assumption)) ?_))
  k_with "subscriptTail Name Slice ref ref" => (((with_reducible show wpAny _ _ (subscriptTail _ (PySem.Expr.Slice _ _ none _) (Value.ref _) (Value.ref _)) _ _ _); k_dflt (refine' kmk_slice_ints ?sF ?sN ?sl ?sp ?sq ?si ?sm ?sc ?_ ?ss ?st ?sz; (case sF => k_asm); (case sN => k_asm); (case sl => kmk_list); (case sp => kmk_part); (case sq => kmk_part); (case si => l_ints); (case sm => first | (with_reducible exact kmk_all (by assumption)) | (with_reducible exact kmk_upto (by assumption) (by first | assumption | walk_at "Om" | omega))); (case sc => exact rfl); (case ss => with_unfolding_all rfl); (case st => kmk_pure); (case sz => exact kmk_sz (by assumption) (by rw [sizeLine_eq]; omega)); intro D9 ws9 h9 F9 N9 l9 I9 C9 L9; (try k_lt l9); (try k_sweep))))
  k_with "eval Call" => ((with_reducible show wpAny _ _ (eval (PySem.Expr.Call (PySem.Expr.Name _ _) (PySem.Expr.Name _ _ :: _) [] _) _) _ _ _); k_dflt (first | (refine' Mine.call_names ?zF ?zX ?zT ?ze ?zk ?za ?zz ?zx ?zd ?zh ?zp ?_; (case zx => exact rfl); (case zz => exact rfl); (case zF => k_asm); (case zX => k_asm); (case zT => k_asm); (case ze => k_is); (case zk => k_is); (case za => walk_at "EvAll"); (case zd => decide); (case zh => exact rfl); (case zp => exact rfl)) | (refine' Mine.call_namesB ?zF ?zX ?zT ?ze ?zv ?zn ?za ?zz ?zx ?zd ?zh ?zp ?_; (case zx => exact rfl); (case zz => exact rfl); (case zF => k_asm); (case zX => k_asm); (case zT => k_asm); (case ze => k_is); (case zv => boot_by_name); (case zn => decide); (case za => walk_at "EvAll"); (case zd => decide); (case zh => exact rfl); (case zp => exact rfl))))
  k_with "storeName" => (dsimp only; walk_at "storeName")
  first | (refine (id (α := let zA9 := _; let ze9 := _; let zg9 := _; let zd9 := _; let zo9 := _; wpAny _ zA9 (execs _ ze9) _ _ (Shared.mk _ zg9 zd9 _ zo9)) ?_); intro zA9 ze9 zg9 zd9 zo9) | skip
  k_steps
  all_goals first
    | (rw [← hr, ← shl_endB (by assumption) (by assumption) (by assumption)]; assumption)
    | (rw [← hr, ← shl_endA (by assumption) (by assumption) (by assumption), List.concat_eq_append]; exact IntsAre.append (by assumption) (IntsAre.cons _ _ .nil))
    | (rw [shlZ, shl_nil (by omega)]; exact IntsAre.nil)

end Mine
end

section
open PySem PySem.W PySem.Spec PySem.Calls PyProof.Rows

namespace Mine
set_option maxRecDepth 100000 in
set_option maxHeartbeats 8000000 in
theorem bits_c {w : World} {p : Program} {loose : List Str} {mean : ExcName → Option Value} {mg mb : Str → Option Value} {dp un : Nat} {gd : Option (List Code)} {cn : Str} {cs : Scope} {a : Addr} {ccd : Value} {cl : List (Str × Addr)} {outer : List Env} {A₀ : Around} {base h₀ : Heap} {L : Addr} {m : Str → Option Value} {news : List (Addr × Obj)} {s : Shared} {Q E : Value → Shared → Prop}
    (B : Below A₀ base outer h₀) (F : Fr h₀ L s.heap m) (X : (Mine.hd.heap_39 w.params).In h₀) (N : News h₀ L s.heap news) (T : Top p loose mean mg mb h₀) (hk : cs.kind = .function) (hd : dp + 1 < recursionLimit) (hu : un + 8 < cLine)
    {x : Addr} {vs : List Value} {xs : List Int} {c : Nat} {k : Int} {tw : Tok} (hm : (x, listOf vs.toArray c) ∈ news) (hi : IntsAre vs xs) (hb : xs.length ≤ 200) (h2 : 2 ≤ k) (h8 : k ≤ 8)
    (ret : ∀ t h' tk', Fr h₀ L h' m → News h₀ L h' news → Q (.int (bitsZ k xs) t) { s with heap := h', toks := tk' }) :
    wpAny (model PySem.Challenge.rw_pq0542_01.row.prog w) (ktrTop dp un gd cn cs L a ccd cl outer) (call (.ref 88) [Value.ref x, Value.int k tw]) Q E s := by
  k_with_none
  k_with "Om" => (first | walk_at "MineRoom" | exact Int.natCast_nonneg _ | exact Mine.i_up (by with_reducible assumption) rfl | exact Mine.i_dn (by with_reducible assumption) rfl | exact Mine.i_lt (by with_reducible assumption) rfl | exact Mine.i_gt (by with_reducible assumption) rfl | exact Mine.n_up (by with_reducible assumption) rfl | exact Mine.n_eq (by with_reducible assumption) rfl | exact Mine.n_ge (by with_reducible assumption) rfl | exact Mine.sub0n)
  k_with "EvAll" => (first | exact Mine.EvAll.nil | exact Mine.evs_L (by k_asm) (by exact rfl) rfl rfl (by decide) (by walk_at "EvAll") | exact Mine.evs_C (by k_asm) (by exact rfl) (by k_mem) (by assumption) rfl rfl (by decide) (by walk_at "EvAll"))
  k_with "MineLt" => (first | ((repeat (first | exact Nat.lt_succ_self _ | refine Nat.lt_succ_of_lt ?_)); done) | ((repeat (refine Nat.lt_succ_of_lt ?_)); with_reducible assumption))
  k_with "MineLt2" => (refine Nat.lt_trans ?_ (by with_reducible assumption); walk_at "MineLt")
  k_with "MineRoom" => (k_whole; first | exact Mine.room1 (by with_reducible assumption) rfl | exact Mine.room2 (by with_reducible assumption) rfl | exact Mine.room3 (by with_reducible assumption) rfl | exact Mine.room4 (by with_reducible assumption) rfl | exact Mine.room5 (by with_reducible assumption) rfl | exact Mine.room0 (by with_reducible assumption))
  w_top off
  revert X; k_fill; intro X
  k_dflt (refine' call_r2 [(x, listOf vs.toArray c)] (OutN (bitsZ k xs)) ?k1 ?k2 ?k3 ?k4 ?k5 ?ks ?kA ?kF ?kK ?k6 ?k7 ?k8 ?k9 ?kB ?kR (ps := [(Str.ofString "a", Value.ref x), (Str.ofString "w", Value.int k tw)]) ?kP ?_ ?c2 ?c3 ?c4 ?c5; (case kA => exact rfl); (case kF => exact rfl); (case kK => assumption); (case k1 => k_asm); (case k2 => k_asm); (case k3 => k_asm); (case k4 => k_asm); (case k5 => k_asm); (case k6 => k_is); (case k7 => k_is); (case k8 => (show dp < recursionLimit; first | walk_at "MineRoom" | omega)); (case k9 => exact BindsTo.of_eq rfl); (case c5 => decide); (case kB => exact locs rfl); (case kP => kst_all); (case c2 => exact rfl); (case c3 => exact rfl); (case c4 => exact rfl))
  case ks => exact List.forall_mem_cons.mpr ⟨hm, List.forall_mem_nil _⟩
  case kR =>
    rintro v new h' tk' F' N' hne ⟨rfl, t, rfl⟩
    exact ret t h' tk' F' N'
  clear B F X N T ret
  clear hm
  intro g' L' h' u tk₁ F' N' B' X' T'
  (try dsimp only [kstB] at F')
  try dsimp only
  try k_fold
  k_with "BodyEnd" => (k_dflt (first
  | ((refine Mine.end_new (by k_asm) (by k_asm) (by k_mem) (by kst_allIn) (by k_all) ?_); (refine Mine.outI ?_))
  | ((refine Mine.end_val (by k_asm) (by k_asm) (by kst_allIn) ?_))))
  k_with "subscriptTail Name Slice ref ref" => (((with_reducible show wpAny _ _ (subscriptTail _ (PySem.Expr.Slice _ _ none _) (Value.ref _) (Value.ref _)) _ _ _); k_dflt (refine' kmk_slice_ints ?sF ?sN ?sl ?sp ?sq ?si ?sm ?sc ?_ ?ss ?st ?sz; (case sF => k_asm); (case sN => k_asm); (case sl => kmk_list); (case sp => kmk_part); (case sq => kmk_part); (case si => l_ints); (case sm => first | (with_reducible exact kmk_all (by assumption)) | (with_reducible exact kmk_upto (by assumption) (by first | assumption | walk_at "Om" | omega))); (case sc => exact rfl); (case ss => with_unfolding_all rfl); (case st => kmk_pure); (case sz => exact kmk_sz (by assumption) (by rw [sizeLine_eq]; omega)); intro D9 ws9 h9 F9 N9 l9 I9 C9 L9; (try k_lt l9); (try k_sweep))))
  k_with "eval Call" => ((with_reducible show wpAny _ _ (eval (PySem.Expr.Call (PySem.Expr.Name _ _) (PySem.Expr.Name _ _ :: _) [] _) _) _ _ _); k_dflt (first | (refine' Mine.call_names ?zF ?zX ?zT ?ze ?zk ?za ?zz ?zx ?zd ?zh ?zp ?_; (case zx => exact rfl); (case zz => exact rfl); (case zF => k_asm); (case zX => k_asm); (case zT => k_asm); (case ze => k_is); (case zk => k_is); (case za => walk_at "EvAll"); (case zd => decide); (case zh => exact rfl); (case zp => exact rfl)) | (refine' Mine.call_namesB ?zF ?zX ?zT ?ze ?zv ?zn ?za ?zz ?zx ?zd ?zh ?zp ?_; (case zx => exact rfl); (case zz => exact rfl); (case zF => k_asm); (case zX => k_asm); (case zT => k_asm); (case ze => k_is); (case zv => boot_by_name); (case zn => decide); (case za => walk_at "EvAll"); (case zd => decide); (case zh => exact rfl); (case zp => exact rfl))))
  k_with "storeName" => (dsimp only; walk_at "storeName")
  first | (refine (id (α := let zA9 := _; let ze9 := _; let zg9 := _; let zd9 := _; let zo9 := _; wpAny _ zA9 (execs _ ze9) _ _ (Shared.mk _ zg9 zd9 _ zo9)) ?_); intro zA9 ze9 zg9 zd9 zo9) | skip
  k_steps
  all_goals first
    | (rw [bitsZ, if_pos (Int.ofNat_lt.mp (by assumption))]; exact outN)
    | (rw [bitsZ, if_neg (fun h9 => (by assumption : ¬ _) (Int.ofNat_lt.mpr h9))]; exact outN)

end Mine
end

section
open PySem PySem.W PySem.Spec PySem.Calls PyProof.Rows

namespace Mine


set_option maxRecDepth 100000 in
set_option maxHeartbeats 8000000 in
theorem sub_c {w : World} {p : Program} {loose : List Str} {mean : ExcName → Option Value} {mg mb : Str → Option Value} {dp un : Nat} {gd : Option (List Code)} {cn : Str} {cs : Scope} {a : Addr} {ccd : Value} {cl : List (Str × Addr)} {outer : List Env} {A₀ : Around} {base h₀ : Heap} {L : Addr} {m : Str → Option Value} {news : List (Addr × Obj)} {s : Shared} {Q E : Value → Shared → Prop}
    (B : Below A₀ base outer h₀) (F : Fr h₀ L s.heap m) (X : (Mine.hd.heap_39 w.params).In h₀) (N : News h₀ L s.heap news) (T : Top p loose mean mg mb h₀) (hk : cs.kind = .function) (hd : dp + 2 < recursionLimit) (hu : un + 20 < cLine)
    {x y : Addr} {vs us : List Value} {xs ys : List Int} {c d : Nat} {k : Int} {tw : Tok} (hm : (x, listOf vs.toArray c) ∈ news) (hm2 : (y, listOf us.toArray d) ∈ news) (hi : IntsAre vs xs) (hj : IntsAre us ys) (hb : xs.length ≤ 200) (hb2 : ys.length ≤ 200) (h2 : 2 ≤ k) (h8 : k ≤ 8) (hc : 0 ≤ cmpZ xs ys)
    (ret : ∀ r us c' h' tk', Fr h₀ L h' m → News h₀ L h' ((r, listOf us.toArray c') :: news) → (∀ q ∈ news, r ≠ q.1) → IntsAre us (subZ k xs ys) → Q (.ref r) { s with heap := h', toks := tk' }) :
    wpAny (model PySem.Challenge.rw_pq0542_01.row.prog w) (ktrTop dp un gd cn cs L a ccd cl outer) (call (.ref 67) [Value.ref x, Value.ref y, Value.int k tw]) Q E s := by
  k_with_none
  k_with "Om" => (first | walk_at "MineRoom" | exact Int.natCast_nonneg _ | exact Mine.i_up (by with_reducible assumption) rfl | exact Mine.i_dn (by with_reducible assumption) rfl | exact Mine.i_lt (by with_reducible assumption) rfl | exact Mine.i_gt (by with_reducible assumption) rfl | exact Mine.n_up (by with_reducible assumption) rfl | exact Mine.n_eq (by with_reducible assumption) rfl | exact Mine.n_ge (by with_reducible assumption) rfl | exact Mine.sub0n)
  k_with "EvAll" => (first | exact Mine.EvAll.nil | exact Mine.evs_L (by k_asm) (by exact rfl) rfl rfl (by decide) (by walk_at "EvAll") | exact Mine.evs_C (by k_asm) (by exact rfl) (by k_mem) (by assumption) rfl rfl (by decide) (by walk_at "EvAll"))
  k_with "MineLt" => (first | ((repeat (first | exact Nat.lt_succ_self _ | refine Nat.lt_succ_of_lt ?_)); done) | ((repeat (refine Nat.lt_succ_of_lt ?_)); with_reducible assumption))
  k_with "MineLt2" => (refine Nat.lt_trans ?_ (by with_reducible assumption); walk_at "MineLt")
  k_with "MineRoom" => (k_whole; first | exact Mine.room1 (by with_reducible assumption) rfl | exact Mine.room2 (by with_reducible assumption) rfl | exact Mine.room3 (by with_reducible assumption) rfl | exact Mine.room4 (by with_reducible assumption) rfl | exact Mine.room5 (by with_reducible assumption) rfl | exact Mine.room0 (by with_reducible assumption))
  w_top off
  revert X; k_fill; intro X
  k_dflt (refine' call_r2 [(x, listOf vs.toArray c), (y, listOf us.toArray d)] (OutI (subZ k xs ys)) ?k1 ?k2 ?k3 ?k4 ?k5 ?ks ?kA ?kF ?kK ?k6 ?k7 ?k8 ?k9 ?kB ?kR (ps := [(Str.ofString "a", Value.ref x), (Str.ofString "b", Value.ref y), (Str.ofString "w", Value.int k tw)]) ?kP ?_ ?c2 ?c3 ?c4 ?c5; (case kA => exact rfl); (case kF => exact rfl); (case kK => assumption); (case k1 => k_asm); (case k2 => k_asm); (case k3 => k_asm); (case k4 => k_asm); (case k5 => k_asm); (case k6 => k_is); (case k7 => k_is); (case k8 => (show dp < recursionLimit; first | walk_at "MineRoom" | omega)); (case k9 => exact BindsTo.of_eq rfl); (case c5 => decide); (case kB => exact locs rfl); (case kP => kst_all); (case c2 => exact rfl); (case c3 => exact rfl); (case c4 => exact rfl))
  case ks => exact List.forall_mem_cons.mpr ⟨hm, List.forall_mem_cons.mpr ⟨hm2, List.forall_mem_nil _⟩⟩
  case kR =>
    rintro v new h' tk' F' N' hne ⟨r, us, c', rfl, rfl, hI⟩
    exact ret r us c' h' tk' F' N' (fun q hq => hne _ (.head _) q hq) hI
  clear B F X N T ret
  clear hm hm2
  intro g' L' h' u tk₁ F' N' B' X' T'
  (try dsimp only [kstB] at F')
  try dsimp only
  try k_fold
  k_with "pyIter ref" => k_state (fun pre borrow found => found.length = pre.length ∧ found.length ≤ xs.length ∧ SubInv k xs ys borrow found) "borrow" "found"
  k_with "state" => first | exact ⟨rfl, Nat.zero_le _, SubInv.start⟩ | exact sub_t1 (by assumption) (by assumption) (by assumption) (by assumption) (by assumption) (by assumption) | exact sub_t2 (by assumption) (by assumption) (by assumption) (by assumption) (by assumption) (by assumption) | exact sub_t3 (by assumption) (by assumption) (by assumption) (by assumption) (by assumption) (by assumption) | exact sub_t4 (by assumption) (by assumption) (by assumption) (by assumption) (by assumption) (by assumption)
  k_with "BodyEnd" => (k_dflt (first
  | ((refine Mine.end_new (by k_asm) (by k_asm) (by k_mem) (by kst_allIn) (by k_all) ?_); (refine Mine.outI ?_))
  | ((refine Mine.end_val (by k_asm) (by k_asm) (by kst_allIn) ?_))))
  k_with "call ref" => (((with_reducible show wpAny _ _ (call (Value.ref 53) _) _ _ _); k_dflt (refine' Mine.compare_c ?uB ?uF ?uX ?uN ?uT ?uk ?ud ?uu ?p0 ?p1 ?p2 ?p3 ?p4 ?p5 ?_; (case uB => k_asm); (case uF => k_asm); (case uX => k_asm); (case uN => k_asm); (case uT => k_asm); (case uk => exact rfl); (case ud => ((try dsimp only [ktrTop, Around.deeper, callerA]); first | walk_at "MineRoom" | omega | decide)); (case uu => ((try dsimp only [ktrTop, Around.deeper, callerA]); first | walk_at "MineRoom" | omega | decide)); (case p0 => k_mem); (case p1 => k_mem); (case p2 => l_ints); (case p3 => l_ints); (case p4 => first | assumption | ((try simp only [List.length_append, List.length_cons, List.length_nil, List.length_take]); omega)); (case p5 => first | assumption | ((try simp only [List.length_append, List.length_cons, List.length_nil, List.length_take]); omega)); intro t9 h9 tk9 F9 N9; (try k_sweep); (try dsimp only); (try k_fold))))
  k_with "call ref" => (((with_reducible show wpAny _ _ (call (Value.ref 46) _) _ _ _); k_dflt (refine' Mine.normal_c ?uB ?uF ?uX ?uN ?uT ?uk ?ud ?uu ?p0 ?p1 ?p2 ?_; (case uB => k_asm); (case uF => k_asm); (case uX => k_asm); (case uN => k_asm); (case uT => k_asm); (case uk => exact rfl); (case ud => ((try dsimp only [ktrTop, Around.deeper, callerA]); first | walk_at "MineRoom" | omega | decide)); (case uu => ((try dsimp only [ktrTop, Around.deeper, callerA]); first | walk_at "MineRoom" | omega | decide)); (case p0 => k_mem); (case p1 => l_ints); (case p2 => first | assumption | ((try simp only [List.length_append, List.length_cons, List.length_nil, List.length_take]); omega)); intro r9 us9 c9 h9 tk9 F9 N9 ne9 I9; (replace ne9 := Mine.allNe_of ne9; simp only [Mine.AllNe, and_true] at ne9); (try k_sweep); (try dsimp only); (try k_fold))))
  k_with "subscriptTail Name Slice ref ref" => (((with_reducible show wpAny _ _ (subscriptTail _ (PySem.Expr.Slice _ _ none _) (Value.ref _) (Value.ref _)) _ _ _); k_dflt (refine' kmk_slice_ints ?sF ?sN ?sl ?sp ?sq ?si ?sm ?sc ?_ ?ss ?st ?sz; (case sF => k_asm); (case sN => k_asm); (case sl => kmk_list); (case sp => kmk_part); (case sq => kmk_part); (case si => l_ints); (case sm => first | (with_reducible exact kmk_all (by assumption)) | (with_reducible exact kmk_upto (by assumption) (by first | assumption | walk_at "Om" | omega))); (case sc => exact rfl); (case ss => with_unfolding_all rfl); (case st => kmk_pure); (case sz => exact kmk_sz (by assumption) (by rw [sizeLine_eq]; omega)); intro D9 ws9 h9 F9 N9 l9 I9 C9 L9; (try k_lt l9); (try k_sweep))))
  k_with "eval Call" => ((with_reducible show wpAny _ _ (eval (PySem.Expr.Call (PySem.Expr.Name _ _) (PySem.Expr.Name _ _ :: _) [] _) _) _ _ _); k_dflt (first | (refine' Mine.call_names ?zF ?zX ?zT ?ze ?zk ?za ?zz ?zx ?zd ?zh ?zp ?_; (case zx => exact rfl); (case zz => exact rfl); (case zF => k_asm); (case zX => k_asm); (case zT => k_asm); (case ze => k_is); (case zk => k_is); (case za => walk_at "EvAll"); (case zd => decide); (case zh => exact rfl); (case zp => exact rfl)) | (refine' Mine.call_namesB ?zF ?zX ?zT ?ze ?zv ?zn ?za ?zz ?zx ?zd ?zh ?zp ?_; (case zx => exact rfl); (case zz => exact rfl); (case zF => k_asm); (case zX => k_asm); (case zT => k_asm); (case ze => k_is); (case zv => boot_by_name); (case zn => decide); (case za => walk_at "EvAll"); (case zd => decide); (case zh => exact rfl); (case zp => exact rfl))))
  k_with "storeName" => (dsimp only; walk_at "storeName")
  first | (refine (id (α := let zA9 := _; let ze9 := _; let zg9 := _; let zd9 := _; let zo9 := _; wpAny _ zA9 (execs _ ze9) _ _ (Shared.mk _ zg9 zd9 _ zo9)) ?_); intro zA9 ze9 zg9 zd9 zo9) | skip
  k_steps
  all_goals (rw [← sub_end (by assumption) (by assumption)]; assumption)

end Mine
end

section
open PySem PySem.W PySem.Spec PySem.Calls PyProof.Rows

namespace Mine
set_option maxRecDepth 100000 in
set_option maxHeartbeats 8000000 in
theorem limbs_c {w : World} {p : Program} {loose : List Str} {mean : ExcName → Option Value} {mg mb : Str → Option Value} {dp un : Nat} {gd : Option (List Code)} {cn : Str} {cs : Scope} {a : Addr} {ccd : Value} {cl : List (Str × Addr)} {outer : List Env} {A₀ : Around} {base h₀ : Heap} {L : Addr} {m : Str → Option Value} {news : List (Addr × Obj)} {s : Shared} {Q E : Value → Shared → Prop}
    (B : Below A₀ base outer h₀) (F : Fr h₀ L s.heap m) (X : (Mine.hd.heap_39 w.params).In h₀) (N : News h₀ L s.heap news) (T : Top p loose mean mg mb h₀) (hk : cs.kind = .function) (hd : dp + 1 < recursionLimit) (hu : un + 8 < cLine)
    {k n : Int} {tw tn : Tok} (h2 : 2 ≤ k) (h8 : k ≤ 8) (n0 : 0 ≤ n) (n9 : n ≤ 100)
    (ret : ∀ r us c' h' tk', Fr h₀ L h' m → News h₀ L h' ((r, listOf us.toArray c') :: news) → (∀ q ∈ news, r ≠ q.1) → IntsAre us (limbsZ k n) → Q (.ref r) { s with heap := h', toks := tk' }) :
    wpAny (model PySem.Challenge.rw_pq0542_01.row.prog w) (ktrTop dp un gd cn cs L a ccd cl outer) (call (.ref 256) [Value.int n tn, Value.int k tw]) Q E s := by
  k_with_none
  k_with "Om" => (first | walk_at "MineRoom" | exact Int.natCast_nonneg _ | exact Mine.i_up (by with_reducible assumption) rfl | exact Mine.i_dn (by with_reducible assumption) rfl | exact Mine.i_lt (by with_reducible assumption) rfl | exact Mine.i_gt (by with_reducible assumption) rfl | exact Mine.n_up (by with_reducible assumption) rfl | exact Mine.n_eq (by with_reducible assumption) rfl | exact Mine.n_ge (by with_reducible assumption) rfl | exact Mine.sub0n)
  k_with "EvAll" => (first | exact Mine.EvAll.nil | exact Mine.evs_L (by k_asm) (by exact rfl) rfl rfl (by decide) (by walk_at "EvAll") | exact Mine.evs_C (by k_asm) (by exact rfl) (by k_mem) (by assumption) rfl rfl (by decide) (by walk_at "EvAll"))
  k_with "MineLt" => (first | ((repeat (first | exact Nat.lt_succ_self _ | refine Nat.lt_succ_of_lt ?_)); done) | ((repeat (refine Nat.lt_succ_of_lt ?_)); with_reducible assumption))
  k_with "MineLt2" => (refine Nat.lt_trans ?_ (by with_reducible assumption); walk_at "MineLt")
  k_with "MineRoom" => (k_whole; first | exact Mine.room1 (by with_reducible assumption) rfl | exact Mine.room2 (by with_reducible assumption) rfl | exact Mine.room3 (by with_reducible assumption) rfl | exact Mine.room4 (by with_reducible assumption) rfl | exact Mine.room5 (by with_reducible assumption) rfl | exact Mine.room0 (by with_reducible assumption))
  w_top off
  revert X; k_fill; intro X
  k_dflt (refine' call_r2 [] (OutI (limbsZ k n)) ?k1 ?k2 ?k3 ?k4 ?k5 ?ks ?kA ?kF ?kK ?k6 ?k7 ?k8 ?k9 ?kB ?kR (ps := [(Str.ofString "number", Value.int n tn), (Str.ofString "w", Value.int k tw)]) ?kP ?_ ?c2 ?c3 ?c4 ?c5; (case kA => exact rfl); (case kF => exact rfl); (case kK => assumption); (case k1 => k_asm); (case k2 => k_asm); (case k3 => k_asm); (case k4 => k_asm); (case k5 => k_asm); (case k6 => k_is); (case k7 => k_is); (case k8 => (show dp < recursionLimit; first | walk_at "MineRoom" | omega)); (case k9 => exact BindsTo.of_eq rfl); (case c5 => decide); (case kB => exact locs rfl); (case kP => kst_all); (case c2 => exact rfl); (case c3 => exact rfl); (case c4 => exact rfl))
  case ks => exact List.forall_mem_nil _
  case kR =>
    rintro v new h' tk' F' N' hne ⟨r, us, c', rfl, rfl, hI⟩
    exact ret r us c' h' tk' F' N' (fun q hq => hne _ (.head _) q hq) hI
  clear B F X N T ret
  intro g' L' h' u tk₁ F' N' B' X' T'
  (try dsimp only [kstB] at F')
  try dsimp only
  try k_fold
  have i0 : IntsAre [] [] := IntsAre.nil
  k_with "exec While Compare cons nil" => k_while_given ["w", "number!"] (fun w n₀ script n f => (f.length : Int) + n ≤ 100 ∧ 0 ≤ n ∧ LimInv w n₀ n f) (fun w n₀ script n f => n.toNat) "number" "found"
  k_with "state" => first | exact LimInv.start3 (by assumption) (by assumption) | exact LimInv.turn3 (by assumption) (by assumption) (by assumption)
  k_with "measure" => exact lim_less (by assumption) (by assumption)
  k_with "BodyEnd" => (k_dflt (first
  | ((refine Mine.end_new (by k_asm) (by k_asm) (by k_mem) (by kst_allIn) (by k_all) ?_); (refine Mine.outI ?_))
  | ((refine Mine.end_val (by k_asm) (by k_asm) (by kst_allIn) ?_))))
  k_with "subscriptTail Name Slice ref ref" => (((with_reducible show wpAny _ _ (subscriptTail _ (PySem.Expr.Slice _ _ none _) (Value.ref _) (Value.ref _)) _ _ _); k_dflt (refine' kmk_slice_ints ?sF ?sN ?sl ?sp ?sq ?si ?sm ?sc ?_ ?ss ?st ?sz; (case sF => k_asm); (case sN => k_asm); (case sl => kmk_list); (case sp => kmk_part); (case sq => kmk_part); (case si => l_ints); (case sm => first | (with_reducible exact kmk_all (by assumption)) | (with_reducible exact kmk_upto (by assumption) (by first | assumption | walk_at "Om" | omega))); (case sc => exact rfl); (case ss => with_unfolding_all rfl); (case st => kmk_pure); (case sz => exact kmk_sz (by assumption) (by rw [sizeLine_eq]; omega)); intro D9 ws9 h9 F9 N9 l9 I9 C9 L9; (try k_lt l9); (try k_sweep))))
  k_with "BodyEndU" => (first
  | ((refine Mine.end_newU (by k_asm) (by k_asm) (by k_mem) (by k_mem) (by kst_allIn) (And.intro (by k_ne) (Mine.ne_allOf (by (simp only [Mine.AllNe, and_true]; (repeat' (refine And.intro ?_ ?_)) <;> first | assumption | k_ne)))) ?_))
  | ((refine Mine.end_valU (by k_asm) (by k_asm) (by k_mem) (by kst_allIn) ?_)))
  k_with "eval Call" => ((with_reducible show wpAny _ _ (eval (PySem.Expr.Call (PySem.Expr.Name _ _) (PySem.Expr.Name _ _ :: _) [] _) _) _ _ _); k_dflt (first | (refine' Mine.call_names ?zF ?zX ?zT ?ze ?zk ?za ?zz ?zx ?zd ?zh ?zp ?_; (case zx => exact rfl); (case zz => exact rfl); (case zF => k_asm); (case zX => k_asm); (case zT => k_asm); (case ze => k_is); (case zk => k_is); (case za => walk_at "EvAll"); (case zd => decide); (case zh => exact rfl); (case zp => exact rfl)) | (refine' Mine.call_namesB ?zF ?zX ?zT ?ze ?zv ?zn ?za ?zz ?zx ?zd ?zh ?zp ?_; (case zx => exact rfl); (case zz => exact rfl); (case zF => k_asm); (case zX => k_asm); (case zT => k_asm); (case ze => k_is); (case zv => boot_by_name); (case zn => decide); (case za => walk_at "EvAll"); (case zd => decide); (case zh => exact rfl); (case zp => exact rfl))))
  k_with "storeName" => (dsimp only; walk_at "storeName")
  first | (refine (id (α := let zA9 := _; let ze9 := _; let zg9 := _; let zd9 := _; let zo9 := _; wpAny _ zA9 (execs _ ze9) _ _ (Shared.mk _ zg9 zd9 _ zo9)) ?_); intro zA9 ze9 zg9 zd9 zo9) | skip
  k_steps
  all_goals (rw [← LimInv.fin (by assumption) (by assumption)]; assumption)

set_option maxRecDepth 100000 in
set_option maxHeartbeats 8000000 in
theorem size_c {w : World} {p : Program} {loose : List Str} {mean : ExcName → Option Value} {mg mb : Str → Option Value} {dp un : Nat} {gd : Option (List Code)} {cn : Str} {cs : Scope} {a : Addr} {ccd : Value} {cl : List (Str × Addr)} {outer : List Env} {A₀ : Around} {base h₀ : Heap} {L : Addr} {m : Str → Option Value} {news : List (Addr × Obj)} {s : Shared} {Q E : Value → Shared → Prop}
    (B : Below A₀ base outer h₀) (F : Fr h₀ L s.heap m) (X : (Mine.hd.heap_39 w.params).In h₀) (N : News h₀ L s.heap news) (T : Top p loose mean mg mb h₀) (hk : cs.kind = .function) (hd : dp + 1 < recursionLimit) (hu : un + 8 < cLine)
    {n : Int} {tn : Tok} (n0 : 0 ≤ n) (n9 : n ≤ 100)
    (ret : ∀ t h' tk', Fr h₀ L h' m → News h₀ L h' news → Q (.int (sizeZ n) t) { s with heap := h', toks := tk' }) :
    wpAny (model PySem.Challenge.rw_pq0542_01.row.prog w) (ktrTop dp un gd cn cs L a ccd cl outer) (call (.ref 268) [Value.int n tn]) Q E s := by
  k_with_none
  k_with "Om" => (first | walk_at "MineRoom" | exact Int.natCast_nonneg _ | exact Mine.i_up (by with_reducible assumption) rfl | exact Mine.i_dn (by with_reducible assumption) rfl | exact Mine.i_lt (by with_reducible assumption) rfl | exact Mine.i_gt (by with_reducible assumption) rfl | exact Mine.n_up (by with_reducible assumption) rfl | exact Mine.n_eq (by with_reducible assumption) rfl | exact Mine.n_ge (by with_reducible assumption) rfl | exact Mine.sub0n)
  k_with "EvAll" => (first | exact Mine.EvAll.nil | exact Mine.evs_L (by k_asm) (by exact rfl) rfl rfl (by decide) (by walk_at "EvAll") | exact Mine.evs_C (by k_asm) (by exact rfl) (by k_mem) (by assumption) rfl rfl (by decide) (by walk_at "EvAll"))
  k_with "MineLt" => (first | ((repeat (first | exact Nat.lt_succ_self _ | refine Nat.lt_succ_of_lt ?_)); done) | ((repeat (refine Nat.lt_succ_of_lt ?_)); with_reducible assumption))
  k_with "MineLt2" => (refine Nat.lt_trans ?_ (by with_reducible assumption); walk_at "MineLt")
  k_with "MineRoom" => (k_whole; first | exact Mine.room1 (by with_reducible assumption) rfl | exact Mine.room2 (by with_reducible assumption) rfl | exact Mine.room3 (by with_reducible assumption) rfl | exact Mine.room4 (by with_reducible assumption) rfl | exact Mine.room5 (by with_reducible assumption) rfl | exact Mine.room0 (by with_reducible assumption))
  w_top off
  revert X; k_fill; intro X
  k_dflt (refine' call_r2 [] (OutN (sizeZ n)) ?k1 ?k2 ?k3 ?k4 ?k5 ?ks ?kA ?kF ?kK ?k6 ?k7 ?k8 ?k9 ?kB ?kR (ps := [(Str.ofString "number", Value.int n tn)]) ?kP ?_ ?c2 ?c3 ?c4 ?c5; (case kA => exact rfl); (case kF => exact rfl); (case kK => assumption); (case k1 => k_asm); (case k2 => k_asm); (case k3 => k_asm); (case k4 => k_asm); (case k5 => k_asm); (case k6 => k_is); (case k7 => k_is); (case k8 => (show dp < recursionLimit; first | walk_at "MineRoom" | omega)); (case k9 => exact BindsTo.of_eq rfl); (case c5 => decide); (case kB => exact locs rfl); (case kP => kst_all); (case c2 => exact rfl); (case c3 => exact rfl); (case c4 => exact rfl))
  case ks => exact List.forall_mem_nil _
  case kR =>
    rintro v new h' tk' F' N' hne ⟨rfl, t, rfl⟩
    exact ret t h' tk' F' N'
  clear B F X N T ret
  intro g' L' h' u tk₁ F' N' B' X' T'
  (try dsimp only [kstB] at F')
  try dsimp only
  try k_fold
  k_with "exec While Compare cons nil" => k_while_given ["number!"] (fun n₀ script n f => SizInv n₀ n f) (fun n₀ script n f => n.toNat) "number" "found"
  k_with "state" => first | exact SizInv.start (by assumption) (by assumption) | exact SizInv.turn (by assumption) (by assumption)
  k_with "measure" => (rw [Int.fdiv_eq_ediv_of_nonneg _ (by decide)]; omega)
  k_with "BodyEnd" => (k_dflt (first
  | ((refine Mine.end_new (by k_asm) (by k_asm) (by k_mem) (by kst_allIn) (by k_all) ?_); (refine Mine.outI ?_))
  | ((refine Mine.end_val (by k_asm) (by k_asm) (by kst_allIn) ?_))))
  k_with "subscriptTail Name Slice ref ref" => (((with_reducible show wpAny _ _ (subscriptTail _ (PySem.Expr.Slice _ _ none _) (Value.ref _) (Value.ref _)) _ _ _); k_dflt (refine' kmk_slice_ints ?sF ?sN ?sl ?sp ?sq ?si ?sm ?sc ?_ ?ss ?st ?sz; (case sF => k_asm); (case sN => k_asm); (case sl => kmk_list); (case sp => kmk_part); (case sq => kmk_part); (case si => l_ints); (case sm => first | (with_reducible exact kmk_all (by assumption)) | (with_reducible exact kmk_upto (by assumption) (by first | assumption | walk_at "Om" | omega))); (case sc => exact rfl); (case ss => with_unfolding_all rfl); (case st => kmk_pure); (case sz => exact kmk_sz (by assumption) (by rw [sizeLine_eq]; omega)); intro D9 ws9 h9 F9 N9 l9 I9 C9 L9; (try k_lt l9); (try k_sweep))))
  k_with "BodyEndU" => (first
  | ((refine Mine.end_newU (by k_asm) (by k_asm) (by k_mem) (by k_mem) (by kst_allIn) (And.intro (by k_ne) (Mine.ne_allOf (by (simp only [Mine.AllNe, and_true]; (repeat' (refine And.intro ?_ ?_)) <;> first | assumption | k_ne)))) ?_))
  | ((refine Mine.end_valU (by k_asm) (by k_asm) (by k_mem) (by kst_allIn) ?_)))
  k_with "eval Call" => ((with_reducible show wpAny _ _ (eval (PySem.Expr.Call (PySem.Expr.Name _ _) (PySem.Expr.Name _ _ :: _) [] _) _) _ _ _); k_dflt (first | (refine' Mine.call_names ?zF ?zX ?zT ?ze ?zk ?za ?zz ?zx ?zd ?zh ?zp ?_; (case zx => exact rfl); (case zz => exact rfl); (case zF => k_asm); (case zX => k_asm); (case zT => k_asm); (case ze => k_is); (case zk => k_is); (case za => walk_at "EvAll"); (case zd => decide); (case zh => exact rfl); (case zp => exact rfl)) | (refine' Mine.call_namesB ?zF ?zX ?zT ?ze ?zv ?zn ?za ?zz ?zx ?zd ?zh ?zp ?_; (case zx => exact rfl); (case zz => exact rfl); (case zF => k_asm); (case zX => k_asm); (case zT => k_asm); (case ze => k_is); (case zv => boot_by_name); (case zn => decide); (case za => walk_at "EvAll"); (case zd => decide); (case zh => exact rfl); (case zp => exact rfl))))
  k_with "storeName" => (dsimp only; walk_at "storeName")
  first | (refine (id (α := let zA9 := _; let ze9 := _; let zg9 := _; let zd9 := _; let zo9 := _; wpAny _ zA9 (execs _ ze9) _ _ (Shared.mk _ zg9 zd9 _ zo9)) ?_); intro zA9 ze9 zg9 zd9 zo9) | skip
  k_steps
  all_goals (rw [← SizInv.fin (by assumption) (by assumption)]; exact outN)

end Mine
end

section
open PySem PySem.W PySem.Spec PySem.Calls PyProof.Rows

namespace Mine
set_option maxRecDepth 100000 in
set_option maxHeartbeats 8000000 in
theorem worth_c {w : World} {p : Program} {loose : List Str} {mean : ExcName → Option Value} {mg mb : Str → Option Value} {dp un : Nat} {gd : Option (List Code)} {cn : Str} {cs : Scope} {a : Addr} {ccd : Value} {cl : List (Str × Addr)} {outer : List Env} {A₀ : Around} {base h₀ : Heap} {L : Addr} {m : Str → Option Value} {news : List (Addr × Obj)} {s : Shared} {Q E : Value → Shared → Prop}
    (B : Below A₀ base outer h₀) (F : Fr h₀ L s.heap m) (X : (Mine.hd.heap_39 w.params).In h₀) (N : News h₀ L s.heap news) (T : Top p loose mean mg mb h₀) (hk : cs.kind = .function) (hd : dp + 1 < recursionLimit) (hu : un + 8 < cLine)
    {x : Addr} {c : Nat} {vs : List Value} {xs : List Int} {k : Int} {tw : Tok} (hi : IntsAre vs xs) (hb : xs.length ≤ 3) (h2 : 2 ≤ k) (h8 : k ≤ 8) (gx : ∀ z ∈ xs, 0 ≤ z ∧ z < 256) (hm : (x, listOf vs.toArray c) ∈ news)
    (ret : ∀ t h' tk', Fr h₀ L h' m → News h₀ L h' news → Q (.int (worthE k xs) t) { s with heap := h', toks := tk' }) :
    wpAny (model PySem.Challenge.rw_pq0542_01.row.prog w) (ktrTop dp un gd cn cs L a ccd cl outer) (call (.ref 261) [Value.ref x, Value.int k tw]) Q E s := by
  k_with_none
  k_with "Om" => (first | walk_at "MineRoom" | exact Int.natCast_nonneg _ | exact Mine.i_up (by with_reducible assumption) rfl | exact Mine.i_dn (by with_reducible assumption) rfl | exact Mine.i_lt (by with_reducible assumption) rfl | exact Mine.i_gt (by with_reducible assumption) rfl | exact Mine.n_up (by with_reducible assumption) rfl | exact Mine.n_eq (by with_reducible assumption) rfl | exact Mine.n_ge (by with_reducible assumption) rfl | exact Mine.sub0n)
  k_with "EvAll" => (first | exact Mine.EvAll.nil | exact Mine.evs_L (by k_asm) (by exact rfl) rfl rfl (by decide) (by walk_at "EvAll") | exact Mine.evs_C (by k_asm) (by exact rfl) (by k_mem) (by assumption) rfl rfl (by decide) (by walk_at "EvAll"))
  k_with "MineLt" => (first | ((repeat (first | exact Nat.lt_succ_self _ | refine Nat.lt_succ_of_lt ?_)); done) | ((repeat (refine Nat.lt_succ_of_lt ?_)); with_reducible assumption))
  k_with "MineLt2" => (refine Nat.lt_trans ?_ (by with_reducible assumption); walk_at "MineLt")
  k_with "MineRoom" => (k_whole; first | exact Mine.room1 (by with_reducible assumption) rfl | exact Mine.room2 (by with_reducible assumption) rfl | exact Mine.room3 (by with_reducible assumption) rfl | exact Mine.room4 (by with_reducible assumption) rfl | exact Mine.room5 (by with_reducible assumption) rfl | exact Mine.room0 (by with_reducible assumption))
  w_top off
  revert X; k_fill; intro X
  k_dflt (refine' call_rC2 [(x, listOf vs.toArray c)] (OutN (worthE k xs)) ?k1 ?k2 ?k3 ?k4 ?k5 ?ks ?kA ?kF ?kK ?k6 ?k7 ?k8 ?k9 ?kB ?kD ?kR (ps := [(Str.ofString "limbs", Value.ref x)]) ?kP ?_ ?c2 ?c3 ?c4; (case kA => exact rfl); (case kF => exact rfl); (case kK => assumption); (case k1 => k_asm); (case k2 => k_asm); (case k3 => k_asm); (case k4 => k_asm); (case k5 => k_asm); (case k6 => k_is); (case k7 => k_is); (case k8 => (show dp < recursionLimit; first | walk_at "MineRoom" | omega)); (case k9 => exact BindsTo.of_eq rfl); (case kB => exact rfl); (case kD => decide +kernel); (case kP => (intro L9; kst_all)); (case c2 => exact rfl); (case c3 => exact rfl); (case c4 => exact rfl))
  case ks => exact List.forall_mem_cons.mpr ⟨hm, List.forall_mem_nil _⟩
  case kR =>
    rintro v new h' tk' F' N' hne ⟨rfl, t, rfl⟩
    exact ret t h' tk' F' N'
  clear B F X N T ret
  clear hm
  intro g' L' h' tk' cells' u F' N' Y' B' X' T' l1
  (try dsimp only [kstB] at F')
  (try k_lt l1)
  k_cells Y'
  (try simp only [List.cons_append, List.nil_append] at N')
  try dsimp only
  try k_fold
  k_with "EnumTurn" => (unfold EnumTurn; intro i8 t8 u8 C8 oC8 m8 h7 tk8 E8 hlt8 hC8 ha8 hb8 F8 N8; have hp8 := ki_bnd h2 h8 hlt8 hb; have hg8 := gx _ (getD_in hlt8))
  k_with "eval ListComp" => (k_here; k_dflt (refine' comp_enum_ints (fun i x => x * 2 ^ (k * (i : Int)).toNat) ?e1 ?e2 ?e3 hi ?e4 ?e5 ?e6 ?e7 ?e8 ?e9 ?ea ?eb ?ec ?_; (case e1 => k_asm); (case e2 => k_asm); (case e3 => k_mem); (case e4 => rfl); (case e5 => with_unfolding_all rfl); (case e6 => decide); (case e7 => rfl); (case e8 => decide); (case e9 => rfl); (case ea => rfl); (case eb => decide); (case ec => first | walk_at "Om" | omega)))
  k_with "call type:enumerate" => (k_here; k_dflt (refine enum_at (by k_asm) (by k_asm) (by k_mem) ?_); intro e8 it8 hh8 X8; refine ⟨e8, it8, rfl, X8, ?_, ?_⟩)
  k_with "BodyEnd" => (k_dflt (first
  | ((refine Mine.end_new (by k_asm) (by k_asm) (by k_mem) (by kst_allIn) (by k_all) ?_); (refine Mine.outI ?_))
  | ((refine Mine.end_val (by k_asm) (by k_asm) (by kst_allIn) ?_))))
  k_with "FinEnum" => ((unfold Mine.FinEnum; intro D' ys' c' h' tk' I' F' N' o1'; (replace o1' := Mine.allNe_of o1'; simp only [Mine.AllNe, and_true] at o1'); (try simp only [List.nil_append, List.cons_append] at N'); (try dsimp only)))
  k_with "subscriptTail Name Slice ref ref" => (((with_reducible show wpAny _ _ (subscriptTail _ (PySem.Expr.Slice _ _ none _) (Value.ref _) (Value.ref _)) _ _ _); k_dflt (refine' kmk_slice_ints ?sF ?sN ?sl ?sp ?sq ?si ?sm ?sc ?_ ?ss ?st ?sz; (case sF => k_asm); (case sN => k_asm); (case sl => kmk_list); (case sp => kmk_part); (case sq => kmk_part); (case si => l_ints); (case sm => first | (with_reducible exact kmk_all (by assumption)) | (with_reducible exact kmk_upto (by assumption) (by first | assumption | walk_at "Om" | omega))); (case sc => exact rfl); (case ss => with_unfolding_all rfl); (case st => kmk_pure); (case sz => exact kmk_sz (by assumption) (by rw [sizeLine_eq]; omega)); intro D9 ws9 h9 F9 N9 l9 I9 C9 L9; (try k_lt l9); (try k_sweep))))
  k_with "BodyEndU" => (first
  | ((refine Mine.end_newU (by k_asm) (by k_asm) (by k_mem) (by k_mem) (by kst_allIn) (And.intro (by k_ne) (Mine.ne_allOf (by (simp only [Mine.AllNe, and_true]; (repeat' (refine And.intro ?_ ?_)) <;> first | assumption | k_ne)))) ?_))
  | ((refine Mine.end_valU (by k_asm) (by k_asm) (by k_mem) (by kst_allIn) ?_)))
  k_with "TurnEnd" => (exact ⟨⟨_, rfl⟩, _, rfl⟩)
  k_with "eval Call" => ((with_reducible show wpAny _ _ (eval (PySem.Expr.Call (PySem.Expr.Name _ _) (PySem.Expr.Name _ _ :: _) [] _) _) _ _ _); k_dflt (first | (refine' Mine.call_names ?zF ?zX ?zT ?ze ?zk ?za ?zz ?zx ?zd ?zh ?zp ?_; (case zx => exact rfl); (case zz => exact rfl); (case zF => k_asm); (case zX => k_asm); (case zT => k_asm); (case ze => k_is); (case zk => k_is); (case za => walk_at "EvAll"); (case zd => decide); (case zh => exact rfl); (case zp => exact rfl)) | (refine' Mine.call_namesB ?zF ?zX ?zT ?ze ?zv ?zn ?za ?zz ?zx ?zd ?zh ?zp ?_; (case zx => exact rfl); (case zz => exact rfl); (case zF => k_asm); (case zX => k_asm); (case zT => k_asm); (case ze => k_is); (case zv => boot_by_name); (case zn => decide); (case za => walk_at "EvAll"); (case zd => decide); (case zh => exact rfl); (case zp => exact rfl))))
  k_with "storeName" => (dsimp only; walk_at "storeName")
  first | (refine (id (α := let zA9 := _; let ze9 := _; let zg9 := _; let zd9 := _; let zo9 := _; wpAny _ zA9 (execs _ ze9) _ _ (Shared.mk _ zg9 zd9 _ zo9)) ?_); intro zA9 ze9 zg9 zd9 zo9) | skip
  k_steps
  all_goals exact outN

end Mine
end

section
open PySem PySem.W PySem.Spec PySem.Calls PyProof.Rows

namespace Mine
set_option maxRecDepth 100000 in
set_option maxHeartbeats 8000000 in
theorem rbits_c {w : World} {p : Program} {loose : List Str} {mean : ExcName → Option Value} {mg mb : Str → Option Value} {dp un : Nat} {gd : Option (List Code)} {cn : Str} {cs : Scope} {a : Addr} {ccd : Value} {cl : List (Str × Addr)} {outer : List Env} {A₀ : Around} {base h₀ : Heap} {L : Addr} {m : Str → Option Value} {news : List (Addr × Obj)} {s : Shared} {Q E : Value → Shared → Prop}
    (B : Below A₀ base outer h₀) (F : Fr h₀ L s.heap m) (X : (Mine.hd.heap_39 w.params).In h₀) (N : News h₀ L s.heap news) (T : Top p loose mean mg mb h₀) (hk : cs.kind = .function) (hd : dp + 4 < recursionLimit) (hu : un + 40 < cLine)
    {src dx nl ai : Addr} {items vs : List Value} {xs : List Int} {cN cA : Nat} {k n at0 : Int} {tw tn tq ta t1 t2 t3 : Tok} {gl : Obj → List (Addr × Obj)} (U : UpdF dx (dictOf [⟨PyData.keyHash w.params "numbers", .str "numbers" t1, .ref nl⟩, ⟨PyData.keyHash w.params "many", .str "many" t2, .int n tq⟩, ⟨PyData.keyHash w.params "at", .str "at" t3, .int at0 ta⟩] 3) news gl) (hm : (src, instObj 182 dx) ∈ news) (hm2 : (nl, listOf items.toArray cN) ∈ news) (hm3 : (ai, listOf vs.toArray cA) ∈ news) (o1 : src ≠ dx) (o2 : nl ≠ dx) (o3 : ai ≠ dx) (hi : IntsAre vs xs) (hb : xs.length ≤ 100) (gx : ∀ z ∈ xs, 0 ≤ z ∧ z < 256) (h2 : 2 ≤ k) (h8 : k ≤ 8) (n1 : 1 ≤ n) (n9 : n ≤ 60) (hL : 0 < items.length) (hL9 : items.length ≤ 200) (a0 : 0 ≤ at0) (a9 : at0 ≤ 1000) (hx : items[(at0.fmod (items.length : Int)).toNat]? = some (.ref ai)) (hs : shlZ k 0 xs = xs) (ha : addZ k [] xs = xs) (hw : lowZ k n xs = xs)
    (ret : ∀ r us c' tb h' tk', Fr h₀ L h' m → News h₀ L h' ((r, listOf us.toArray c') :: gl (dictOf [⟨PyData.keyHash w.params "numbers", .str "numbers" t1, .ref nl⟩, ⟨PyData.keyHash w.params "many", .str "many" t2, .int n tq⟩, ⟨PyData.keyHash w.params "at", .str "at" t3, .int (at0 + 1) tb⟩] 3)) → (∀ q ∈ gl (dictOf [⟨PyData.keyHash w.params "numbers", .str "numbers" t1, .ref nl⟩, ⟨PyData.keyHash w.params "many", .str "many" t2, .int n tq⟩, ⟨PyData.keyHash w.params "at", .str "at" t3, .int (at0 + 1) tb⟩] 3), r ≠ q.1) → IntsAre us xs → Q (.ref r) { s with heap := h', toks := tk' }) :
    wpAny (model PySem.Challenge.rw_pq0542_01.row.prog w) (ktrTop dp un gd cn cs L a ccd cl outer) (call (.ref 193) [Value.ref src, Value.int n tn, Value.int k tw]) Q E s := by
  k_with_none
  k_with "Om" => (first | walk_at "MineRoom" | exact Int.natCast_nonneg _ | exact Mine.i_up (by with_reducible assumption) rfl | exact Mine.i_dn (by with_reducible assumption) rfl | exact Mine.i_lt (by with_reducible assumption) rfl | exact Mine.i_gt (by with_reducible assumption) rfl | exact Mine.n_up (by with_reducible assumption) rfl | exact Mine.n_eq (by with_reducible assumption) rfl | exact Mine.n_ge (by with_reducible assumption) rfl | exact Mine.sub0n)
  k_with "EvAll" => (first | exact Mine.EvAll.nil | exact Mine.evs_L (by k_asm) (by exact rfl) rfl rfl (by decide) (by walk_at "EvAll") | exact Mine.evs_C (by k_asm) (by exact rfl) (by k_mem) (by assumption) rfl rfl (by decide) (by walk_at "EvAll"))
  k_with "MineLt" => (first | ((repeat (first | exact Nat.lt_succ_self _ | refine Nat.lt_succ_of_lt ?_)); done) | ((repeat (refine Nat.lt_succ_of_lt ?_)); with_reducible assumption))
  k_with "MineLt2" => (refine Nat.lt_trans ?_ (by with_reducible assumption); walk_at "MineLt")
  k_with "MineRoom" => (k_whole; first | exact Mine.room1 (by with_reducible assumption) rfl | exact Mine.room2 (by with_reducible assumption) rfl | exact Mine.room3 (by with_reducible assumption) rfl | exact Mine.room4 (by with_reducible assumption) rfl | exact Mine.room5 (by with_reducible assumption) rfl | exact Mine.room0 (by with_reducible assumption))
  w_top off
  revert X; k_fill; intro X
  k_dflt (refine' call_u2 [(src, instObj 182 dx), (nl, listOf items.toArray cN), (ai, listOf vs.toArray cA)] (fun ob' new v => (∃ tb, ob' = (dictOf [⟨PyData.keyHash w.params "numbers", .str "numbers" t1, .ref nl⟩, ⟨PyData.keyHash w.params "many", .str "many" t2, .int n tq⟩, ⟨PyData.keyHash w.params "at", .str "at" t3, .int (at0 + 1) tb⟩] 3)) ∧ OutI xs new v) ?k1 ?k2 ?k3 ?k4 ?k5 ?kU ?ks ?ko ?kA ?kF ?kK ?k6 ?k7 ?k8 ?k9 ?kB ?kR (ps := [(Str.ofString "source", Value.ref src), (Str.ofString "n", Value.int n tn), (Str.ofString "w", Value.int k tw)]) ?kP ?_ ?c2 ?c3 ?c4 ?c5; (case kA => exact rfl); (case kF => exact rfl); (case kK => assumption); (case k1 => k_asm); (case k2 => k_asm); (case k3 => k_asm); (case k4 => k_asm); (case k5 => k_asm); (case kU => assumption); (case k6 => k_is); (case k7 => k_is); (case k8 => (show dp < recursionLimit; first | walk_at "MineRoom" | omega)); (case k9 => exact BindsTo.of_eq rfl); (case c5 => decide); (case kB => exact locs rfl); (case kP => kst_all); (case c2 => exact rfl); (case c3 => exact rfl); (case c4 => exact rfl))
  case ks => exact List.forall_mem_cons.mpr ⟨hm, List.forall_mem_cons.mpr ⟨hm2, List.forall_mem_cons.mpr ⟨hm3, List.forall_mem_nil _⟩⟩⟩
  case ko => exact List.forall_mem_cons.mpr ⟨o1, List.forall_mem_cons.mpr ⟨o2, List.forall_mem_cons.mpr ⟨o3, List.forall_mem_nil _⟩⟩⟩
  case kR =>
    rintro v new ob' h' tk' F' N' hne ⟨⟨tb, rfl⟩, r, us, c', rfl, rfl, hI⟩
    exact ret r us c' tb h' tk' F' N' (fun q hq => hne _ (.head _) q hq) hI
  clear B F X N T ret U
  clear hm hm2 hm3
  intro g' L' h' u tk₁ F' N' B' X' T'
  (try dsimp only [kstB] at F')
  try dsimp only
  try k_fold
  have m0 : 0 ≤ at0.fmod (items.length : Int) := fmod_ge a0 (by omega)
  have m9 : at0.fmod (items.length : Int) < (items.length : Int) := fmod_lt at0 (by omega)
  k_with "call ref" => ((with_reducible show wpAny _ _ (call (Value.ref 74) _) _ _ _); k_dflt (refine' Mine.shl_c ?uB ?uF ?uX ?uN ?uT ?uk ?ud ?uu ?p0 ?p1 ?p2 ?p3 ?p4 ?p5 ?p6 ?p7 ?_; (case uB => k_asm); (case uF => k_asm); (case uX => k_asm); (case uN => k_asm); (case uT => k_asm); (case uk => exact rfl); (case ud => ((try dsimp only [ktrTop, Around.deeper, callerA]); first | walk_at "MineRoom" | omega | decide)); (case uu => ((try dsimp only [ktrTop, Around.deeper, callerA]); first | walk_at "MineRoom" | omega | decide)); (case p0 => k_mem); (case p1 => l_ints); (case p2 => first | assumption | ((try simp only [List.length_append, List.length_cons, List.length_nil, List.length_take]); omega)); (case p3 => first | assumption | walk_at "Om" | omega); (case p4 => first | assumption | walk_at "Om" | omega); (case p5 => first | assumption | walk_at "Om" | omega); (case p6 => first | assumption | walk_at "Om" | omega); (case p7 => assumption); intro r9 us9 c9 h9 tk9 F9 N9 ne9 I9; (replace ne9 := Mine.allNe_of ne9; simp only [Mine.AllNe, and_true] at ne9); rw [hs] at I9; (try k_sweep); (try dsimp only); (try k_fold)))
  k_with "call ref" => ((with_reducible show wpAny _ _ (call (Value.ref 60) _) _ _ _); k_dflt (refine' Mine.add_c ?uB ?uF ?uX ?uN ?uT ?uk ?ud ?uu ?p0 ?p1 ?p2 ?p3 ?p4 ?p5 ?p6 ?p7 ?p8 ?p9 ?_; (case uB => k_asm); (case uF => k_asm); (case uX => k_asm); (case uN => k_asm); (case uT => k_asm); (case uk => exact rfl); (case ud => ((try dsimp only [ktrTop, Around.deeper, callerA]); first | walk_at "MineRoom" | omega | decide)); (case uu => ((try dsimp only [ktrTop, Around.deeper, callerA]); first | walk_at "MineRoom" | omega | decide)); (case p0 => k_mem); (case p1 => k_mem); (case p2 => l_ints); (case p3 => l_ints); (case p4 => first | assumption | ((try simp only [List.length_append, List.length_cons, List.length_nil, List.length_take]); omega)); (case p5 => first | assumption | ((try simp only [List.length_append, List.length_cons, List.length_nil, List.length_take]); omega)); (case p6 => first | assumption | walk_at "Om" | omega); (case p7 => first | assumption | walk_at "Om" | omega); (case p8 => first | exact (fun _ h9 => (gx _ h9).1) | (intro z hz; cases hz)); (case p9 => first | exact (fun _ h9 => (gx _ h9).1) | (intro z hz; cases hz)); intro r9 us9 c9 h9 tk9 F9 N9 ne9 I9; (replace ne9 := Mine.allNe_of ne9; simp only [Mine.AllNe, and_true] at ne9); rw [ha] at I9; (try k_sweep); (try dsimp only); (try k_fold)))
  k_with "call ref" => ((with_reducible show wpAny _ _ (call (Value.ref 95) _) _ _ _); k_dflt (refine' Mine.low_c ?uB ?uF ?uX ?uN ?uT ?uk ?ud ?uu ?p0 ?p1 ?p2 ?p3 ?p4 ?p5 ?p6 ?_; (case uB => k_asm); (case uF => k_asm); (case uX => k_asm); (case uN => k_asm); (case uT => k_asm); (case uk => exact rfl); (case ud => ((try dsimp only [ktrTop, Around.deeper, callerA]); first | walk_at "MineRoom" | omega | decide)); (case uu => ((try dsimp only [ktrTop, Around.deeper, callerA]); first | walk_at "MineRoom" | omega | decide)); (case p0 => k_mem); (case p1 => l_ints); (case p2 => first | assumption | ((try simp only [List.length_append, List.length_cons, List.length_nil, List.length_take]); omega)); (case p3 => first | assumption | walk_at "Om" | omega); (case p4 => first | assumption | walk_at "Om" | omega); (case p5 => first | assumption | walk_at "Om" | omega); (case p6 => first | assumption | walk_at "Om" | omega); intro r9 us9 c9 h9 tk9 F9 N9 ne9 I9; (replace ne9 := Mine.allNe_of ne9; simp only [Mine.AllNe, and_true] at ne9); rw [hw] at I9; (try k_sweep); (try dsimp only); (try k_fold)))
  k_with "BodyEnd" => (k_dflt (first
  | ((refine Mine.end_new (by k_asm) (by k_asm) (by k_mem) (by kst_allIn) (by k_all) ?_); (refine Mine.outI ?_))
  | ((refine Mine.end_val (by k_asm) (by k_asm) (by kst_allIn) ?_))))
  k_with "subscriptTail" => ((k_here; (with_reducible show wpAny _ _ (subscriptTail _ _ (Value.ref _) (Value.int (Int.fmod _ _) _)) _ _ _); k_dflt (with_unfolding_all refine' Mine.my_item ?k1 ?k2 ?k3 ?k4 ?_ ?k6; (case k1 => exact News.isList (by k_asm) (by k_mem)); (case k2 => (rw [List.size_toArray]; assumption)); (case k3 => (rw [List.size_toArray]; omega)); (case k4 => (rw [List.size_toArray]; assumption)); (case k6 => with_unfolding_all rfl); k_whole)))
  k_with "WhlIf" => (first | (refine WhlIf.yes (by simp only [decide_eq_true_eq]; omega) ?_) | (refine WhlIf.no (by simp only [decide_eq_false_iff_not]; omega) ?_))
  k_with "exec While Compare cons nil" => (((with_reducible show wpAny _ _ (exec (PySem.Stmt.While (PySem.Expr.Compare (PySem.Expr.Name (PySem.Str.ofString "have") _) _ _ _) _ _ _) _) _ _ _); k_dflt (refine whl_start 100 ?_)))
  k_with "call builtin:len" => (((with_reducible show wpAny _ _ (call (Value.builtin _) [Value.ref _]) _ _ _); refine PySem.Calls.call_len_list (News.isList (by k_asm) (by k_mem)) (by simp only [List.size_toArray]; omega) ?_))
  k_with "subscriptTail Name Slice ref ref" => (((with_reducible show wpAny _ _ (subscriptTail _ (PySem.Expr.Slice _ _ none _) (Value.ref _) (Value.ref _)) _ _ _); k_dflt (refine' kmk_slice_ints ?sF ?sN ?sl ?sp ?sq ?si ?sm ?sc ?_ ?ss ?st ?sz; (case sF => k_asm); (case sN => k_asm); (case sl => kmk_list); (case sp => kmk_part); (case sq => kmk_part); (case si => l_ints); (case sm => first | (with_reducible exact kmk_all (by assumption)) | (with_reducible exact kmk_upto (by assumption) (by first | assumption | walk_at "Om" | omega))); (case sc => exact rfl); (case ss => with_unfolding_all rfl); (case st => kmk_pure); (case sz => exact kmk_sz (by assumption) (by rw [sizeLine_eq]; omega)); intro D9 ws9 h9 F9 N9 l9 I9 C9 L9; (try k_lt l9); (try k_sweep))))
  k_with "BodyEndU" => (first
  | ((refine Mine.end_newU (by k_asm) (by k_asm) (by k_mem) (by k_mem) (by kst_allIn) (And.intro (by k_ne) (Mine.ne_allOf (by (simp only [Mine.AllNe, and_true]; (repeat' (refine And.intro ?_ ?_)) <;> first | assumption | k_ne)))) ?_))
  | ((refine Mine.end_valU (by k_asm) (by k_asm) (by k_mem) (by kst_allIn) ?_)))
  k_with "eval Call" => ((with_reducible show wpAny _ _ (eval (PySem.Expr.Call (PySem.Expr.Name _ _) (PySem.Expr.Name _ _ :: _) [] _) _) _ _ _); k_dflt (first | (refine' Mine.call_names ?zF ?zX ?zT ?ze ?zk ?za ?zz ?zx ?zd ?zh ?zp ?_; (case zx => exact rfl); (case zz => exact rfl); (case zF => k_asm); (case zX => k_asm); (case zT => k_asm); (case ze => k_is); (case zk => k_is); (case za => walk_at "EvAll"); (case zd => decide); (case zh => exact rfl); (case zp => exact rfl)) | (refine' Mine.call_namesB ?zF ?zX ?zT ?ze ?zv ?zn ?za ?zz ?zx ?zd ?zh ?zp ?_; (case zx => exact rfl); (case zz => exact rfl); (case zF => k_asm); (case zX => k_asm); (case zT => k_asm); (case ze => k_is); (case zv => boot_by_name); (case zn => decide); (case za => walk_at "EvAll"); (case zd => decide); (case zh => exact rfl); (case zp => exact rfl))))
  k_with "storeName" => (dsimp only; walk_at "storeName")
  first | (refine (id (α := let zA9 := _; let ze9 := _; let zg9 := _; let zd9 := _; let zo9 := _; wpAny _ zA9 (execs _ ze9) _ _ (Shared.mk _ zg9 zd9 _ zo9)) ?_); intro zA9 ze9 zg9 zd9 zo9) | skip
  k_with "execs cons" => ((rename Fr _ _ _ _ => lF); (refine (id (α := let zu9 := _; Fr _ _ _ zu9 → _) ?_) lF); clear lF; intro zu9 lF9; (try k_gentoks); refine wpAny_execs_cons ?_; (try dsimp only))
  k_steps
  all_goals exact outI (by assumption)

end Mine
end

section
open PySem PySem.W PySem.Spec PySem.Calls PyProof.Rows

namespace Mine
/-- what a call of random_below on a told row says of its end -/
noncomputable def BelowOut (w : World) (nl : Addr) (n : Int) (tq t1 t2 t3 : Tok) (fl : Nat → List Int) (bs : List Int) (k at0 : Int) (ob' : Obj) (new : List (Addr × Obj)) (v : Value) : Prop :=
  ∃ res a1 tb, ob' = (dictOf [⟨PyData.keyHash w.params "numbers", .str "numbers" t1, .ref nl⟩, ⟨PyData.keyHash w.params "many", .str "many" t2, .int n tq⟩, ⟨PyData.keyHash w.params "at", .str "at" t3, .int a1 tb⟩] 3) ∧ OutI res new v ∧ Picked fl bs k at0 res a1
set_option maxRecDepth 100000 in
set_option maxHeartbeats 8000000 in
theorem rbelow_c {w : World} {p : Program} {loose : List Str} {mean : ExcName → Option Value} {mg mb : Str → Option Value} {dp un : Nat} {gd : Option (List Code)} {cn : Str} {cs : Scope} {a : Addr} {ccd : Value} {cl : List (Str × Addr)} {outer : List Env} {A₀ : Around} {base h₀ : Heap} {L : Addr} {m : Str → Option Value} {news : List (Addr × Obj)} {s : Shared} {Q E : Value → Shared → Prop}
    (B : Below A₀ base outer h₀) (F : Fr h₀ L s.heap m) (X : (Mine.hd.heap_39 w.params).In h₀) (N : News h₀ L s.heap news) (T : Top p loose mean mg mb h₀) (hk : cs.kind = .function) (hd : dp + 6 < recursionLimit) (hu : un + 60 < cLine)
    {src dx nl bl : Addr} {items ub : List Value} {bs ms : List Int} {fl : Nat → List Int} {rows : List (Addr × Obj)} {cN cB : Nat} {k n at0 : Int} {tw tq ta t1 t2 t3 : Tok} {gl : Obj → List (Addr × Obj)} (U : UpdF dx (dictOf [⟨PyData.keyHash w.params "numbers", .str "numbers" t1, .ref nl⟩, ⟨PyData.keyHash w.params "many", .str "many" t2, .int n tq⟩, ⟨PyData.keyHash w.params "at", .str "at" t3, .int at0 ta⟩] 3) news gl) (hm : (src, instObj 182 dx) ∈ news) (hm2 : (nl, listOf items.toArray cN) ∈ news) (hm3 : (bl, listOf ub.toArray cB) ∈ news) (hrows : ∀ q ∈ rows, q ∈ news) (o1 : src ≠ dx) (o2 : nl ≠ dx) (o3 : bl ≠ dx) (o4 : OwnOff rows [dx]) (hi : IntsAre ub bs) (hb : bs.length ≤ 100) (hb0 : 0 < bs.length) (h2 : 2 ≤ k) (h8 : k ≤ 8) (n1 : 1 ≤ n) (n9 : n ≤ 60) (hL : 0 < items.length) (hL9 : items.length ≤ 200) (a0 : 0 ≤ at0) (a9 : at0 ≤ 100)
    (hT : ∀ j : Nat, ∃ a vs c, items[((at0 + (j : Int)).fmod (items.length : Int)).toNat]? = some (.ref a) ∧ (a, listOf vs.toArray c) ∈ rows ∧ IntsAre vs (fl j))
    (hF : ∀ j, (fl j).length ≤ 100 ∧ (∀ z ∈ fl j, 0 ≤ z ∧ z < 256) ∧ shlZ k 0 (fl j) = fl j ∧ addZ k [] (fl j) = fl j ∧ lowZ k n (fl j) = fl j)
    (hms : subZ k bs [1] = ms) (hml : ms.length ≤ 200) (hbit : bitsZ k ms = n) (hc1 : 0 ≤ cmpZ bs [1])
    (ret : ∀ r us c' res a1 tb h' tk', Fr h₀ L h' m → News h₀ L h' ((r, listOf us.toArray c') :: gl (dictOf [⟨PyData.keyHash w.params "numbers", .str "numbers" t1, .ref nl⟩, ⟨PyData.keyHash w.params "many", .str "many" t2, .int n tq⟩, ⟨PyData.keyHash w.params "at", .str "at" t3, .int a1 tb⟩] 3)) → (∀ q ∈ gl (dictOf [⟨PyData.keyHash w.params "numbers", .str "numbers" t1, .ref nl⟩, ⟨PyData.keyHash w.params "many", .str "many" t2, .int n tq⟩, ⟨PyData.keyHash w.params "at", .str "at" t3, .int a1 tb⟩] 3), r ≠ q.1) → IntsAre us res → Picked fl bs k at0 res a1 → Q (.ref r) { s with heap := h', toks := tk' }) :
    wpAny (model PySem.Challenge.rw_pq0542_01.row.prog w) (ktrTop dp un gd cn cs L a ccd cl outer) (call (.ref 200) [Value.ref src, Value.ref bl, Value.int k tw]) Q E s := by
  k_with_none
  k_with "Om" => (first | walk_at "MineRoom" | exact Int.natCast_nonneg _ | exact Mine.i_up (by with_reducible assumption) rfl | exact Mine.i_dn (by with_reducible assumption) rfl | exact Mine.i_lt (by with_reducible assumption) rfl | exact Mine.i_gt (by with_reducible assumption) rfl | exact Mine.n_up (by with_reducible assumption) rfl | exact Mine.n_eq (by with_reducible assumption) rfl | exact Mine.n_ge (by with_reducible assumption) rfl | exact Mine.sub0n)
  k_with "EvAll" => (first | exact Mine.EvAll.nil | exact Mine.evs_L (by k_asm) (by exact rfl) rfl rfl (by decide) (by walk_at "EvAll") | exact Mine.evs_C (by k_asm) (by exact rfl) (by k_mem) (by assumption) rfl rfl (by decide) (by walk_at "EvAll"))
  k_with "MineLt" => (first | ((repeat (first | exact Nat.lt_succ_self _ | refine Nat.lt_succ_of_lt ?_)); done) | ((repeat (refine Nat.lt_succ_of_lt ?_)); with_reducible assumption))
  k_with "MineLt2" => (refine Nat.lt_trans ?_ (by with_reducible assumption); walk_at "MineLt")
  k_with "MineRoom" => (k_whole; first | exact Mine.room1 (by with_reducible assumption) rfl | exact Mine.room2 (by with_reducible assumption) rfl | exact Mine.room3 (by with_reducible assumption) rfl | exact Mine.room4 (by with_reducible assumption) rfl | exact Mine.room5 (by with_reducible assumption) rfl | exact Mine.room0 (by with_reducible assumption))
  w_top off
  revert X; k_fill; intro X
  k_dflt (refine' call_u2 ((src, instObj 182 dx) :: (nl, listOf items.toArray cN) :: (bl, listOf ub.toArray cB) :: rows) (BelowOut w nl n tq t1 t2 t3 fl bs k at0) ?k1 ?k2 ?k3 ?k4 ?k5 ?kU ?ks ?ko ?kA ?kF ?kK ?k6 ?k7 ?k8 ?k9 ?kB ?kR (ps := [(Str.ofString "source", Value.ref src), (Str.ofString "bound", Value.ref bl), (Str.ofString "w", Value.int k tw)]) ?kP ?_ ?c2 ?c3 ?c4 ?c5; (case kA => exact rfl); (case kF => exact rfl); (case kK => assumption); (case k1 => k_asm); (case k2 => k_asm); (case k3 => k_asm); (case k4 => k_asm); (case k5 => k_asm); (case kU => assumption); (case k6 => k_is); (case k7 => k_is); (case k8 => (show dp < recursionLimit; first | walk_at "MineRoom" | omega)); (case k9 => exact BindsTo.of_eq rfl); (case c5 => decide); (case kB => exact locs rfl); (case kP => kst_all); (case c2 => exact rfl); (case c3 => exact rfl); (case c4 => exact rfl))
  case ks => exact List.forall_mem_cons.mpr ⟨hm, List.forall_mem_cons.mpr ⟨hm2, List.forall_mem_cons.mpr ⟨hm3, hrows⟩⟩⟩
  case ko => exact List.forall_mem_cons.mpr ⟨o1, List.forall_mem_cons.mpr ⟨o2, List.forall_mem_cons.mpr ⟨o3, (fun q hq => o4 q hq _ (List.Mem.head _))⟩⟩⟩
  case kR =>
    rintro v new ob' h' tk' F' N' hne ⟨res, a1, tb, rfl, ⟨r, us, c', rfl, rfl, hI⟩, hP⟩
    exact ret r us c' res a1 tb h' tk' F' N' (fun q hq => hne _ (.head _) q hq) hI hP
  clear B F X N T ret U
  clear hm hm2 hm3
  intro g' L' h' u tk₁ F' N' B' X' T'
  (try dsimp only [kstB] at F')
  try dsimp only
  try k_fold
  obtain ⟨ar0, vr0, cr0, hx0, hm0, hv0⟩ := hT 0
  rw [show at0 + ((0 : Nat) : Int) = at0 by omega] at hx0
  have kMark := kstMark
  k_with "call ref" => ((with_reducible show wpAny _ _ (call (Value.ref 67) _) _ _ _); k_dflt (refine' Mine.sub_c ?uB ?uF ?uX ?uN ?uT ?uk ?ud ?uu ?p0 ?p1 ?p2 ?p3 ?p4 ?p5 ?p6 ?p7 ?p8 ?_; (case uB => k_asm); (case uF => k_asm); (case uX => k_asm); (case uN => k_asm); (case uT => k_asm); (case uk => exact rfl); (case ud => ((try dsimp only [ktrTop, Around.deeper, callerA]); first | walk_at "MineRoom" | omega | decide)); (case uu => ((try dsimp only [ktrTop, Around.deeper, callerA]); first | walk_at "MineRoom" | omega | decide)); (case p0 => k_mem); (case p1 => k_mem); (case p2 => first | assumption | l_ints); (case p3 => first | assumption | l_ints); (case p4 => first | assumption | exact (hF _).1 | exact Nat.le_trans (hF _).1 (by decide) | omega); (case p5 => first | assumption | omega | decide); (case p6 => first | assumption | walk_at "Om" | omega); (case p7 => first | assumption | walk_at "Om" | omega); (case p8 => first | assumption | walk_at "Om" | omega); intro r9 us9 c9 h9 tk9 F9 N9 ne9 I9; (replace ne9 := Mine.allNe_of ne9; simp only [Mine.AllNe, and_true] at ne9; (repeat (have hn9 := ne9.1; replace ne9 := ne9.2))); (try rw [hms] at I9); (try k_sweep); (try dsimp only); (try k_fold)))
  k_with "call ref" => ((with_reducible show wpAny _ _ (call (Value.ref 88) _) _ _ _); k_dflt (refine' Mine.bits_c ?uB ?uF ?uX ?uN ?uT ?uk ?ud ?uu ?p0 ?p1 ?p2 ?p3 ?p4 ?_; (case uB => k_asm); (case uF => k_asm); (case uX => k_asm); (case uN => k_asm); (case uT => k_asm); (case uk => exact rfl); (case ud => ((try dsimp only [ktrTop, Around.deeper, callerA]); first | walk_at "MineRoom" | omega | decide)); (case uu => ((try dsimp only [ktrTop, Around.deeper, callerA]); first | walk_at "MineRoom" | omega | decide)); (case p0 => k_mem); (case p1 => l_ints); (case p2 => first | assumption | walk_at "Om" | omega); (case p3 => first | assumption | walk_at "Om" | omega); (case p4 => first | assumption | walk_at "Om" | omega); intro t9 h9 tk9 F9 N9; rw [hbit]; (try k_sweep); (try dsimp only); (try k_fold)))
  k_with "call ref" => ((with_reducible show wpAny _ _ (call (Value.ref 53) _) _ _ _); k_dflt (refine' Mine.compare_c ?uB ?uF ?uX ?uN ?uT ?uk ?ud ?uu ?p0 ?p1 ?p2 ?p3 ?p4 ?p5 ?_; (case uB => k_asm); (case uF => k_asm); (case uX => k_asm); (case uN => k_asm); (case uT => k_asm); (case uk => exact rfl); (case ud => ((try dsimp only [ktrTop, Around.deeper, callerA]); first | walk_at "MineRoom" | omega | decide)); (case uu => ((try dsimp only [ktrTop, Around.deeper, callerA]); first | walk_at "MineRoom" | omega | decide)); (case p0 => k_mem); (case p1 => k_mem); (case p2 => assumption); (case p3 => assumption); (case p4 => first | assumption | (have := (hF 80).1; omega) | exact Nat.le_trans (hF _).1 (by decide)); (case p5 => first | assumption | walk_at "Om" | omega); intro t9 h9 tk9 F9 N9; (try k_sweep); (try dsimp only); (try k_fold)))
  k_with "call ref" => ((with_reducible show wpAny _ _ (call (Value.ref 193) _) _ _ _); k_dflt (refine' Mine.rbits_c ?uB ?uF ?uX ?uN ?uT ?uk ?ud ?uu ?p0 ?p1 ?p2 ?p3 ?p4 ?p5 ?p6 ?p7 ?p8 ?p9 ?p10 ?p11 ?p12 ?p13 ?p14 ?p15 ?p16 ?p17 ?p18 ?p19 ?p20 ?p21 ?_; (case uB => k_asm); (case uF => k_asm); (case uX => k_asm); (case uN => k_asm); (case uT => k_asm); (case uk => exact rfl); (case ud => ((try dsimp only [ktrTop, Around.deeper, callerA]); first | walk_at "MineRoom" | omega | decide)); (case uu => ((try dsimp only [ktrTop, Around.deeper, callerA]); first | walk_at "MineRoom" | omega | decide)); (case p1 => k_mem); (case p0 => k_updF); (case p2 => k_mem); (case p3 => kst_mem); (case p4 => k_ne); (case p5 => k_ne); (case p6 => exact o4 _ (by assumption) _ (List.Mem.head _)); (case p7 => exact hv0); (case p8 => exact (hF 0).1); (case p9 => exact (hF 0).2.1); (case p10 => first | assumption | walk_at "Om" | omega); (case p11 => first | assumption | walk_at "Om" | omega); (case p12 => first | assumption | walk_at "Om" | omega); (case p13 => first | assumption | walk_at "Om" | omega); (case p14 => first | assumption | walk_at "Om" | omega); (case p15 => first | assumption | walk_at "Om" | omega); (case p16 => first | assumption | walk_at "Om" | omega); (case p17 => first | assumption | walk_at "Om" | omega); (case p18 => assumption); (case p19 => exact (hF 0).2.2.1); (case p20 => exact (hF 0).2.2.2.1); (case p21 => exact (hF 0).2.2.2.2); intro r9 us9 c9 tb9 h9 tk9 F9 N9 ne9 I9; (try dsimp only at N9 ne9); have nw9 := ne9; (replace ne9 := Mine.allNe_of ne9; simp only [Mine.AllNe, and_true] at ne9; (repeat (have hn9 := ne9.1; replace ne9 := ne9.2))); (try k_sweep); (try dsimp only); (try k_fold)))
  k_with "call ref" => ((with_reducible show wpAny _ _ (call (Value.ref 193) _) _ _ _); k_dflt (refine' Mine.rbits_c ?uB ?uF ?uX ?uN ?uT ?uk ?ud ?uu ?p0 ?p1 ?p2 ?p3 ?p4 ?p5 ?p6 ?p7 ?p8 ?p9 ?p10 ?p11 ?p12 ?p13 ?p14 ?p15 ?p16 ?p17 ?p18 ?p19 ?p20 ?p21 ?_; (case uB => k_asm); (case uF => k_asm); (case uX => k_asm); (case uN => k_asm); (case uT => k_asm); (case uk => exact rfl); (case ud => ((try dsimp only [ktrTop, Around.deeper, callerA]); first | walk_at "MineRoom" | omega | decide)); (case uu => ((try dsimp only [ktrTop, Around.deeper, callerA]); first | walk_at "MineRoom" | omega | decide)); (case p1 => k_mem); (case p0 => k_updF); (case p2 => k_mem); (case p3 => kst_mem); (case p4 => k_ne); (case p5 => k_ne); (case p6 => exact o4 _ (by assumption) _ (List.Mem.head _)); (case p7 => exact hv7); (case p8 => exact (hF _).1); (case p9 => exact (hF _).2.1); (case p10 => first | assumption | walk_at "Om" | omega); (case p11 => first | assumption | walk_at "Om" | omega); (case p12 => first | assumption | walk_at "Om" | omega); (case p13 => first | assumption | walk_at "Om" | omega); (case p14 => first | assumption | walk_at "Om" | omega); (case p15 => first | assumption | walk_at "Om" | omega); (case p16 => first | assumption | walk_at "Om" | omega); (case p17 => first | assumption | walk_at "Om" | omega); (case p18 => assumption); (case p19 => exact (hF _).2.2.1); (case p20 => exact (hF _).2.2.2.1); (case p21 => exact (hF _).2.2.2.2); intro r9 us9 c9 tb9 h9 tk9 F9 N9 ne9 I9; (try dsimp only at N9 ne9); have nw9 := ne9; (replace ne9 := Mine.allNe_of ne9; simp only [Mine.AllNe, and_true] at ne9; (repeat (have hn9 := ne9.1; replace ne9 := ne9.2))); (try k_sweep); (try dsimp only); (try k_fold)))
  k_with "pyIter ref" => k_dflt ((with_reducible show wpAny _ _ (pyIter (Value.ref _)) (fun it s₂ => LoopAtV _ _ _ _ _ _ _ _ _ it s₂) _ _); (rename Fr _ _ _ _ => lF'); (rename News _ _ _ _ => lN'); (rename IsRange _ _ _ _ _ _ _ _ => rgX); (with_unfolding_all refine' loop_run (n := 80) (σ := Addr × List Value × Nat × Int × Tok) (fun c => (c.1, listOf c.2.1.toArray c.2.2.1) :: (dx, (dictOf [⟨PyData.keyHash w.params "numbers", .str "numbers" t1, .ref nl⟩, ⟨PyData.keyHash w.params "many", .str "many" t2, .int n tq⟩, ⟨PyData.keyHash w.params "at", .str "at" t3, .int c.2.2.2.1 c.2.2.2.2⟩] 3)) :: (src, instObj 182 dx) :: (nl, listOf items.toArray cN) :: (bl, listOf ub.toArray cB) :: rows) (fun c => [(Str.ofString "found", .ref c.1)]) [] (fun i c => c.2.2.2.1 = at0 + (i : Int) + 1 ∧ IntsAre c.2.1 (fl i) ∧ (∀ j, j < i → ¬ cmpZ (fl j) bs < 0) ∧ @Ne Nat c.1 dx ∧ @Ne Nat c.1 src ∧ @Ne Nat c.1 nl ∧ @Ne Nat c.1 bl ∧ AllNe c.1 rows) (r9, us9, c9, at0 + 1, tb9) (by rfl) rgX (by decide) (by rfl) lF' ?kn ?kk ?kp ?kt ?kd); (case kn => with_unfolding_all exact kst_newsOf lN' (by (dsimp only; kst_allIn))); (case kk => kst_all); (case kp => (dsimp only; exact ⟨by omega, I9, (fun j h9 => absurd h9 (Nat.not_lt_zero j)), by omega, by omega, by omega, by omega, allNe_of (fun q h9 => nw9 q (by kst_mem))⟩)); (case' kt => (clear lF' lN'; refine Mine.prod5 ?_; intro r7 us7 c7 A7 tb7 i7 t7 u7 h7 tk7 own7 hlt7 hoff7 hP7 F7 N7; have hA7 := hP7.1; have hI7 := hP7.2.1; have hJ7 := hP7.2.2.1; have hd7 := hP7.2.2.2.1; have hs7 := hP7.2.2.2.2.1; have hn7 := hP7.2.2.2.2.2.1; have hb7 := hP7.2.2.2.2.2.2.1; have hr7 := hP7.2.2.2.2.2.2.2; clear hP7; dsimp only at hoff7 hA7 hI7 hd7 hs7 hn7 hb7 hr7 F7 N7; simp only [List.map_cons] at hoff7; simp only [List.cons_append] at N7; obtain ⟨ar7, vr7, cr7, hx7, hm7, hv7⟩ := hT (i7 + 1); rw [show at0 + ((i7 + 1 : Nat) : Int) = A7 by omega] at hx7; have kMark := kstMark; try k_fold)); (case' kd => (clear lF' lN'; refine Mine.prod5 ?_; intro r7 us7 c7 A7 tb7 u7 h7 tk7 hP7 F7 N7; have hA7 := hP7.1; have hI7 := hP7.2.1; have hJ7 := hP7.2.2.1; have hd7 := hP7.2.2.2.1; have hs7 := hP7.2.2.2.2.1; have hn7 := hP7.2.2.2.2.2.1; have hb7 := hP7.2.2.2.2.2.2.1; have hr7 := hP7.2.2.2.2.2.2.2; clear hP7; dsimp only at hA7 hI7 hd7 hs7 hn7 hb7 hr7 F7 N7; have kMark := kstMark; try k_fold)))
  k_with "RunEnd" => k_dflt ((rename News _ _ _ _ => nE'); (refine' run_end (r9, us9, c9, A7 + 1, tb9) ?za nE' ?zb ?zc ?zd ?ze ?zf ?zg); (case za => assumption); (case zb => kst_in); (case zc => (intro p hp; kst_mem)); (case zd => exact led5_off (fun q h9 => nw9 q (by kst_mem)) hoff7); (case ze => kst_all); (case zf => (intro z h1 h2 h3; with_unfolding_all exact run_same h1 (h2 _ (List.Mem.head _)))); (case zg => (dsimp only; exact ⟨by omega, I9, (fun j h9 => if hj : j < i7 then hJ7 j hj else (by have hj2 : j = i7 := (by omega); rw [hj2]; assumption)), by omega, by omega, by omega, by omega, allNe_of (fun q h9 => nw9 q (by kst_mem))⟩)))
  k_with "BodyEnd" => (k_dflt (first
  | ((refine Mine.end_new (by k_asm) (by k_asm) (by k_mem) (by kst_allIn) (by k_all) ?_); (refine Mine.outI ?_))
  | ((refine Mine.end_val (by k_asm) (by k_asm) (by kst_allIn) ?_))))
  k_with "subscriptTail Name Slice ref ref" => (((with_reducible show wpAny _ _ (subscriptTail _ (PySem.Expr.Slice _ _ none _) (Value.ref _) (Value.ref _)) _ _ _); k_dflt (refine' kmk_slice_ints ?sF ?sN ?sl ?sp ?sq ?si ?sm ?sc ?_ ?ss ?st ?sz; (case sF => k_asm); (case sN => k_asm); (case sl => kmk_list); (case sp => kmk_part); (case sq => kmk_part); (case si => l_ints); (case sm => first | (with_reducible exact kmk_all (by assumption)) | (with_reducible exact kmk_upto (by assumption) (by first | assumption | walk_at "Om" | omega))); (case sc => exact rfl); (case ss => with_unfolding_all rfl); (case st => kmk_pure); (case sz => exact kmk_sz (by assumption) (by rw [sizeLine_eq]; omega)); intro D9 ws9 h9 F9 N9 l9 I9 C9 L9; (try k_lt l9); (try k_sweep))))
  k_with "BodyEndU" => (first
  | ((refine Mine.end_newU (by k_asm) (by k_asm) (by k_mem) (by k_mem) (by kst_allIn) (And.intro (by k_ne) (Mine.ne_allOf (by (simp only [Mine.AllNe, and_true]; (repeat' (refine And.intro ?_ ?_)) <;> first | assumption | k_ne)))) ?_))
  | ((refine Mine.end_valU (by k_asm) (by k_asm) (by k_mem) (by kst_allIn) ?_)))
  k_with "RunPost" => ((dsimp only [Mine.RunPost]))
  k_with "eval Call" => ((with_reducible show wpAny _ _ (eval (PySem.Expr.Call (PySem.Expr.Name _ _) (PySem.Expr.Name _ _ :: _) [] _) _) _ _ _); k_dflt (first | (refine' Mine.call_names ?zF ?zX ?zT ?ze ?zk ?za ?zz ?zx ?zd ?zh ?zp ?_; (case zx => exact rfl); (case zz => exact rfl); (case zF => k_asm); (case zX => k_asm); (case zT => k_asm); (case ze => k_is); (case zk => k_is); (case za => walk_at "EvAll"); (case zd => decide); (case zh => exact rfl); (case zp => exact rfl)) | (refine' Mine.call_namesB ?zF ?zX ?zT ?ze ?zv ?zn ?za ?zz ?zx ?zd ?zh ?zp ?_; (case zx => exact rfl); (case zz => exact rfl); (case zF => k_asm); (case zX => k_asm); (case zT => k_asm); (case ze => k_is); (case zv => boot_by_name); (case zn => decide); (case za => walk_at "EvAll"); (case zd => decide); (case zh => exact rfl); (case zp => exact rfl))))
  k_with "storeName" => (dsimp only; walk_at "storeName")
  first | (refine (id (α := let zA9 := _; let ze9 := _; let zg9 := _; let zd9 := _; let zo9 := _; wpAny _ zA9 (execs _ ze9) _ _ (Shared.mk _ zg9 zd9 _ zo9)) ?_); intro zA9 ze9 zg9 zd9 zo9) | skip
  k_with "execs cons" => ((rename Fr _ _ _ _ => lF); (refine (id (α := let zu9 := _; Fr _ _ _ zu9 → _) ?_) lF); clear lF; intro zu9 lF9; (try k_gentoks); refine wpAny_execs_cons ?_; (try dsimp only))
  k_steps
  all_goals first
    | exact ⟨_, _, _, rfl, outI (by assumption), Or.inl ⟨i7, by omega, hJ7, by assumption, rfl, hA7⟩⟩
    | exact ⟨_, _, _, rfl, outI (by assumption), Or.inl ⟨80, by omega, hJ7, by omega, rfl, hA7⟩⟩
    | exact ⟨_, _, _, rfl, outI (by assumption), Or.inr ⟨(fun i h9 => if hj : i < 80 then hJ7 i hj else (by have hj2 : i = 80 := (by omega); rw [hj2]; omega)), rfl, by rw [hA7]; omega⟩⟩

end Mine
end

section
open PySem PySem.W PySem.Spec PySem.Calls PyProof.Rows

namespace Mine
set_option maxRecDepth 100000 in
set_option maxHeartbeats 8000000 in
theorem rbits0_c {w : World} {p : Program} {loose : List Str} {mean : ExcName → Option Value} {mg mb : Str → Option Value} {dp un : Nat} {gd : Option (List Code)} {cn : Str} {cs : Scope} {a : Addr} {ccd : Value} {cl : List (Str × Addr)} {outer : List Env} {A₀ : Around} {base h₀ : Heap} {L : Addr} {m : Str → Option Value} {news : List (Addr × Obj)} {s : Shared} {Q E : Value → Shared → Prop}
    (B : Below A₀ base outer h₀) (F : Fr h₀ L s.heap m) (X : (Mine.hd.heap_39 w.params).In h₀) (N : News h₀ L s.heap news) (T : Top p loose mean mg mb h₀) (hk : cs.kind = .function) (hd : dp + 4 < recursionLimit) (hu : un + 40 < cLine)
    {v0 : Value} {k : Int} {tw tn : Tok} (h2 : 2 ≤ k) (h8 : k ≤ 8)
    (ret : ∀ r us c' h' tk', Fr h₀ L h' m → News h₀ L h' ((r, listOf us.toArray c') :: news) → (∀ q ∈ news, r ≠ q.1) → IntsAre us ([]) → Q (.ref r) { s with heap := h', toks := tk' }) :
    wpAny (model PySem.Challenge.rw_pq0542_01.row.prog w) (ktrTop dp un gd cn cs L a ccd cl outer) (call (.ref 193) [v0, Value.int 0 tn, Value.int k tw]) Q E s := by
  k_with_none
  k_with "Om" => (first | walk_at "MineRoom" | exact Int.natCast_nonneg _ | exact Mine.i_up (by with_reducible assumption) rfl | exact Mine.i_dn (by with_reducible assumption) rfl | exact Mine.i_lt (by with_reducible assumption) rfl | exact Mine.i_gt (by with_reducible assumption) rfl | exact Mine.n_up (by with_reducible assumption) rfl | exact Mine.n_eq (by with_reducible assumption) rfl | exact Mine.n_ge (by with_reducible assumption) rfl | exact Mine.sub0n)
  k_with "EvAll" => (first | exact Mine.EvAll.nil | exact Mine.evs_L (by k_asm) (by exact rfl) rfl rfl (by decide) (by walk_at "EvAll") | exact Mine.evs_C (by k_asm) (by exact rfl) (by k_mem) (by assumption) rfl rfl (by decide) (by walk_at "EvAll"))
  k_with "MineLt" => (first | ((repeat (first | exact Nat.lt_succ_self _ | refine Nat.lt_succ_of_lt ?_)); done) | ((repeat (refine Nat.lt_succ_of_lt ?_)); with_reducible assumption))
  k_with "MineLt2" => (refine Nat.lt_trans ?_ (by with_reducible assumption); walk_at "MineLt")
  k_with "MineRoom" => (k_whole; first | exact Mine.room1 (by with_reducible assumption) rfl | exact Mine.room2 (by with_reducible assumption) rfl | exact Mine.room3 (by with_reducible assumption) rfl | exact Mine.room4 (by with_reducible assumption) rfl | exact Mine.room5 (by with_reducible assumption) rfl | exact Mine.room0 (by with_reducible assumption))
  w_top off
  revert X; k_fill; intro X
  k_dflt (refine' call_r2 [] (OutI []) ?k1 ?k2 ?k3 ?k4 ?k5 ?ks ?kA ?kF ?kK ?k6 ?k7 ?k8 ?k9 ?kB ?kR (ps := [(Str.ofString "source", v0), (Str.ofString "n", Value.int 0 tn), (Str.ofString "w", Value.int k tw)]) ?kP ?_ ?c2 ?c3 ?c4 ?c5; (case kA => exact rfl); (case kF => exact rfl); (case kK => assumption); (case k1 => k_asm); (case k2 => k_asm); (case k3 => k_asm); (case k4 => k_asm); (case k5 => k_asm); (case k6 => k_is); (case k7 => k_is); (case k8 => (show dp < recursionLimit; first | walk_at "MineRoom" | omega)); (case k9 => exact BindsTo.of_eq rfl); (case c5 => decide); (case kB => exact locs rfl); (case kP => kst_all); (case c2 => exact rfl); (case c3 => exact rfl); (case c4 => exact rfl))
  case ks => exact List.forall_mem_nil _
  case kR =>
    rintro v new h' tk' F' N' hne ⟨r, us, c', rfl, rfl, hI⟩
    exact ret r us c' h' tk' F' N' (fun q hq => hne _ (.head _) q hq) hI
  clear B F X N T ret
  intro g' L' h' u tk₁ F' N' B' X' T'
  (try dsimp only [kstB] at F')
  try dsimp only
  try k_fold
  have i0 : IntsAre [] [] := IntsAre.nil
  k_with "call ref" => ((with_reducible show wpAny _ _ (call (Value.ref 95) _) _ _ _); k_dflt (refine' Mine.low_c ?uB ?uF ?uX ?uN ?uT ?uk ?ud ?uu ?p0 ?p1 ?p2 ?p3 ?p4 ?p5 ?p6 ?_; (case uB => k_asm); (case uF => k_asm); (case uX => k_asm); (case uN => k_asm); (case uT => k_asm); (case uk => exact rfl); (case ud => ((try dsimp only [ktrTop, Around.deeper, callerA]); first | walk_at "MineRoom" | omega | decide)); (case uu => ((try dsimp only [ktrTop, Around.deeper, callerA]); first | walk_at "MineRoom" | omega | decide)); (case p0 => k_mem); (case p1 => first | assumption | exact IntsAre.nil); (case p2 => decide); (case p3 => first | assumption | walk_at "Om" | omega); (case p4 => first | assumption | walk_at "Om" | omega); (case p5 => decide); (case p6 => decide); intro r9 us9 c9 h9 tk9 F9 N9 ne9 I9; (replace ne9 := Mine.allNe_of ne9; (try simp only [Mine.AllNe, and_true] at ne9); (repeat (have hn9 := ne9.1; replace ne9 := ne9.2))); rw [lowZ, if_pos (by rw [Int.zero_fdiv]; decide)] at I9; (try k_sweep); (try dsimp only); (try k_fold)))
  k_with "BodyEnd" => (k_dflt (first
  | ((refine Mine.end_new (by k_asm) (by k_asm) (by k_mem) (by kst_allIn) (by k_all) ?_); (refine Mine.outI ?_))
  | ((refine Mine.end_val (by k_asm) (by k_asm) (by kst_allIn) ?_))))
  k_with "WhlIf" => (first | (refine WhlIf.yes (by simp only [decide_eq_true_eq]; omega) ?_) | (refine WhlIf.no (by simp only [decide_eq_false_iff_not]; omega) ?_))
  k_with "exec While Compare cons nil" => (((with_reducible show wpAny _ _ (exec (PySem.Stmt.While (PySem.Expr.Compare (PySem.Expr.Name (PySem.Str.ofString "have") _) _ _ _) _ _ _) _) _ _ _); k_dflt (refine whl_start 100 ?_)))
  k_with "subscriptTail Name Slice ref ref" => (((with_reducible show wpAny _ _ (subscriptTail _ (PySem.Expr.Slice _ _ none _) (Value.ref _) (Value.ref _)) _ _ _); k_dflt (refine' kmk_slice_ints ?sF ?sN ?sl ?sp ?sq ?si ?sm ?sc ?_ ?ss ?st ?sz; (case sF => k_asm); (case sN => k_asm); (case sl => kmk_list); (case sp => kmk_part); (case sq => kmk_part); (case si => l_ints); (case sm => first | (with_reducible exact kmk_all (by assumption)) | (with_reducible exact kmk_upto (by assumption) (by first | assumption | walk_at "Om" | omega))); (case sc => exact rfl); (case ss => with_unfolding_all rfl); (case st => kmk_pure); (case sz => exact kmk_sz (by assumption) (by rw [sizeLine_eq]; omega)); intro D9 ws9 h9 F9 N9 l9 I9 C9 L9; (try k_lt l9); (try k_sweep))))
  k_with "BodyEndU" => (first
  | ((refine Mine.end_newU (by k_asm) (by k_asm) (by k_mem) (by k_mem) (by kst_allIn) (And.intro (by k_ne) (Mine.ne_allOf (by (simp only [Mine.AllNe, and_true]; (repeat' (refine And.intro ?_ ?_)) <;> first | assumption | k_ne)))) ?_))
  | ((refine Mine.end_valU (by k_asm) (by k_asm) (by k_mem) (by kst_allIn) ?_)))
  k_with "RunPost" => ((dsimp only [Mine.RunPost]))
  k_with "eval Call" => ((with_reducible show wpAny _ _ (eval (PySem.Expr.Call (PySem.Expr.Name _ _) (PySem.Expr.Name _ _ :: _) [] _) _) _ _ _); k_dflt (first | (refine' Mine.call_names ?zF ?zX ?zT ?ze ?zk ?za ?zz ?zx ?zd ?zh ?zp ?_; (case zx => exact rfl); (case zz => exact rfl); (case zF => k_asm); (case zX => k_asm); (case zT => k_asm); (case ze => k_is); (case zk => k_is); (case za => walk_at "EvAll"); (case zd => decide); (case zh => exact rfl); (case zp => exact rfl)) | (refine' Mine.call_namesB ?zF ?zX ?zT ?ze ?zv ?zn ?za ?zz ?zx ?zd ?zh ?zp ?_; (case zx => exact rfl); (case zz => exact rfl); (case zF => k_asm); (case zX => k_asm); (case zT => k_asm); (case ze => k_is); (case zv => boot_by_name); (case zn => decide); (case za => walk_at "EvAll"); (case zd => decide); (case zh => exact rfl); (case zp => exact rfl))))
  k_with "storeName" => (dsimp only; walk_at "storeName")
  first | (refine (id (α := let zA9 := _; let ze9 := _; let zg9 := _; let zd9 := _; let zo9 := _; wpAny _ zA9 (execs _ ze9) _ _ (Shared.mk _ zg9 zd9 _ zo9)) ?_); intro zA9 ze9 zg9 zd9 zo9) | skip
  k_with "execs cons" => ((rename Fr _ _ _ _ => lF); (refine (id (α := let zu9 := _; Fr _ _ _ zu9 → _) ?_) lF); clear lF; intro zu9 lF9; (try k_gentoks); refine wpAny_execs_cons ?_; (try dsimp only))
  k_steps
  all_goals assumption

set_option maxRecDepth 100000 in
set_option maxHeartbeats 8000000 in
theorem rbelow0_c {w : World} {p : Program} {loose : List Str} {mean : ExcName → Option Value} {mg mb : Str → Option Value} {dp un : Nat} {gd : Option (List Code)} {cn : Str} {cs : Scope} {a : Addr} {ccd : Value} {cl : List (Str × Addr)} {outer : List Env} {A₀ : Around} {base h₀ : Heap} {L : Addr} {m : Str → Option Value} {news : List (Addr × Obj)} {s : Shared} {Q E : Value → Shared → Prop}
    (B : Below A₀ base outer h₀) (F : Fr h₀ L s.heap m) (X : (Mine.hd.heap_39 w.params).In h₀) (N : News h₀ L s.heap news) (T : Top p loose mean mg mb h₀) (hk : cs.kind = .function) (hd : dp + 6 < recursionLimit) (hu : un + 60 < cLine)
    {v0 : Value} {bl : Addr} {ub : List Value} {cB : Nat} {k : Int} {tw : Tok} (hm : (bl, listOf ub.toArray cB) ∈ news) (hi : IntsAre ub [1]) (h2 : 2 ≤ k) (h8 : k ≤ 8) (hms : subZ k [1] [1] = [])
    (ret : ∀ r us c' h' tk', Fr h₀ L h' m → News h₀ L h' ((r, listOf us.toArray c') :: news) → (∀ q ∈ news, r ≠ q.1) → IntsAre us ([]) → Q (.ref r) { s with heap := h', toks := tk' }) :
    wpAny (model PySem.Challenge.rw_pq0542_01.row.prog w) (ktrTop dp un gd cn cs L a ccd cl outer) (call (.ref 200) [v0, Value.ref bl, Value.int k tw]) Q E s := by
  k_with_none
  k_with "Om" => (first | walk_at "MineRoom" | exact Int.natCast_nonneg _ | exact Mine.i_up (by with_reducible assumption) rfl | exact Mine.i_dn (by with_reducible assumption) rfl | exact Mine.i_lt (by with_reducible assumption) rfl | exact Mine.i_gt (by with_reducible assumption) rfl | exact Mine.n_up (by with_reducible assumption) rfl | exact Mine.n_eq (by with_reducible assumption) rfl | exact Mine.n_ge (by with_reducible assumption) rfl | exact Mine.sub0n)
  k_with "EvAll" => (first | exact Mine.EvAll.nil | exact Mine.evs_L (by k_asm) (by exact rfl) rfl rfl (by decide) (by walk_at "EvAll") | exact Mine.evs_C (by k_asm) (by exact rfl) (by k_mem) (by assumption) rfl rfl (by decide) (by walk_at "EvAll"))
  k_with "MineLt" => (first | ((repeat (first | exact Nat.lt_succ_self _ | refine Nat.lt_succ_of_lt ?_)); done) | ((repeat (refine Nat.lt_succ_of_lt ?_)); with_reducible assumption))
  k_with "MineLt2" => (refine Nat.lt_trans ?_ (by with_reducible assumption); walk_at "MineLt")
  k_with "MineRoom" => (k_whole; first | exact Mine.room1 (by with_reducible assumption) rfl | exact Mine.room2 (by with_reducible assumption) rfl | exact Mine.room3 (by with_reducible assumption) rfl | exact Mine.room4 (by with_reducible assumption) rfl | exact Mine.room5 (by with_reducible assumption) rfl | exact Mine.room0 (by with_reducible assumption))
  w_top off
  revert X; k_fill; intro X
  k_dflt (refine' call_r2 [(bl, listOf ub.toArray cB)] (OutI []) ?k1 ?k2 ?k3 ?k4 ?k5 ?ks ?kA ?kF ?kK ?k6 ?k7 ?k8 ?k9 ?kB ?kR (ps := [(Str.ofString "source", v0), (Str.ofString "bound", Value.ref bl), (Str.ofString "w", Value.int k tw)]) ?kP ?_ ?c2 ?c3 ?c4 ?c5; (case kA => exact rfl); (case kF => exact rfl); (case kK => assumption); (case k1 => k_asm); (case k2 => k_asm); (case k3 => k_asm); (case k4 => k_asm); (case k5 => k_asm); (case k6 => k_is); (case k7 => k_is); (case k8 => (show dp < recursionLimit; first | walk_at "MineRoom" | omega)); (case k9 => exact BindsTo.of_eq rfl); (case c5 => decide); (case kB => exact locs rfl); (case kP => kst_all); (case c2 => exact rfl); (case c3 => exact rfl); (case c4 => exact rfl))
  case ks => exact List.forall_mem_cons.mpr ⟨hm, List.forall_mem_nil _⟩
  case kR =>
    rintro v new h' tk' F' N' hne ⟨r, us, c', rfl, rfl, hI⟩
    exact ret r us c' h' tk' F' N' (fun q hq => hne _ (.head _) q hq) hI
  clear B F X N T ret
  clear hm
  intro g' L' h' u tk₁ F' N' B' X' T'
  (try dsimp only [kstB] at F')
  try dsimp only
  try k_fold
  have kMark := kstMark
  have hb0 : 0 < ([1] : List Int).length := (by decide)
  k_with "call ref" => ((with_reducible show wpAny _ _ (call (Value.ref 67) _) _ _ _); k_dflt (refine' Mine.sub_c ?uB ?uF ?uX ?uN ?uT ?uk ?ud ?uu ?p0 ?p1 ?p2 ?p3 ?p4 ?p5 ?p6 ?p7 ?p8 ?_; (case uB => k_asm); (case uF => k_asm); (case uX => k_asm); (case uN => k_asm); (case uT => k_asm); (case uk => exact rfl); (case ud => ((try dsimp only [ktrTop, Around.deeper, callerA]); first | walk_at "MineRoom" | omega | decide)); (case uu => ((try dsimp only [ktrTop, Around.deeper, callerA]); first | walk_at "MineRoom" | omega | decide)); (case p0 => k_mem); (case p1 => k_mem); (case p2 => first | assumption | l_ints); (case p3 => first | assumption | l_ints); (case p4 => decide); (case p5 => decide); (case p6 => first | assumption | walk_at "Om" | omega); (case p7 => first | assumption | walk_at "Om" | omega); (case p8 => decide); intro r9 us9 c9 h9 tk9 F9 N9 ne9 I9; (replace ne9 := Mine.allNe_of ne9; (try simp only [Mine.AllNe, and_true] at ne9); (repeat (have hn9 := ne9.1; replace ne9 := ne9.2))); rw [hms] at I9; (try k_sweep); (try dsimp only); (try k_fold)))
  k_with "call ref" => ((with_reducible show wpAny _ _ (call (Value.ref 88) _) _ _ _); k_dflt (refine' Mine.bits_c ?uB ?uF ?uX ?uN ?uT ?uk ?ud ?uu ?p0 ?p1 ?p2 ?p3 ?p4 ?_; (case uB => k_asm); (case uF => k_asm); (case uX => k_asm); (case uN => k_asm); (case uT => k_asm); (case uk => exact rfl); (case ud => ((try dsimp only [ktrTop, Around.deeper, callerA]); first | walk_at "MineRoom" | omega | decide)); (case uu => ((try dsimp only [ktrTop, Around.deeper, callerA]); first | walk_at "MineRoom" | omega | decide)); (case p0 => k_mem); (case p1 => l_ints); (case p2 => decide); (case p3 => first | assumption | walk_at "Om" | omega); (case p4 => first | assumption | walk_at "Om" | omega); intro t9 h9 tk9 F9 N9; rw [show bitsZ k [] = 0 from rfl]; (try k_sweep); (try dsimp only); (try k_fold)))
  k_with "call ref" => ((with_reducible show wpAny _ _ (call (Value.ref 53) _) _ _ _); k_dflt (refine' Mine.compare_c ?uB ?uF ?uX ?uN ?uT ?uk ?ud ?uu ?p0 ?p1 ?p2 ?p3 ?p4 ?p5 ?_; (case uB => k_asm); (case uF => k_asm); (case uX => k_asm); (case uN => k_asm); (case uT => k_asm); (case uk => exact rfl); (case ud => ((try dsimp only [ktrTop, Around.deeper, callerA]); first | walk_at "MineRoom" | omega | decide)); (case uu => ((try dsimp only [ktrTop, Around.deeper, callerA]); first | walk_at "MineRoom" | omega | decide)); (case p0 => k_mem); (case p1 => k_mem); (case p2 => assumption); (case p3 => assumption); (case p4 => decide); (case p5 => decide); intro t9 h9 tk9 F9 N9; rw [show cmpZ [] [1] = -1 from rfl]; (try k_sweep); (try dsimp only); (try k_fold)))
  k_with "call ref" => ((with_reducible show wpAny _ _ (call (Value.ref 193) _) _ _ _); k_dflt (refine' Mine.rbits0_c ?uB ?uF ?uX ?uN ?uT ?uk ?ud ?uu ?p0 ?p1 ?_; (case uB => k_asm); (case uF => k_asm); (case uX => k_asm); (case uN => k_asm); (case uT => k_asm); (case uk => exact rfl); (case ud => ((try dsimp only [ktrTop, Around.deeper, callerA]); first | walk_at "MineRoom" | omega | decide)); (case uu => ((try dsimp only [ktrTop, Around.deeper, callerA]); first | walk_at "MineRoom" | omega | decide)); (case p0 => first | assumption | walk_at "Om" | omega); (case p1 => first | assumption | walk_at "Om" | omega); intro r9 us9 c9 h9 tk9 F9 N9 ne9 I9; (replace ne9 := Mine.allNe_of ne9; (try simp only [Mine.AllNe, and_true] at ne9); (repeat (have hn9 := ne9.1; replace ne9 := ne9.2))); (try k_sweep); (try dsimp only); (try k_fold)))
  k_with "pyIter ref" => k_dflt ((with_reducible show wpAny _ _ (pyIter (Value.ref _)) (fun it s₂ => LoopAtV _ _ _ _ _ _ _ _ _ it s₂) _ _); (rename Fr _ _ _ _ => lF'); (rename News _ _ _ _ => lN'); (rename IsRange _ _ _ _ _ _ _ _ => rgX); (with_unfolding_all refine' loop_run (n := 80) (σ := Unit) (fun _ => _) (fun _ => []) [] (fun i _ => i = 0) () (by rfl) rgX (by decide) (by rfl) lF' lN' ?kk ?kp ?kt ?kd); (case kk => exact List.forall_mem_nil _); (case kp => rfl); (case' kt => (clear lF' lN'; intro c i7 t7 u7 h7 tk7 own7 hlt7 hoff7 hP7 F7 N7; have kMark := kstMark; try k_fold)); (case' kd => (intro c u7 h7 tk7 hP7; exact absurd hP7 (by decide))))
  k_with "BodyEnd" => (k_dflt (first
  | ((refine Mine.end_new (by k_asm) (by k_asm) (by k_mem) (by kst_allIn) (by k_all) ?_); (refine Mine.outI ?_))
  | ((refine Mine.end_val (by k_asm) (by k_asm) (by kst_allIn) ?_))))
  k_with "WhlIf" => (first | (refine WhlIf.yes (by simp only [decide_eq_true_eq]; omega) ?_) | (refine WhlIf.no (by simp only [decide_eq_false_iff_not]; omega) ?_))
  k_with "exec While Compare cons nil" => (((with_reducible show wpAny _ _ (exec (PySem.Stmt.While (PySem.Expr.Compare (PySem.Expr.Name (PySem.Str.ofString "have") _) _ _ _) _ _ _) _) _ _ _); k_dflt (refine whl_start 100 ?_)))
  k_with "subscriptTail Name Slice ref ref" => (((with_reducible show wpAny _ _ (subscriptTail _ (PySem.Expr.Slice _ _ none _) (Value.ref _) (Value.ref _)) _ _ _); k_dflt (refine' kmk_slice_ints ?sF ?sN ?sl ?sp ?sq ?si ?sm ?sc ?_ ?ss ?st ?sz; (case sF => k_asm); (case sN => k_asm); (case sl => kmk_list); (case sp => kmk_part); (case sq => kmk_part); (case si => l_ints); (case sm => first | (with_reducible exact kmk_all (by assumption)) | (with_reducible exact kmk_upto (by assumption) (by first | assumption | walk_at "Om" | omega))); (case sc => exact rfl); (case ss => with_unfolding_all rfl); (case st => kmk_pure); (case sz => exact kmk_sz (by assumption) (by rw [sizeLine_eq]; omega)); intro D9 ws9 h9 F9 N9 l9 I9 C9 L9; (try k_lt l9); (try k_sweep))))
  k_with "BodyEndU" => (first
  | ((refine Mine.end_newU (by k_asm) (by k_asm) (by k_mem) (by k_mem) (by kst_allIn) (And.intro (by k_ne) (Mine.ne_allOf (by (simp only [Mine.AllNe, and_true]; (repeat' (refine And.intro ?_ ?_)) <;> first | assumption | k_ne)))) ?_))
  | ((refine Mine.end_valU (by k_asm) (by k_asm) (by k_mem) (by kst_allIn) ?_)))
  k_with "RunPost" => ((dsimp only [Mine.RunPost]))
  k_with "eval Call" => ((with_reducible show wpAny _ _ (eval (PySem.Expr.Call (PySem.Expr.Name _ _) (PySem.Expr.Name _ _ :: _) [] _) _) _ _ _); k_dflt (first | (refine' Mine.call_names ?zF ?zX ?zT ?ze ?zk ?za ?zz ?zx ?zd ?zh ?zp ?_; (case zx => exact rfl); (case zz => exact rfl); (case zF => k_asm); (case zX => k_asm); (case zT => k_asm); (case ze => k_is); (case zk => k_is); (case za => walk_at "EvAll"); (case zd => decide); (case zh => exact rfl); (case zp => exact rfl)) | (refine' Mine.call_namesB ?zF ?zX ?zT ?ze ?zv ?zn ?za ?zz ?zx ?zd ?zh ?zp ?_; (case zx => exact rfl); (case zz => exact rfl); (case zF => k_asm); (case zX => k_asm); (case zT => k_asm); (case ze => k_is); (case zv => boot_by_name); (case zn => decide); (case za => walk_at "EvAll"); (case zd => decide); (case zh => exact rfl); (case zp => exact rfl))))
  k_with "storeName" => (dsimp only; walk_at "storeName")
  first | (refine (id (α := let zA9 := _; let ze9 := _; let zg9 := _; let zd9 := _; let zo9 := _; wpAny _ zA9 (execs _ ze9) _ _ (Shared.mk _ zg9 zd9 _ zo9)) ?_); intro zA9 ze9 zg9 zd9 zo9) | skip
  k_with "execs cons" => ((rename Fr _ _ _ _ => lF); (refine (id (α := let zu9 := _; Fr _ _ _ zu9 → _) ?_) lF); clear lF; intro zu9 lF9; (try k_gentoks); refine wpAny_execs_cons ?_; (try dsimp only))
  k_steps
  all_goals assumption

end Mine
end

section
open PySem PySem.W PySem.Spec PySem.Calls PyProof.Rows

namespace Mine
set_option maxRecDepth 100000 in
set_option maxHeartbeats 8000000 in
theorem snum_c {w : World} {p : Program} {loose : List Str} {mean : ExcName → Option Value} {mg mb : Str → Option Value} {dp un : Nat} {gd : Option (List Code)} {cn : Str} {cs : Scope} {a : Addr} {ccd : Value} {cl : List (Str × Addr)} {outer : List Env} {A₀ : Around} {base h₀ : Heap} {L : Addr} {m : Str → Option Value} {news : List (Addr × Obj)} {s : Shared} {Q E : Value → Shared → Prop}
    (B : Below A₀ base outer h₀) (F : Fr h₀ L s.heap m) (X : (Mine.hd.heap_39 w.params).In h₀) (N : News h₀ L s.heap news) (T : Top p loose mean mg mb h₀) (hk : cs.kind = .function) (hd : dp + 1 < recursionLimit) (hu : un + 8 < cLine)
    {k n : Int} {tw tn : Tok} (h2 : 2 ≤ k) (h8 : k ≤ 8) (n0 : 0 ≤ n) (n9 : n ≤ 100)
    (ret : ∀ r us c' h' tk', Fr h₀ L h' m → News h₀ L h' ((r, listOf us.toArray c') :: news) → (∀ q ∈ news, r ≠ q.1) → IntsAre us (limbsZ k n) → Q (.ref r) { s with heap := h', toks := tk' }) :
    wpAny (model PySem.Challenge.rw_pq0542_01.row.prog w) (ktrTop dp un gd cn cs L a ccd cl outer) (call (.ref 214) [Value.int n tn, Value.int k tw]) Q E s := by
  k_with_none
  k_with "Om" => (first | walk_at "MineRoom" | exact Int.natCast_nonneg _ | exact Mine.i_up (by with_reducible assumption) rfl | exact Mine.i_dn (by with_reducible assumption) rfl | exact Mine.i_lt (by with_reducible assumption) rfl | exact Mine.i_gt (by with_reducible assumption) rfl | exact Mine.n_up (by with_reducible assumption) rfl | exact Mine.n_eq (by with_reducible assumption) rfl | exact Mine.n_ge (by with_reducible assumption) rfl | exact Mine.sub0n)
  k_with "EvAll" => (first | exact Mine.EvAll.nil | exact Mine.evs_L (by k_asm) (by exact rfl) rfl rfl (by decide) (by walk_at "EvAll") | exact Mine.evs_C (by k_asm) (by exact rfl) (by k_mem) (by assumption) rfl rfl (by decide) (by walk_at "EvAll"))
  k_with "MineLt" => (first | ((repeat (first | exact Nat.lt_succ_self _ | refine Nat.lt_succ_of_lt ?_)); done) | ((repeat (refine Nat.lt_succ_of_lt ?_)); with_reducible assumption))
  k_with "MineLt2" => (refine Nat.lt_trans ?_ (by with_reducible assumption); walk_at "MineLt")
  k_with "MineRoom" => (k_whole; first | exact Mine.room1 (by with_reducible assumption) rfl | exact Mine.room2 (by with_reducible assumption) rfl | exact Mine.room3 (by with_reducible assumption) rfl | exact Mine.room4 (by with_reducible assumption) rfl | exact Mine.room5 (by with_reducible assumption) rfl | exact Mine.room0 (by with_reducible assumption))
  w_top off
  revert X; k_fill; intro X
  k_dflt (refine' call_r2 [] (OutI (limbsZ k n)) ?k1 ?k2 ?k3 ?k4 ?k5 ?ks ?kA ?kF ?kK ?k6 ?k7 ?k8 ?k9 ?kB ?kR (ps := [(Str.ofString "n", Value.int n tn), (Str.ofString "w", Value.int k tw)]) ?kP ?_ ?c2 ?c3 ?c4 ?c5; (case kA => exact rfl); (case kF => exact rfl); (case kK => assumption); (case k1 => k_asm); (case k2 => k_asm); (case k3 => k_asm); (case k4 => k_asm); (case k5 => k_asm); (case k6 => k_is); (case k7 => k_is); (case k8 => (show dp < recursionLimit; first | walk_at "MineRoom" | omega)); (case k9 => exact BindsTo.of_eq rfl); (case c5 => decide); (case kB => exact locs rfl); (case kP => kst_all); (case c2 => exact rfl); (case c3 => exact rfl); (case c4 => exact rfl))
  case ks => exact List.forall_mem_nil _
  case kR =>
    rintro v new h' tk' F' N' hne ⟨r, us, c', rfl, rfl, hI⟩
    exact ret r us c' h' tk' F' N' (fun q hq => hne _ (.head _) q hq) hI
  clear B F X N T ret
  intro g' L' h' u tk₁ F' N' B' X' T'
  (try dsimp only [kstB] at F')
  try dsimp only
  try k_fold
  have i0 : IntsAre [] [] := IntsAre.nil
  k_with "exec While Compare cons nil" => k_while_given ["w", "n!"] (fun w n₀ script n f => (f.length : Int) + n ≤ 100 ∧ 0 ≤ n ∧ LimInv w n₀ n f) (fun w n₀ script n f => n.toNat) "n" "found"
  k_with "state" => first | exact LimInv.start3 (by assumption) (by assumption) | (simp only [Int.one_mul]; exact LimInv.turn3 (by assumption) (by assumption) (by assumption))
  k_with "measure" => exact lim_less (by assumption) (by assumption)
  k_with "BodyEnd" => (k_dflt (first
  | ((refine Mine.end_new (by k_asm) (by k_asm) (by k_mem) (by kst_allIn) (by k_all) ?_); (refine Mine.outI ?_))
  | ((refine Mine.end_val (by k_asm) (by k_asm) (by kst_allIn) ?_))))
  k_with "subscriptTail Name Slice ref ref" => (((with_reducible show wpAny _ _ (subscriptTail _ (PySem.Expr.Slice _ _ none _) (Value.ref _) (Value.ref _)) _ _ _); k_dflt (refine' kmk_slice_ints ?sF ?sN ?sl ?sp ?sq ?si ?sm ?sc ?_ ?ss ?st ?sz; (case sF => k_asm); (case sN => k_asm); (case sl => kmk_list); (case sp => kmk_part); (case sq => kmk_part); (case si => l_ints); (case sm => first | (with_reducible exact kmk_all (by assumption)) | (with_reducible exact kmk_upto (by assumption) (by first | assumption | walk_at "Om" | omega))); (case sc => exact rfl); (case ss => with_unfolding_all rfl); (case st => kmk_pure); (case sz => exact kmk_sz (by assumption) (by rw [sizeLine_eq]; omega)); intro D9 ws9 h9 F9 N9 l9 I9 C9 L9; (try k_lt l9); (try k_sweep))))
  k_with "BodyEndU" => (first
  | ((refine Mine.end_newU (by k_asm) (by k_asm) (by k_mem) (by k_mem) (by kst_allIn) (And.intro (by k_ne) (Mine.ne_allOf (by (simp only [Mine.AllNe, and_true]; (repeat' (refine And.intro ?_ ?_)) <;> first | assumption | k_ne)))) ?_))
  | ((refine Mine.end_valU (by k_asm) (by k_asm) (by k_mem) (by kst_allIn) ?_)))
  k_with "eval Call" => ((with_reducible show wpAny _ _ (eval (PySem.Expr.Call (PySem.Expr.Name _ _) (PySem.Expr.Name _ _ :: _) [] _) _) _ _ _); k_dflt (first | (refine' Mine.call_names ?zF ?zX ?zT ?ze ?zk ?za ?zz ?zx ?zd ?zh ?zp ?_; (case zx => exact rfl); (case zz => exact rfl); (case zF => k_asm); (case zX => k_asm); (case zT => k_asm); (case ze => k_is); (case zk => k_is); (case za => walk_at "EvAll"); (case zd => decide); (case zh => exact rfl); (case zp => exact rfl)) | (refine' Mine.call_namesB ?zF ?zX ?zT ?ze ?zv ?zn ?za ?zz ?zx ?zd ?zh ?zp ?_; (case zx => exact rfl); (case zz => exact rfl); (case zF => k_asm); (case zX => k_asm); (case zT => k_asm); (case ze => k_is); (case zv => boot_by_name); (case zn => decide); (case za => walk_at "EvAll"); (case zd => decide); (case zh => exact rfl); (case zp => exact rfl))))
  k_with "storeName" => (dsimp only; walk_at "storeName")
  first | (refine (id (α := let zA9 := _; let ze9 := _; let zg9 := _; let zd9 := _; let zo9 := _; wpAny _ zA9 (execs _ ze9) _ _ (Shared.mk _ zg9 zd9 _ zo9)) ?_); intro zA9 ze9 zg9 zd9 zo9) | skip
  k_steps
  all_goals (rw [← LimInv.fin (by assumption) (by assumption)]; assumption)

end Mine
end

section
open PySem PySem.W PySem.Spec PySem.Calls PyProof.Rows

namespace Mine
set_option maxRecDepth 100000 in
set_option maxHeartbeats 8000000 in
theorem sbelow1_c {w : World} {p : Program} {loose : List Str} {mean : ExcName → Option Value} {mg mb : Str → Option Value} {dp un : Nat} {gd : Option (List Code)} {cn : Str} {cs : Scope} {a : Addr} {ccd : Value} {cl : List (Str × Addr)} {outer : List Env} {A₀ : Around} {base h₀ : Heap} {L : Addr} {m : Str → Option Value} {news : List (Addr × Obj)} {s : Shared} {Q E : Value → Shared → Prop}
    (B : Below A₀ base outer h₀) (F : Fr h₀ L s.heap m) (X : (Mine.hd.heap_39 w.params).In h₀) (N : News h₀ L s.heap news) (T : Top p loose mean mg mb h₀) (hk : cs.kind = .function) (hd : dp + 8 < recursionLimit) (hu : un + 100 < cLine)
    {v0 : Value} {k : Int} {tw tn : Tok} (h2 : 2 ≤ k) (h8 : k ≤ 8)
    (ret : ∀ t h' tk', Fr h₀ L h' m → News h₀ L h' news → Q (.int (0) t) { s with heap := h', toks := tk' }) :
    wpAny (model PySem.Challenge.rw_pq0542_01.row.prog w) (ktrTop dp un gd cn cs L a ccd cl outer) (call (.ref 207) [v0, Value.int 1 tn, Value.int k tw]) Q E s := by
  k_with_none
  k_with "Om" => (first | walk_at "MineRoom" | exact Int.natCast_nonneg _ | exact Mine.i_up (by with_reducible assumption) rfl | exact Mine.i_dn (by with_reducible assumption) rfl | exact Mine.i_lt (by with_reducible assumption) rfl | exact Mine.i_gt (by with_reducible assumption) rfl | exact Mine.n_up (by with_reducible assumption) rfl | exact Mine.n_eq (by with_reducible assumption) rfl | exact Mine.n_ge (by with_reducible assumption) rfl | exact Mine.sub0n)
  k_with "EvAll" => (first | exact Mine.EvAll.nil | exact Mine.evs_L (by k_asm) (by exact rfl) rfl rfl (by decide) (by walk_at "EvAll") | exact Mine.evs_C (by k_asm) (by exact rfl) (by k_mem) (by assumption) rfl rfl (by decide) (by walk_at "EvAll"))
  k_with "MineLt" => (first | ((repeat (first | exact Nat.lt_succ_self _ | refine Nat.lt_succ_of_lt ?_)); done) | ((repeat (refine Nat.lt_succ_of_lt ?_)); with_reducible assumption))
  k_with "MineLt2" => (refine Nat.lt_trans ?_ (by with_reducible assumption); walk_at "MineLt")
  k_with "MineRoom" => (k_whole; first | exact Mine.room1 (by with_reducible assumption) rfl | exact Mine.room2 (by with_reducible assumption) rfl | exact Mine.room3 (by with_reducible assumption) rfl | exact Mine.room4 (by with_reducible assumption) rfl | exact Mine.room5 (by with_reducible assumption) rfl | exact Mine.room0 (by with_reducible assumption))
  w_top off
  revert X; k_fill; intro X
  k_dflt (refine' call_r2 [] (OutN 0) ?k1 ?k2 ?k3 ?k4 ?k5 ?ks ?kA ?kF ?kK ?k6 ?k7 ?k8 ?k9 ?kB ?kR (ps := [(Str.ofString "source", v0), (Str.ofString "n", Value.int 1 tn), (Str.ofString "w", Value.int k tw)]) ?kP ?_ ?c2 ?c3 ?c4 ?c5; (case kA => exact rfl); (case kF => exact rfl); (case kK => assumption); (case k1 => k_asm); (case k2 => k_asm); (case k3 => k_asm); (case k4 => k_asm); (case k5 => k_asm); (case k6 => k_is); (case k7 => k_is); (case k8 => (show dp < recursionLimit; first | walk_at "MineRoom" | omega)); (case k9 => exact BindsTo.of_eq rfl); (case c5 => decide); (case kB => exact locs rfl); (case kP => kst_all); (case c2 => exact rfl); (case c3 => exact rfl); (case c4 => exact rfl))
  case ks => exact List.forall_mem_nil _
  case kR =>
    rintro v new h' tk' F' N' hne ⟨rfl, t, rfl⟩
    exact ret t h' tk' F' N'
  clear B F X N T ret
  intro g' L' h' u tk₁ F' N' B' X' T'
  (try dsimp only [kstB] at F')
  try dsimp only
  try k_fold
  have kMark := kstMark
  k_with "call ref" => ((with_reducible show wpAny _ _ (call (Value.ref 214) _) _ _ _); k_dflt (refine' Mine.snum_c ?uB ?uF ?uX ?uN ?uT ?uk ?ud ?uu ?p0 ?p1 ?p2 ?p3 ?_; (case uB => k_asm); (case uF => k_asm); (case uX => k_asm); (case uN => k_asm); (case uT => k_asm); (case uk => exact rfl); (case ud => ((try dsimp only [ktrTop, Around.deeper, callerA]); first | walk_at "MineRoom" | omega | decide)); (case uu => ((try dsimp only [ktrTop, Around.deeper, callerA]); first | walk_at "MineRoom" | omega | decide)); (case p0 => first | assumption | walk_at "Om" | omega); (case p1 => first | assumption | walk_at "Om" | omega); (case p2 => first | omega | decide); (case p3 => first | omega | decide); intro r9 us9 c9 h9 tk9 F9 N9 ne9 I9; (replace ne9 := Mine.allNe_of ne9; (try simp only [Mine.AllNe, and_true] at ne9); (repeat (have hn9 := ne9.1; replace ne9 := ne9.2))); rw [limbs_one h2] at I9; (try k_sweep); (try dsimp only); (try k_fold)))
  k_with "call ref" => ((with_reducible show wpAny _ _ (call (Value.ref 200) _) _ _ _); k_dflt (refine' Mine.rbelow0_c ?uB ?uF ?uX ?uN ?uT ?uk ?ud ?uu ?p0 ?p1 ?p2 ?p3 ?p4 ?_; (case uB => k_asm); (case uF => k_asm); (case uX => k_asm); (case uN => k_asm); (case uT => k_asm); (case uk => exact rfl); (case ud => ((try dsimp only [ktrTop, Around.deeper, callerA]); first | walk_at "MineRoom" | omega | decide)); (case uu => ((try dsimp only [ktrTop, Around.deeper, callerA]); first | walk_at "MineRoom" | omega | decide)); (case p0 => k_mem); (case p1 => assumption); (case p2 => first | assumption | walk_at "Om" | omega); (case p3 => first | assumption | walk_at "Om" | omega); (case p4 => exact (by rw [← limbs_one h2]; rw [subZ_limbs h2 (by decide) (by decide) (by decide)]; exact limbs_zero (by decide))); intro r9 us9 c9 h9 tk9 F9 N9 ne9 I9; (replace ne9 := Mine.allNe_of ne9; (try simp only [Mine.AllNe, and_true] at ne9); (repeat (have hn9 := ne9.1; replace ne9 := ne9.2))); have e9 := IntsAre.nil_inv I9; subst e9; (try k_sweep); (try dsimp only); (try k_fold)))
  k_with "BodyEnd" => (k_dflt (first
  | ((refine Mine.end_new (by k_asm) (by k_asm) (by k_mem) (by kst_allIn) (by k_all) ?_); (refine Mine.outI ?_))
  | ((refine Mine.end_val (by k_asm) (by k_asm) (by kst_allIn) ?_))))
  k_with "subscriptTail Name Slice ref ref" => (((with_reducible show wpAny _ _ (subscriptTail _ (PySem.Expr.Slice _ _ none _) (Value.ref _) (Value.ref _)) _ _ _); k_dflt (refine' kmk_slice_ints ?sF ?sN ?sl ?sp ?sq ?si ?sm ?sc ?_ ?ss ?st ?sz; (case sF => k_asm); (case sN => k_asm); (case sl => kmk_list); (case sp => kmk_part); (case sq => kmk_part); (case si => l_ints); (case sm => first | (with_reducible exact kmk_all (by assumption)) | (with_reducible exact kmk_upto (by assumption) (by first | assumption | walk_at "Om" | omega))); (case sc => exact rfl); (case ss => with_unfolding_all rfl); (case st => kmk_pure); (case sz => exact kmk_sz (by assumption) (by rw [sizeLine_eq]; omega)); intro D9 ws9 h9 F9 N9 l9 I9 C9 L9; (try k_lt l9); (try k_sweep))))
  k_with "BodyEndU" => (first
  | ((refine Mine.end_newU (by k_asm) (by k_asm) (by k_mem) (by k_mem) (by kst_allIn) (And.intro (by k_ne) (Mine.ne_allOf (by (simp only [Mine.AllNe, and_true]; (repeat' (refine And.intro ?_ ?_)) <;> first | assumption | k_ne)))) ?_))
  | ((refine Mine.end_valU (by k_asm) (by k_asm) (by k_mem) (by kst_allIn) ?_)))
  k_with "eval Call" => ((with_reducible show wpAny _ _ (eval (PySem.Expr.Call (PySem.Expr.Name _ _) (PySem.Expr.Name _ _ :: _) [] _) _) _ _ _); k_dflt (first | (refine' Mine.call_names ?zF ?zX ?zT ?ze ?zk ?za ?zz ?zx ?zd ?zh ?zp ?_; (case zx => exact rfl); (case zz => exact rfl); (case zF => k_asm); (case zX => k_asm); (case zT => k_asm); (case ze => k_is); (case zk => k_is); (case za => walk_at "EvAll"); (case zd => decide); (case zh => exact rfl); (case zp => exact rfl)) | (refine' Mine.call_namesB ?zF ?zX ?zT ?ze ?zv ?zn ?za ?zz ?zx ?zd ?zh ?zp ?_; (case zx => exact rfl); (case zz => exact rfl); (case zF => k_asm); (case zX => k_asm); (case zT => k_asm); (case ze => k_is); (case zv => boot_by_name); (case zn => decide); (case za => walk_at "EvAll"); (case zd => decide); (case zh => exact rfl); (case zp => exact rfl))))
  k_with "storeName" => (dsimp only; walk_at "storeName")
  first | (refine (id (α := let zA9 := _; let ze9 := _; let zg9 := _; let zd9 := _; let zo9 := _; wpAny _ zA9 (execs _ ze9) _ _ (Shared.mk _ zg9 zd9 _ zo9)) ?_); intro zA9 ze9 zg9 zd9 zo9) | skip
  k_with "execs cons" => ((rename Fr _ _ _ _ => lF); (refine (id (α := let zu9 := _; Fr _ _ _ zu9 → _) ?_) lF); clear lF; intro zu9 lF9; (try k_gentoks); refine wpAny_execs_cons ?_; (try dsimp only))
  k_steps
  all_goals exact outN

end Mine
end

section
open PySem PySem.W PySem.Spec PySem.Calls PyProof.Rows

namespace Mine

set_option maxRecDepth 100000 in
set_option maxHeartbeats 8000000 in
theorem shr_c {w : World} {p : Program} {loose : List Str} {mean : ExcName → Option Value} {mg mb : Str → Option Value} {dp un : Nat} {gd : Option (List Code)} {cn : Str} {cs : Scope} {a : Addr} {ccd : Value} {cl : List (Str × Addr)} {outer : List Env} {A₀ : Around} {base h₀ : Heap} {L : Addr} {m : Str → Option Value} {news : List (Addr × Obj)} {s : Shared} {Q E : Value → Shared → Prop}
    (B : Below A₀ base outer h₀) (F : Fr h₀ L s.heap m) (X : (Mine.hd.heap_39 w.params).In h₀) (N : News h₀ L s.heap news) (T : Top p loose mean mg mb h₀) (hk : cs.kind = .function) (hd : dp + 2 < recursionLimit) (hu : un + 20 < cLine)
    {x : Addr} {vs : List Value} {xs : List Int} {c : Nat} {k n : Int} {tw tn : Tok} (hm : (x, listOf vs.toArray c) ∈ news) (hi : IntsAre vs xs) (hb : xs.length ≤ 100) (h2 : 2 ≤ k) (h8 : k ≤ 8) (n0 : 0 ≤ n) (n9 : n ≤ 60) (gx : ∀ z ∈ xs, 0 ≤ z ∧ z < 256)
    (ret : ∀ r us c' h' tk', Fr h₀ L h' m → News h₀ L h' ((r, listOf us.toArray c') :: news) → (∀ q ∈ news, r ≠ q.1) → IntsAre us (shrZ k n xs) → Q (.ref r) { s with heap := h', toks := tk' }) :
    wpAny (model PySem.Challenge.rw_pq0542_01.row.prog w) (ktrTop dp un gd cn cs L a ccd cl outer) (call (.ref 81) [Value.ref x, Value.int n tn, Value.int k tw]) Q E s := by
  k_with_none
  k_with "Om" => (first | walk_at "MineRoom" | exact Int.natCast_nonneg _ | exact Mine.i_up (by with_reducible assumption) rfl | exact Mine.i_dn (by with_reducible assumption) rfl | exact Mine.i_lt (by with_reducible assumption) rfl | exact Mine.i_gt (by with_reducible assumption) rfl | exact Mine.n_up (by with_reducible assumption) rfl | exact Mine.n_eq (by with_reducible assumption) rfl | exact Mine.n_ge (by with_reducible assumption) rfl | exact Mine.sub0n)
  k_with "EvAll" => (first | exact Mine.EvAll.nil | exact Mine.evs_L (by k_asm) (by exact rfl) rfl rfl (by decide) (by walk_at "EvAll") | exact Mine.evs_C (by k_asm) (by exact rfl) (by k_mem) (by assumption) rfl rfl (by decide) (by walk_at "EvAll"))
  k_with "MineLt" => (first | ((repeat (first | exact Nat.lt_succ_self _ | refine Nat.lt_succ_of_lt ?_)); done) | ((repeat (refine Nat.lt_succ_of_lt ?_)); with_reducible assumption))
  k_with "MineLt2" => (refine Nat.lt_trans ?_ (by with_reducible assumption); walk_at "MineLt")
  k_with "MineRoom" => (k_whole; first | exact Mine.room1 (by with_reducible assumption) rfl | exact Mine.room2 (by with_reducible assumption) rfl | exact Mine.room3 (by with_reducible assumption) rfl | exact Mine.room4 (by with_reducible assumption) rfl | exact Mine.room5 (by with_reducible assumption) rfl | exact Mine.room0 (by with_reducible assumption))
  w_top off
  revert X; k_fill; intro X
  k_dflt (refine' call_r2 [(x, listOf vs.toArray c)] (OutI (shrZ k n xs)) ?k1 ?k2 ?k3 ?k4 ?k5 ?ks ?kA ?kF ?kK ?k6 ?k7 ?k8 ?k9 ?kB ?kR (ps := [(Str.ofString "a", Value.ref x), (Str.ofString "n", Value.int n tn), (Str.ofString "w", Value.int k tw)]) ?kP ?_ ?c2 ?c3 ?c4 ?c5; (case kA => exact rfl); (case kF => exact rfl); (case kK => assumption); (case k1 => k_asm); (case k2 => k_asm); (case k3 => k_asm); (case k4 => k_asm); (case k5 => k_asm); (case k6 => k_is); (case k7 => k_is); (case k8 => (show dp < recursionLimit; first | walk_at "MineRoom" | omega)); (case k9 => exact BindsTo.of_eq rfl); (case c5 => decide); (case kB => exact locs rfl); (case kP => kst_all); (case c2 => exact rfl); (case c3 => exact rfl); (case c4 => exact rfl))
  case ks => exact List.forall_mem_cons.mpr ⟨hm, List.forall_mem_nil _⟩
  case kR =>
    rintro v new h' tk' F' N' hne ⟨r, us, c', rfl, rfl, hI⟩
    exact ret r us c' h' tk' F' N' (fun q hq => hne _ (.head _) q hq) hI
  clear B F X N T ret
  clear hm
  intro g' L' h' u tk₁ F' N' B' X' T'
  (try dsimp only [kstB] at F')
  try dsimp only
  try k_fold
  have q0 : 0 ≤ n.fdiv k := fdiv_ge n0 (by omega)
  have q9 : n.fdiv k ≤ n := fdiv_le n0 (by omega)
  have r0 : 0 ≤ n.fmod k := fmod_ge n0 (by omega)
  have r9 : n.fmod k < k := fmod_lt n (by omega)
  k_with "pyIter ref" => k_state (fun pre found => found.length = pre.length ∧ found.length ≤ xs.length ∧ ShrInv k n xs found) "found"
  k_with "state" => first | exact ⟨rfl, Nat.zero_le _, ShrInv.start⟩ | with_reducible exact shr_turn1 (by assumption) q0 (by assumption) (by assumption) (by assumption) (by assumption) | with_reducible exact shr_turn2 (by assumption) q0 (by assumption) (by assumption) (by assumption) (by assumption)
  k_with "BodyEnd" => (k_dflt (first
  | ((refine Mine.end_new (by k_asm) (by k_asm) (by k_mem) (by kst_allIn) (by k_all) ?_); (refine Mine.outI ?_))
  | ((refine Mine.end_val (by k_asm) (by k_asm) (by kst_allIn) ?_))))
  k_with "binaryOp LShift int int" => ((with_reducible refine lshift_int_small (by omega) (by omega) (by first | decide | exact Mine.small_of2 (by assumption) (by omega)) ?_))
  k_with "call ref" => (((with_reducible show wpAny _ _ (call (Value.ref 46) _) _ _ _); k_dflt (refine' Mine.normal_c ?uB ?uF ?uX ?uN ?uT ?uk ?ud ?uu ?p0 ?p1 ?p2 ?_; (case uB => k_asm); (case uF => k_asm); (case uX => k_asm); (case uN => k_asm); (case uT => k_asm); (case uk => exact rfl); (case ud => ((try dsimp only [ktrTop, Around.deeper, callerA]); first | walk_at "MineRoom" | omega | decide)); (case uu => ((try dsimp only [ktrTop, Around.deeper, callerA]); first | walk_at "MineRoom" | omega | decide)); (case p0 => k_mem); (case p1 => l_ints); (case p2 => first | assumption | ((try simp only [List.length_append, List.length_cons, List.length_nil, List.length_take]); omega)); intro r9 us9 c9 h9 tk9 F9 N9 ne9 I9; (replace ne9 := Mine.allNe_of ne9; (try simp only [Mine.AllNe, and_true] at ne9); (repeat (have hn9 := ne9.1; replace ne9 := ne9.2))); (try k_sweep); (try dsimp only); (try k_fold))))
  k_with "subscriptTail Name Slice ref ref" => (((with_reducible show wpAny _ _ (subscriptTail _ (PySem.Expr.Slice _ _ none _) (Value.ref _) (Value.ref _)) _ _ _); k_dflt (refine' kmk_slice_ints ?sF ?sN ?sl ?sp ?sq ?si ?sm ?sc ?_ ?ss ?st ?sz; (case sF => k_asm); (case sN => k_asm); (case sl => kmk_list); (case sp => kmk_part); (case sq => kmk_part); (case si => l_ints); (case sm => first | (with_reducible exact kmk_all (by assumption)) | (with_reducible exact kmk_upto (by assumption) (by first | assumption | walk_at "Om" | omega))); (case sc => exact rfl); (case ss => with_unfolding_all rfl); (case st => kmk_pure); (case sz => exact kmk_sz (by assumption) (by rw [sizeLine_eq]; omega)); intro D9 ws9 h9 F9 N9 l9 I9 C9 L9; (try k_lt l9); (try k_sweep))))
  k_with "BodyEndU" => (first
  | ((refine Mine.end_newU (by k_asm) (by k_asm) (by k_mem) (by k_mem) (by kst_allIn) (And.intro (by k_ne) (Mine.ne_allOf (by (simp only [Mine.AllNe, and_true]; (repeat' (refine And.intro ?_ ?_)) <;> first | assumption | k_ne)))) ?_))
  | ((refine Mine.end_valU (by k_asm) (by k_asm) (by k_mem) (by kst_allIn) ?_)))
  k_with "eval Call" => ((with_reducible show wpAny _ _ (eval (PySem.Expr.Call (PySem.Expr.Name _ _) (PySem.Expr.Name _ _ :: _) [] _) _) _ _ _); k_dflt (first | (refine' Mine.call_names ?zF ?zX ?zT ?ze ?zk ?za ?zz ?zx ?zd ?zh ?zp ?_; (case zx => exact rfl); (case zz => exact rfl); (case zF => k_asm); (case zX => k_asm); (case zT => k_asm); (case ze => k_is); (case zk => k_is); (case za => walk_at "EvAll"); (case zd => decide); (case zh => exact rfl); (case zp => exact rfl)) | (refine' Mine.call_namesB ?zF ?zX ?zT ?ze ?zv ?zn ?za ?zz ?zx ?zd ?zh ?zp ?_; (case zx => exact rfl); (case zz => exact rfl); (case zF => k_asm); (case zX => k_asm); (case zT => k_asm); (case ze => k_is); (case zv => boot_by_name); (case zn => decide); (case za => walk_at "EvAll"); (case zd => decide); (case zh => exact rfl); (case zp => exact rfl))))
  k_with "storeName" => (dsimp only; walk_at "storeName")
  first | (refine (id (α := let zA9 := _; let ze9 := _; let zg9 := _; let zd9 := _; let zo9 := _; wpAny _ zA9 (execs _ ze9) _ _ (Shared.mk _ zg9 zd9 _ zo9)) ?_); intro zA9 ze9 zg9 zd9 zo9) | skip
  k_steps
  all_goals (rw [← shr_end q0 (by assumption) (by assumption)]; assumption)

end Mine
end

section
open PySem PySem.W PySem.Spec PySem.Calls PyProof.Rows

namespace Mine
set_option maxRecDepth 100000 in
set_option maxHeartbeats 8000000 in
theorem rbits2_c {w : World} {p : Program} {loose : List Str} {mean : ExcName → Option Value} {mg mb : Str → Option Value} {dp un : Nat} {gd : Option (List Code)} {cn : Str} {cs : Scope} {a : Addr} {ccd : Value} {cl : List (Str × Addr)} {outer : List Env} {A₀ : Around} {base h₀ : Heap} {L : Addr} {m : Str → Option Value} {news : List (Addr × Obj)} {s : Shared} {Q E : Value → Shared → Prop}
    (B : Below A₀ base outer h₀) (F : Fr h₀ L s.heap m) (X : (Mine.hd.heap_39 w.params).In h₀) (N : News h₀ L s.heap news) (T : Top p loose mean mg mb h₀) (hk : cs.kind = .function) (hd : dp + 4 < recursionLimit) (hu : un + 40 < cLine)
    {src dx nl ai : Addr} {vs : List Value} {cN cA : Nat} {k at0 : Int} {tw tn tq ta t1 t2 t3 : Tok} {gl : Obj → List (Addr × Obj)} (U : UpdF dx (dictOf [⟨PyData.keyHash w.params "numbers", .str "numbers" t1, .ref nl⟩, ⟨PyData.keyHash w.params "many", .str "many" t2, .int 1 tq⟩, ⟨PyData.keyHash w.params "at", .str "at" t3, .int at0 ta⟩] 3) news gl) (hm : (src, instObj 182 dx) ∈ news) (hm2 : (nl, listOf [Value.ref ai].toArray cN) ∈ news) (hm3 : (ai, listOf vs.toArray cA) ∈ news) (o1 : src ≠ dx) (o2 : nl ≠ dx) (o3 : ai ≠ dx) (hi : IntsAre vs [1]) (h2 : 2 ≤ k) (h8 : k ≤ 8) (a0 : 0 ≤ at0) (a9 : at0 ≤ 900)
    (ret : ∀ r us c' tb h' tk', Fr h₀ L h' m → News h₀ L h' ((r, listOf us.toArray c') :: gl (dictOf [⟨PyData.keyHash w.params "numbers", .str "numbers" t1, .ref nl⟩, ⟨PyData.keyHash w.params "many", .str "many" t2, .int 1 tq⟩, ⟨PyData.keyHash w.params "at", .str "at" t3, .int (at0 + 1 + 1) tb⟩] 3)) → (∀ q ∈ gl (dictOf [⟨PyData.keyHash w.params "numbers", .str "numbers" t1, .ref nl⟩, ⟨PyData.keyHash w.params "many", .str "many" t2, .int 1 tq⟩, ⟨PyData.keyHash w.params "at", .str "at" t3, .int (at0 + 1 + 1) tb⟩] 3), r ≠ q.1) → IntsAre us [3] → Q (.ref r) { s with heap := h', toks := tk' }) :
    wpAny (model PySem.Challenge.rw_pq0542_01.row.prog w) (ktrTop dp un gd cn cs L a ccd cl outer) (call (.ref 193) [Value.ref src, Value.int 2 tn, Value.int k tw]) Q E s := by
  k_with_none
  k_with "Om" => (first | walk_at "MineRoom" | exact Int.natCast_nonneg _ | exact Mine.i_up (by with_reducible assumption) rfl | exact Mine.i_dn (by with_reducible assumption) rfl | exact Mine.i_lt (by with_reducible assumption) rfl | exact Mine.i_gt (by with_reducible assumption) rfl | exact Mine.n_up (by with_reducible assumption) rfl | exact Mine.n_eq (by with_reducible assumption) rfl | exact Mine.n_ge (by with_reducible assumption) rfl | exact Mine.sub0n)
  k_with "EvAll" => (first | exact Mine.EvAll.nil | exact Mine.evs_L (by k_asm) (by exact rfl) rfl rfl (by decide) (by walk_at "EvAll") | exact Mine.evs_C (by k_asm) (by exact rfl) (by k_mem) (by assumption) rfl rfl (by decide) (by walk_at "EvAll"))
  k_with "MineLt" => (first | ((repeat (first | exact Nat.lt_succ_self _ | refine Nat.lt_succ_of_lt ?_)); done) | ((repeat (refine Nat.lt_succ_of_lt ?_)); with_reducible assumption))
  k_with "MineLt2" => (refine Nat.lt_trans ?_ (by with_reducible assumption); walk_at "MineLt")
  k_with "MineRoom" => (k_whole; first | exact Mine.room1 (by with_reducible assumption) rfl | exact Mine.room2 (by with_reducible assumption) rfl | exact Mine.room3 (by with_reducible assumption) rfl | exact Mine.room4 (by with_reducible assumption) rfl | exact Mine.room5 (by with_reducible assumption) rfl | exact Mine.room0 (by with_reducible assumption))
  w_top off
  revert X; k_fill; intro X
  k_dflt (refine' call_u2 [(src, instObj 182 dx), (nl, listOf [Value.ref ai].toArray cN), (ai, listOf vs.toArray cA)] (fun ob' new v => (∃ tb, ob' = (dictOf [⟨PyData.keyHash w.params "numbers", .str "numbers" t1, .ref nl⟩, ⟨PyData.keyHash w.params "many", .str "many" t2, .int 1 tq⟩, ⟨PyData.keyHash w.params "at", .str "at" t3, .int (at0 + 1 + 1) tb⟩] 3)) ∧ OutI [3] new v) ?k1 ?k2 ?k3 ?k4 ?k5 ?kU ?ks ?ko ?kA ?kF ?kK ?k6 ?k7 ?k8 ?k9 ?kB ?kR (ps := [(Str.ofString "source", Value.ref src), (Str.ofString "n", Value.int 2 tn), (Str.ofString "w", Value.int k tw)]) ?kP ?_ ?c2 ?c3 ?c4 ?c5; (case kA => exact rfl); (case kF => exact rfl); (case kK => assumption); (case k1 => k_asm); (case k2 => k_asm); (case k3 => k_asm); (case k4 => k_asm); (case k5 => k_asm); (case kU => assumption); (case k6 => k_is); (case k7 => k_is); (case k8 => (show dp < recursionLimit; first | walk_at "MineRoom" | omega)); (case k9 => exact BindsTo.of_eq rfl); (case c5 => decide); (case kB => exact locs rfl); (case kP => kst_all); (case c2 => exact rfl); (case c3 => exact rfl); (case c4 => exact rfl))
  case ks => exact List.forall_mem_cons.mpr ⟨hm, List.forall_mem_cons.mpr ⟨hm2, List.forall_mem_cons.mpr ⟨hm3, List.forall_mem_nil _⟩⟩⟩
  case ko => exact List.forall_mem_cons.mpr ⟨o1, List.forall_mem_cons.mpr ⟨o2, List.forall_mem_cons.mpr ⟨o3, List.forall_mem_nil _⟩⟩⟩
  case kR =>
    rintro v new ob' h' tk' F' N' hne ⟨⟨tb, rfl⟩, r, us, c', rfl, rfl, hI⟩
    exact ret r us c' tb h' tk' F' N' (fun q hq => hne _ (.head _) q hq) hI
  clear B F X N T ret U
  clear hm hm2 hm3
  intro g' L' h' u tk₁ F' N' B' X' T'
  (try dsimp only [kstB] at F')
  try dsimp only
  try k_fold
  have m0 : at0.fmod 1 = 0 := fmod_one at0
  have m1 : (at0 + 1).fmod 1 = 0 := fmod_one _
  have kMark := kstMark
  k_with "call ref" => ((with_reducible show wpAny _ _ (call (Value.ref 74) _) _ _ _); k_dflt (refine' Mine.shl_c ?uB ?uF ?uX ?uN ?uT ?uk ?ud ?uu ?p0 ?p1 ?p2 ?p3 ?p4 ?p5 ?p6 ?p7 ?_; (case uB => k_asm); (case uF => k_asm); (case uX => k_asm); (case uN => k_asm); (case uT => k_asm); (case uk => exact rfl); (case ud => ((try dsimp only [ktrTop, Around.deeper, callerA]); first | walk_at "MineRoom" | omega | decide)); (case uu => ((try dsimp only [ktrTop, Around.deeper, callerA]); first | walk_at "MineRoom" | omega | decide)); (case p0 => k_mem); (case p1 => l_ints); (case p2 => first | assumption | ((try simp only [List.length_append, List.length_cons, List.length_nil, List.length_take]); omega)); (case p3 => first | assumption | walk_at "Om" | omega); (case p4 => first | assumption | walk_at "Om" | omega); (case p5 => first | omega | decide); (case p6 => first | omega | decide); (case p7 => exact one_small); intro r9 us9 c9 h9 tk9 F9 N9 ne9 I9; (replace ne9 := Mine.allNe_of ne9; (try simp only [Mine.AllNe, and_true] at ne9); (repeat (have hn9 := ne9.1; replace ne9 := ne9.2))); first | rw [shl_one0 h2] at I9 | rw [show shlZ k (0 + 1) [1] = [2] from shl_one1 h2] at I9; (try k_sweep); (try dsimp only); (try k_fold)))
  k_with "call ref" => ((with_reducible show wpAny _ _ (call (Value.ref 60) _) _ _ _); k_dflt (refine' Mine.add_c ?uB ?uF ?uX ?uN ?uT ?uk ?ud ?uu ?p0 ?p1 ?p2 ?p3 ?p4 ?p5 ?p6 ?p7 ?p8 ?p9 ?_; (case uB => k_asm); (case uF => k_asm); (case uX => k_asm); (case uN => k_asm); (case uT => k_asm); (case uk => exact rfl); (case ud => ((try dsimp only [ktrTop, Around.deeper, callerA]); first | walk_at "MineRoom" | omega | decide)); (case uu => ((try dsimp only [ktrTop, Around.deeper, callerA]); first | walk_at "MineRoom" | omega | decide)); (case p0 => k_mem); (case p1 => k_mem); (case p2 => l_ints); (case p3 => l_ints); (case p4 => first | decide | assumption); (case p5 => first | decide | assumption); (case p6 => first | assumption | walk_at "Om" | omega); (case p7 => first | assumption | walk_at "Om" | omega); (case p8 => first | decide | exact fun _ h9 => (one_small _ h9).1 | (intro z hz; cases hz)); (case p9 => first | exact (fun _ h9 => (one_small _ h9).1) | exact (fun _ h9 => (two_small _ h9).1)); intro r9 us9 c9 h9 tk9 F9 N9 ne9 I9; (replace ne9 := Mine.allNe_of ne9; (try simp only [Mine.AllNe, and_true] at ne9); (repeat (have hn9 := ne9.1; replace ne9 := ne9.2))); first | rw [add_01 h2] at I9 | rw [add_12 h2] at I9; (try k_sweep); (try dsimp only); (try k_fold)))
  k_with "call ref" => ((with_reducible show wpAny _ _ (call (Value.ref 95) _) _ _ _); k_dflt (refine' Mine.low_c ?uB ?uF ?uX ?uN ?uT ?uk ?ud ?uu ?p0 ?p1 ?p2 ?p3 ?p4 ?p5 ?p6 ?_; (case uB => k_asm); (case uF => k_asm); (case uX => k_asm); (case uN => k_asm); (case uT => k_asm); (case uk => exact rfl); (case ud => ((try dsimp only [ktrTop, Around.deeper, callerA]); first | walk_at "MineRoom" | omega | decide)); (case uu => ((try dsimp only [ktrTop, Around.deeper, callerA]); first | walk_at "MineRoom" | omega | decide)); (case p0 => k_mem); (case p1 => l_ints); (case p2 => first | decide | assumption); (case p3 => first | omega | decide); (case p4 => first | omega | decide); (case p5 => first | omega | decide); (case p6 => first | omega | decide); intro r9 us9 c9 h9 tk9 F9 N9 ne9 I9; (replace ne9 := Mine.allNe_of ne9; (try simp only [Mine.AllNe, and_true] at ne9); (repeat (have hn9 := ne9.1; replace ne9 := ne9.2))); rw [low_3 h2 h8] at I9; (try k_sweep); (try dsimp only); (try k_fold)))
  k_with "BodyEnd" => (k_dflt (first
  | ((refine Mine.end_new (by k_asm) (by k_asm) (by k_mem) (by kst_allIn) (by k_all) ?_); (refine Mine.outI ?_))
  | ((refine Mine.end_val (by k_asm) (by k_asm) (by kst_allIn) ?_))))
  k_with "subscriptTail" => ((k_here; (with_reducible show wpAny _ _ (subscriptTail _ _ (Value.ref _) (Value.int (Int.fmod _ _) _)) _ _ _); k_dflt (with_unfolding_all refine' Mine.my_item ?k1 ?k2 ?k3 ?k4 ?_ ?k6; (case k1 => exact News.isList (by k_asm) (by k_mem)); (case k2 => (rw [List.size_toArray]; assumption)); (case k3 => (rw [List.size_toArray]; omega)); (case k4 => (rw [List.size_toArray]; assumption)); (case k6 => with_unfolding_all rfl); k_whole)))
  k_with "WhlIf" => (first | (refine WhlIf.yes (by simp only [decide_eq_true_eq]; omega) ?_) | (refine WhlIf.no (by simp only [decide_eq_false_iff_not]; omega) ?_))
  k_with "exec While Compare cons nil" => (((with_reducible show wpAny _ _ (exec (PySem.Stmt.While (PySem.Expr.Compare (PySem.Expr.Name (PySem.Str.ofString "have") _) _ _ _) _ _ _) _) _ _ _); k_dflt (refine whl_start 100 ?_)))
  k_with "call builtin:len" => (((with_reducible show wpAny _ _ (call (Value.builtin _) [Value.ref _]) _ _ _); refine PySem.Calls.call_len_list (News.isList (by k_asm) (by k_mem)) (by simp only [List.size_toArray]; omega) ?_))
  k_with "subscriptTail Name Slice ref ref" => (((with_reducible show wpAny _ _ (subscriptTail _ (PySem.Expr.Slice _ _ none _) (Value.ref _) (Value.ref _)) _ _ _); k_dflt (refine' kmk_slice_ints ?sF ?sN ?sl ?sp ?sq ?si ?sm ?sc ?_ ?ss ?st ?sz; (case sF => k_asm); (case sN => k_asm); (case sl => kmk_list); (case sp => kmk_part); (case sq => kmk_part); (case si => l_ints); (case sm => first | (with_reducible exact kmk_all (by assumption)) | (with_reducible exact kmk_upto (by assumption) (by first | assumption | walk_at "Om" | omega))); (case sc => exact rfl); (case ss => with_unfolding_all rfl); (case st => kmk_pure); (case sz => exact kmk_sz (by assumption) (by rw [sizeLine_eq]; omega)); intro D9 ws9 h9 F9 N9 l9 I9 C9 L9; (try k_lt l9); (try k_sweep))))
  k_with "BodyEndU" => (first
  | ((refine Mine.end_newU (by k_asm) (by k_asm) (by k_mem) (by k_mem) (by kst_allIn) (And.intro (by k_ne) (Mine.ne_allOf (by (simp only [Mine.AllNe, and_true]; (repeat' (refine And.intro ?_ ?_)) <;> first | assumption | k_ne)))) ?_))
  | ((refine Mine.end_valU (by k_asm) (by k_asm) (by k_mem) (by kst_allIn) ?_)))
  k_with "eval Call" => ((with_reducible show wpAny _ _ (eval (PySem.Expr.Call (PySem.Expr.Name _ _) (PySem.Expr.Name _ _ :: _) [] _) _) _ _ _); k_dflt (first | (refine' Mine.call_names ?zF ?zX ?zT ?ze ?zk ?za ?zz ?zx ?zd ?zh ?zp ?_; (case zx => exact rfl); (case zz => exact rfl); (case zF => k_asm); (case zX => k_asm); (case zT => k_asm); (case ze => k_is); (case zk => k_is); (case za => walk_at "EvAll"); (case zd => decide); (case zh => exact rfl); (case zp => exact rfl)) | (refine' Mine.call_namesB ?zF ?zX ?zT ?ze ?zv ?zn ?za ?zz ?zx ?zd ?zh ?zp ?_; (case zx => exact rfl); (case zz => exact rfl); (case zF => k_asm); (case zX => k_asm); (case zT => k_asm); (case ze => k_is); (case zv => boot_by_name); (case zn => decide); (case za => walk_at "EvAll"); (case zd => decide); (case zh => exact rfl); (case zp => exact rfl))))
  k_with "storeName" => (dsimp only; walk_at "storeName")
  first | (refine (id (α := let zA9 := _; let ze9 := _; let zg9 := _; let zd9 := _; let zo9 := _; wpAny _ zA9 (execs _ ze9) _ _ (Shared.mk _ zg9 zd9 _ zo9)) ?_); intro zA9 ze9 zg9 zd9 zo9) | skip
  k_with "execs cons" => ((rename Fr _ _ _ _ => lF); (refine (id (α := let zu9 := _; Fr _ _ _ zu9 → _) ?_) lF); clear lF; intro zu9 lF9; (try k_gentoks); refine wpAny_execs_cons ?_; (try dsimp only))
  k_steps
  all_goals exact outI (by assumption)

end Mine
end

section
open PySem PySem.W PySem.Spec PySem.Calls PyProof.Rows

namespace Mine
set_option maxRecDepth 100000 in
set_option maxHeartbeats 8000000 in
theorem rbelow4_c {w : World} {p : Program} {loose : List Str} {mean : ExcName → Option Value} {mg mb : Str → Option Value} {dp un : Nat} {gd : Option (List Code)} {cn : Str} {cs : Scope} {a : Addr} {ccd : Value} {cl : List (Str × Addr)} {outer : List Env} {A₀ : Around} {base h₀ : Heap} {L : Addr} {m : Str → Option Value} {news : List (Addr × Obj)} {s : Shared} {Q E : Value → Shared → Prop}
    (B : Below A₀ base outer h₀) (F : Fr h₀ L s.heap m) (X : (Mine.hd.heap_39 w.params).In h₀) (N : News h₀ L s.heap news) (T : Top p loose mean mg mb h₀) (hk : cs.kind = .function) (hd : dp + 6 < recursionLimit) (hu : un + 60 < cLine)
    {src dx nl ai bl : Addr} {vs ub : List Value} {cN cA cB : Nat} {k at0 : Int} {tw tq ta t1 t2 t3 : Tok} {gl : Obj → List (Addr × Obj)} (U : UpdF dx (dictOf [⟨PyData.keyHash w.params "numbers", .str "numbers" t1, .ref nl⟩, ⟨PyData.keyHash w.params "many", .str "many" t2, .int 1 tq⟩, ⟨PyData.keyHash w.params "at", .str "at" t3, .int at0 ta⟩] 3) news gl) (hm : (src, instObj 182 dx) ∈ news) (hm2 : (nl, listOf [Value.ref ai].toArray cN) ∈ news) (hm3 : (ai, listOf vs.toArray cA) ∈ news) (hm4 : (bl, listOf ub.toArray cB) ∈ news) (o1 : src ≠ dx) (o2 : nl ≠ dx) (o3 : ai ≠ dx) (o4 : bl ≠ dx) (hi : IntsAre vs [1]) (hj : IntsAre ub (limbsZ k 4)) (h2 : 2 ≤ k) (h8 : k ≤ 8) (a0 : 0 ≤ at0) (a9 : at0 ≤ 900)
    (ret : ∀ r us c' tb h' tk', Fr h₀ L h' m → News h₀ L h' ((r, listOf us.toArray c') :: gl (dictOf [⟨PyData.keyHash w.params "numbers", .str "numbers" t1, .ref nl⟩, ⟨PyData.keyHash w.params "many", .str "many" t2, .int 1 tq⟩, ⟨PyData.keyHash w.params "at", .str "at" t3, .int (at0 + 1 + 1) tb⟩] 3)) → (∀ q ∈ gl (dictOf [⟨PyData.keyHash w.params "numbers", .str "numbers" t1, .ref nl⟩, ⟨PyData.keyHash w.params "many", .str "many" t2, .int 1 tq⟩, ⟨PyData.keyHash w.params "at", .str "at" t3, .int (at0 + 1 + 1) tb⟩] 3), r ≠ q.1) → IntsAre us [3] → Q (.ref r) { s with heap := h', toks := tk' }) :
    wpAny (model PySem.Challenge.rw_pq0542_01.row.prog w) (ktrTop dp un gd cn cs L a ccd cl outer) (call (.ref 200) [Value.ref src, Value.ref bl, Value.int k tw]) Q E s := by
  k_with_none
  k_with "Om" => (first | walk_at "MineRoom" | exact Int.natCast_nonneg _ | exact Mine.i_up (by with_reducible assumption) rfl | exact Mine.i_dn (by with_reducible assumption) rfl | exact Mine.i_lt (by with_reducible assumption) rfl | exact Mine.i_gt (by with_reducible assumption) rfl | exact Mine.n_up (by with_reducible assumption) rfl | exact Mine.n_eq (by with_reducible assumption) rfl | exact Mine.n_ge (by with_reducible assumption) rfl | exact Mine.sub0n)
  k_with "EvAll" => (first | exact Mine.EvAll.nil | exact Mine.evs_L (by k_asm) (by exact rfl) rfl rfl (by decide) (by walk_at "EvAll") | exact Mine.evs_C (by k_asm) (by exact rfl) (by k_mem) (by assumption) rfl rfl (by decide) (by walk_at "EvAll"))
  k_with "MineLt" => (first | ((repeat (first | exact Nat.lt_succ_self _ | refine Nat.lt_succ_of_lt ?_)); done) | ((repeat (refine Nat.lt_succ_of_lt ?_)); with_reducible assumption))
  k_with "MineLt2" => (refine Nat.lt_trans ?_ (by with_reducible assumption); walk_at "MineLt")
  k_with "MineRoom" => (k_whole; first | exact Mine.room1 (by with_reducible assumption) rfl | exact Mine.room2 (by with_reducible assumption) rfl | exact Mine.room3 (by with_reducible assumption) rfl | exact Mine.room4 (by with_reducible assumption) rfl | exact Mine.room5 (by with_reducible assumption) rfl | exact Mine.room0 (by with_reducible assumption))
  w_top off
  revert X; k_fill; intro X
  k_dflt (refine' call_u2 [(src, instObj 182 dx), (nl, listOf [Value.ref ai].toArray cN), (ai, listOf vs.toArray cA), (bl, listOf ub.toArray cB)] (fun ob' new v => (∃ tb, ob' = (dictOf [⟨PyData.keyHash w.params "numbers", .str "numbers" t1, .ref nl⟩, ⟨PyData.keyHash w.params "many", .str "many" t2, .int 1 tq⟩, ⟨PyData.keyHash w.params "at", .str "at" t3, .int (at0 + 1 + 1) tb⟩] 3)) ∧ OutI [3] new v) ?k1 ?k2 ?k3 ?k4 ?k5 ?kU ?ks ?ko ?kA ?kF ?kK ?k6 ?k7 ?k8 ?k9 ?kB ?kR (ps := [(Str.ofString "source", Value.ref src), (Str.ofString "bound", Value.ref bl), (Str.ofString "w", Value.int k tw)]) ?kP ?_ ?c2 ?c3 ?c4 ?c5; (case kA => exact rfl); (case kF => exact rfl); (case kK => assumption); (case k1 => k_asm); (case k2 => k_asm); (case k3 => k_asm); (case k4 => k_asm); (case k5 => k_asm); (case kU => assumption); (case k6 => k_is); (case k7 => k_is); (case k8 => (show dp < recursionLimit; first | walk_at "MineRoom" | omega)); (case k9 => exact BindsTo.of_eq rfl); (case c5 => decide); (case kB => exact locs rfl); (case kP => kst_all); (case c2 => exact rfl); (case c3 => exact rfl); (case c4 => exact rfl))
  case ks => exact List.forall_mem_cons.mpr ⟨hm, List.forall_mem_cons.mpr ⟨hm2, List.forall_mem_cons.mpr ⟨hm3, List.forall_mem_cons.mpr ⟨hm4, List.forall_mem_nil _⟩⟩⟩⟩
  case ko => exact List.forall_mem_cons.mpr ⟨o1, List.forall_mem_cons.mpr ⟨o2, List.forall_mem_cons.mpr ⟨o3, List.forall_mem_cons.mpr ⟨o4, List.forall_mem_nil _⟩⟩⟩⟩
  case kR =>
    rintro v new ob' h' tk' F' N' hne ⟨⟨tb, rfl⟩, r, us, c', rfl, rfl, hI⟩
    exact ret r us c' tb h' tk' F' N' (fun q hq => hne _ (.head _) q hq) hI
  clear B F X N T ret U
  clear hm hm2 hm3 hm4
  intro g' L' h' u tk₁ F' N' B' X' T'
  (try dsimp only [kstB] at F')
  try dsimp only
  try k_fold
  have kMark := kstMark
  obtain ⟨l4, l5⟩ := len4 h2 h8
  k_with "call ref" => ((with_reducible show wpAny _ _ (call (Value.ref 67) _) _ _ _); k_dflt (refine' Mine.sub_c ?uB ?uF ?uX ?uN ?uT ?uk ?ud ?uu ?p0 ?p1 ?p2 ?p3 ?p4 ?p5 ?p6 ?p7 ?p8 ?_; (case uB => k_asm); (case uF => k_asm); (case uX => k_asm); (case uN => k_asm); (case uT => k_asm); (case uk => exact rfl); (case ud => ((try dsimp only [ktrTop, Around.deeper, callerA]); first | walk_at "MineRoom" | omega | decide)); (case uu => ((try dsimp only [ktrTop, Around.deeper, callerA]); first | walk_at "MineRoom" | omega | decide)); (case p0 => k_mem); (case p1 => k_mem); (case p2 => assumption); (case p3 => l_ints); (case p4 => first | walk_at "Om" | omega); (case p5 => decide); (case p6 => first | assumption | walk_at "Om" | omega); (case p7 => first | assumption | walk_at "Om" | omega); (case p8 => exact (b4 h2 h8).hc1); intro r9 us9 c9 h9 tk9 F9 N9 ne9 I9; (replace ne9 := Mine.allNe_of ne9; (try simp only [Mine.AllNe, and_true] at ne9); (repeat (have hn9 := ne9.1; replace ne9 := ne9.2))); rw [sub4 h2 h8] at I9; (try k_sweep); (try dsimp only); (try k_fold)))
  k_with "call ref" => ((with_reducible show wpAny _ _ (call (Value.ref 88) _) _ _ _); k_dflt (refine' Mine.bits_c ?uB ?uF ?uX ?uN ?uT ?uk ?ud ?uu ?p0 ?p1 ?p2 ?p3 ?p4 ?_; (case uB => k_asm); (case uF => k_asm); (case uX => k_asm); (case uN => k_asm); (case uT => k_asm); (case uk => exact rfl); (case ud => ((try dsimp only [ktrTop, Around.deeper, callerA]); first | walk_at "MineRoom" | omega | decide)); (case uu => ((try dsimp only [ktrTop, Around.deeper, callerA]); first | walk_at "MineRoom" | omega | decide)); (case p0 => k_mem); (case p1 => assumption); (case p2 => decide); (case p3 => first | assumption | walk_at "Om" | omega); (case p4 => first | assumption | walk_at "Om" | omega); intro t9 h9 tk9 F9 N9; rw [bits3 h2 h8]; (try k_sweep); (try dsimp only); (try k_fold)))
  k_with "call ref" => ((with_reducible show wpAny _ _ (call (Value.ref 53) _) _ _ _); k_dflt (refine' Mine.compare_c ?uB ?uF ?uX ?uN ?uT ?uk ?ud ?uu ?p0 ?p1 ?p2 ?p3 ?p4 ?p5 ?_; (case uB => k_asm); (case uF => k_asm); (case uX => k_asm); (case uN => k_asm); (case uT => k_asm); (case uk => exact rfl); (case ud => ((try dsimp only [ktrTop, Around.deeper, callerA]); first | walk_at "MineRoom" | omega | decide)); (case uu => ((try dsimp only [ktrTop, Around.deeper, callerA]); first | walk_at "MineRoom" | omega | decide)); (case p0 => k_mem); (case p1 => k_mem); (case p2 => assumption); (case p3 => assumption); (case p4 => decide); (case p5 => first | walk_at "Om" | omega); intro t9 h9 tk9 F9 N9; rw [cmp34 h2]; (try k_sweep); (try dsimp only); (try k_fold)))
  k_with "call ref" => ((with_reducible show wpAny _ _ (call (Value.ref 193) _) _ _ _); k_dflt (refine' Mine.rbits2_c (at0 := at0) ?uB ?uF ?uX ?uN ?uT ?uk ?ud ?uu ?p0 ?p1 ?p2 ?p3 ?p4 ?p5 ?p6 ?p7 ?p8 ?p9 ?p10 ?p11 ?_; (case uB => k_asm); (case uF => k_asm); (case uX => k_asm); (case uN => k_asm); (case uT => k_asm); (case uk => exact rfl); (case ud => ((try dsimp only [ktrTop, Around.deeper, callerA]); first | walk_at "MineRoom" | omega | decide)); (case uu => ((try dsimp only [ktrTop, Around.deeper, callerA]); first | walk_at "MineRoom" | omega | decide)); (case p1 => k_mem); (case p0 => k_updF); (case p2 => k_mem); (case p3 => k_mem); (case p4 => k_ne); (case p5 => k_ne); (case p6 => k_ne); (case p7 => assumption); (case p8 => first | assumption | walk_at "Om" | omega); (case p9 => first | assumption | walk_at "Om" | omega); (case p10 => first | assumption | walk_at "Om" | omega); (case p11 => first | assumption | walk_at "Om" | omega); intro r9 us9 c9 tb9 h9 tk9 F9 N9 ne9 I9; (try dsimp only at N9 ne9); (replace ne9 := Mine.allNe_of ne9; (try simp only [Mine.AllNe, and_true] at ne9); (repeat (have hn9 := ne9.1; replace ne9 := ne9.2))); (try k_sweep); (try dsimp only); (try k_fold)))
  k_with "pyIter ref" => k_dflt ((with_reducible show wpAny _ _ (pyIter (Value.ref _)) (fun it s₂ => LoopAtV _ _ _ _ _ _ _ _ _ it s₂) _ _); (rename Fr _ _ _ _ => lF'); (rename News _ _ _ _ => lN'); (rename IsRange _ _ _ _ _ _ _ _ => rgX); (with_unfolding_all refine' loop_run (n := 80) (σ := Unit) (fun _ => _) (fun _ => []) [] (fun i _ => i = 0) () (by rfl) rgX (by decide) (by rfl) lF' lN' ?kk ?kp ?kt ?kd); (case kk => exact List.forall_mem_nil _); (case kp => rfl); (case' kt => (clear lF' lN'; intro c i7 t7 u7 h7 tk7 own7 hlt7 hoff7 hP7 F7 N7; have kMark := kstMark; try k_fold)); (case' kd => (intro c u7 h7 tk7 hP7; exact absurd hP7 (by decide))))
  k_with "BodyEnd" => (k_dflt (first
  | ((refine Mine.end_new (by k_asm) (by k_asm) (by k_mem) (by kst_allIn) (by k_all) ?_); (refine Mine.outI ?_))
  | ((refine Mine.end_val (by k_asm) (by k_asm) (by kst_allIn) ?_))))
  k_with "call builtin:len" => (((with_reducible show wpAny _ _ (call (Value.builtin _) [Value.ref _]) _ _ _); refine PySem.Calls.call_len_list (News.isList (by k_asm) (by k_mem)) (by simp only [List.size_toArray]; omega) ?_))
  k_with "subscriptTail Name Slice ref ref" => (((with_reducible show wpAny _ _ (subscriptTail _ (PySem.Expr.Slice _ _ none _) (Value.ref _) (Value.ref _)) _ _ _); k_dflt (refine' kmk_slice_ints ?sF ?sN ?sl ?sp ?sq ?si ?sm ?sc ?_ ?ss ?st ?sz; (case sF => k_asm); (case sN => k_asm); (case sl => kmk_list); (case sp => kmk_part); (case sq => kmk_part); (case si => l_ints); (case sm => first | (with_reducible exact kmk_all (by assumption)) | (with_reducible exact kmk_upto (by assumption) (by first | assumption | walk_at "Om" | omega))); (case sc => exact rfl); (case ss => with_unfolding_all rfl); (case st => kmk_pure); (case sz => exact kmk_sz (by assumption) (by rw [sizeLine_eq]; omega)); intro D9 ws9 h9 F9 N9 l9 I9 C9 L9; (try k_lt l9); (try k_sweep))))
  k_with "BodyEndU" => (first
  | ((refine Mine.end_newU (by k_asm) (by k_asm) (by k_mem) (by k_mem) (by kst_allIn) (And.intro (by k_ne) (Mine.ne_allOf (by (simp only [Mine.AllNe, and_true]; (repeat' (refine And.intro ?_ ?_)) <;> first | assumption | k_ne)))) ?_))
  | ((refine Mine.end_valU (by k_asm) (by k_asm) (by k_mem) (by kst_allIn) ?_)))
  k_with "RunPost" => ((dsimp only [Mine.RunPost]))
  k_with "eval Call" => ((with_reducible show wpAny _ _ (eval (PySem.Expr.Call (PySem.Expr.Name _ _) (PySem.Expr.Name _ _ :: _) [] _) _) _ _ _); k_dflt (first | (refine' Mine.call_names ?zF ?zX ?zT ?ze ?zk ?za ?zz ?zx ?zd ?zh ?zp ?_; (case zx => exact rfl); (case zz => exact rfl); (case zF => k_asm); (case zX => k_asm); (case zT => k_asm); (case ze => k_is); (case zk => k_is); (case za => walk_at "EvAll"); (case zd => decide); (case zh => exact rfl); (case zp => exact rfl)) | (refine' Mine.call_namesB ?zF ?zX ?zT ?ze ?zv ?zn ?za ?zz ?zx ?zd ?zh ?zp ?_; (case zx => exact rfl); (case zz => exact rfl); (case zF => k_asm); (case zX => k_asm); (case zT => k_asm); (case ze => k_is); (case zv => boot_by_name); (case zn => decide); (case za => walk_at "EvAll"); (case zd => decide); (case zh => exact rfl); (case zp => exact rfl))))
  k_with "storeName" => (dsimp only; walk_at "storeName")
  first | (refine (id (α := let zA9 := _; let ze9 := _; let zg9 := _; let zd9 := _; let zo9 := _; wpAny _ zA9 (execs _ ze9) _ _ (Shared.mk _ zg9 zd9 _ zo9)) ?_); intro zA9 ze9 zg9 zd9 zo9) | skip
  k_with "execs cons" => ((rename Fr _ _ _ _ => lF); (refine (id (α := let zu9 := _; Fr _ _ _ zu9 → _) ?_) lF); clear lF; intro zu9 lF9; (try k_gentoks); refine wpAny_execs_cons ?_; (try dsimp only))
  k_steps
  all_goals exact outI (by assumption)

end Mine
end

section
open PySem PySem.W PySem.Spec PySem.Calls PyProof.Rows

namespace Mine
set_option maxRecDepth 100000 in
set_option maxHeartbeats 8000000 in
theorem sbelow4_c {w : World} {p : Program} {loose : List Str} {mean : ExcName → Option Value} {mg mb : Str → Option Value} {dp un : Nat} {gd : Option (List Code)} {cn : Str} {cs : Scope} {a : Addr} {ccd : Value} {cl : List (Str × Addr)} {outer : List Env} {A₀ : Around} {base h₀ : Heap} {L : Addr} {m : Str → Option Value} {news : List (Addr × Obj)} {s : Shared} {Q E : Value → Shared → Prop}
    (B : Below A₀ base outer h₀) (F : Fr h₀ L s.heap m) (X : (Mine.hd.heap_39 w.params).In h₀) (N : News h₀ L s.heap news) (T : Top p loose mean mg mb h₀) (hk : cs.kind = .function) (hd : dp + 8 < recursionLimit) (hu : un + 100 < cLine)
    {src dx nl ai : Addr} {vs : List Value} {cN cA : Nat} {k at0 : Int} {tw tn tq ta t1 t2 t3 : Tok} {gl : Obj → List (Addr × Obj)} (U : UpdF dx (dictOf [⟨PyData.keyHash w.params "numbers", .str "numbers" t1, .ref nl⟩, ⟨PyData.keyHash w.params "many", .str "many" t2, .int 1 tq⟩, ⟨PyData.keyHash w.params "at", .str "at" t3, .int at0 ta⟩] 3) news gl) (hm : (src, instObj 182 dx) ∈ news) (hm2 : (nl, listOf [Value.ref ai].toArray cN) ∈ news) (hm3 : (ai, listOf vs.toArray cA) ∈ news) (o1 : src ≠ dx) (o2 : nl ≠ dx) (o3 : ai ≠ dx) (hi : IntsAre vs [1]) (h2 : 2 ≤ k) (h8 : k ≤ 8) (a0 : 0 ≤ at0) (a9 : at0 ≤ 900)
    (ret : ∀ t tb h' tk', Fr h₀ L h' m → News h₀ L h' (gl (dictOf [⟨PyData.keyHash w.params "numbers", .str "numbers" t1, .ref nl⟩, ⟨PyData.keyHash w.params "many", .str "many" t2, .int 1 tq⟩, ⟨PyData.keyHash w.params "at", .str "at" t3, .int (at0 + 1 + 1) tb⟩] 3)) → Q (.int 3 t) { s with heap := h', toks := tk' }) :
    wpAny (model PySem.Challenge.rw_pq0542_01.row.prog w) (ktrTop dp un gd cn cs L a ccd cl outer) (call (.ref 207) [Value.ref src, Value.int 4 tn, Value.int k tw]) Q E s := by
  k_with_none
  k_with "Om" => (first | walk_at "MineRoom" | exact Int.natCast_nonneg _ | exact Mine.i_up (by with_reducible assumption) rfl | exact Mine.i_dn (by with_reducible assumption) rfl | exact Mine.i_lt (by with_reducible assumption) rfl | exact Mine.i_gt (by with_reducible assumption) rfl | exact Mine.n_up (by with_reducible assumption) rfl | exact Mine.n_eq (by with_reducible assumption) rfl | exact Mine.n_ge (by with_reducible assumption) rfl | exact Mine.sub0n)
  k_with "EvAll" => (first | exact Mine.EvAll.nil | exact Mine.evs_L (by k_asm) (by exact rfl) rfl rfl (by decide) (by walk_at "EvAll") | exact Mine.evs_C (by k_asm) (by exact rfl) (by k_mem) (by assumption) rfl rfl (by decide) (by walk_at "EvAll"))
  k_with "MineLt" => (first | ((repeat (first | exact Nat.lt_succ_self _ | refine Nat.lt_succ_of_lt ?_)); done) | ((repeat (refine Nat.lt_succ_of_lt ?_)); with_reducible assumption))
  k_with "MineLt2" => (refine Nat.lt_trans ?_ (by with_reducible assumption); walk_at "MineLt")
  k_with "MineRoom" => (k_whole; first | exact Mine.room1 (by with_reducible assumption) rfl | exact Mine.room2 (by with_reducible assumption) rfl | exact Mine.room3 (by with_reducible assumption) rfl | exact Mine.room4 (by with_reducible assumption) rfl | exact Mine.room5 (by with_reducible assumption) rfl | exact Mine.room0 (by with_reducible assumption))
  w_top off
  revert X; k_fill; intro X
  k_dflt (refine' call_u2 [(src, instObj 182 dx), (nl, listOf [Value.ref ai].toArray cN), (ai, listOf vs.toArray cA)] (fun ob' new v => (∃ tb, ob' = (dictOf [⟨PyData.keyHash w.params "numbers", .str "numbers" t1, .ref nl⟩, ⟨PyData.keyHash w.params "many", .str "many" t2, .int 1 tq⟩, ⟨PyData.keyHash w.params "at", .str "at" t3, .int (at0 + 1 + 1) tb⟩] 3)) ∧ OutN 3 new v) ?k1 ?k2 ?k3 ?k4 ?k5 ?kU ?ks ?ko ?kA ?kF ?kK ?k6 ?k7 ?k8 ?k9 ?kB ?kR (ps := [(Str.ofString "source", Value.ref src), (Str.ofString "n", Value.int 4 tn), (Str.ofString "w", Value.int k tw)]) ?kP ?_ ?c2 ?c3 ?c4 ?c5; (case kA => exact rfl); (case kF => exact rfl); (case kK => assumption); (case k1 => k_asm); (case k2 => k_asm); (case k3 => k_asm); (case k4 => k_asm); (case k5 => k_asm); (case kU => assumption); (case k6 => k_is); (case k7 => k_is); (case k8 => (show dp < recursionLimit; first | walk_at "MineRoom" | omega)); (case k9 => exact BindsTo.of_eq rfl); (case c5 => decide); (case kB => exact locs rfl); (case kP => kst_all); (case c2 => exact rfl); (case c3 => exact rfl); (case c4 => exact rfl))
  case ks => exact List.forall_mem_cons.mpr ⟨hm, List.forall_mem_cons.mpr ⟨hm2, List.forall_mem_cons.mpr ⟨hm3, List.forall_mem_nil _⟩⟩⟩
  case ko => exact List.forall_mem_cons.mpr ⟨o1, List.forall_mem_cons.mpr ⟨o2, List.forall_mem_cons.mpr ⟨o3, List.forall_mem_nil _⟩⟩⟩
  case kR =>
    rintro v new ob' h' tk' F' N' hne ⟨⟨tb, rfl⟩, rfl, t, rfl⟩
    exact ret t tb h' tk' F' N'
  clear B F X N T ret U
  clear hm hm2 hm3
  intro g' L' h' u tk₁ F' N' B' X' T'
  (try dsimp only [kstB] at F')
  try dsimp only
  try k_fold
  have kMark := kstMark
  k_with "call ref" => ((with_reducible show wpAny _ _ (call (Value.ref 214) _) _ _ _); k_dflt (refine' Mine.snum_c ?uB ?uF ?uX ?uN ?uT ?uk ?ud ?uu ?p0 ?p1 ?p2 ?p3 ?_; (case uB => k_asm); (case uF => k_asm); (case uX => k_asm); (case uN => k_asm); (case uT => k_asm); (case uk => exact rfl); (case ud => ((try dsimp only [ktrTop, Around.deeper, callerA]); first | walk_at "MineRoom" | omega | decide)); (case uu => ((try dsimp only [ktrTop, Around.deeper, callerA]); first | walk_at "MineRoom" | omega | decide)); (case p0 => first | assumption | walk_at "Om" | omega); (case p1 => first | assumption | walk_at "Om" | omega); (case p2 => first | omega | decide); (case p3 => first | omega | decide); intro r9 us9 c9 h9 tk9 F9 N9 ne9 I9; (replace ne9 := Mine.allNe_of ne9; (try simp only [Mine.AllNe, and_true] at ne9); (repeat (have hn9 := ne9.1; replace ne9 := ne9.2))); (try k_sweep); (try dsimp only); (try k_fold)))
  k_with "call ref" => ((with_reducible show wpAny _ _ (call (Value.ref 200) _) _ _ _); k_dflt (refine' Mine.rbelow4_c (at0 := at0) ?uB ?uF ?uX ?uN ?uT ?uk ?ud ?uu ?p0 ?p1 ?p2 ?p3 ?p4 ?p5 ?p6 ?p7 ?p8 ?p9 ?p10 ?p11 ?p12 ?p13 ?p14 ?_; (case uB => k_asm); (case uF => k_asm); (case uX => k_asm); (case uN => k_asm); (case uT => k_asm); (case uk => exact rfl); (case ud => ((try dsimp only [ktrTop, Around.deeper, callerA]); first | walk_at "MineRoom" | omega | decide)); (case uu => ((try dsimp only [ktrTop, Around.deeper, callerA]); first | walk_at "MineRoom" | omega | decide)); (case p1 => k_mem); (case p0 => k_updF); (case p2 => k_mem); (case p3 => k_mem); (case p4 => k_mem); (case p5 => k_ne); (case p6 => k_ne); (case p7 => k_ne); (case p8 => k_ne); (case p9 => assumption); (case p10 => assumption); (case p11 => first | assumption | walk_at "Om" | omega); (case p12 => first | assumption | walk_at "Om" | omega); (case p13 => first | assumption | walk_at "Om" | omega); (case p14 => first | assumption | walk_at "Om" | omega); intro r9 us9 c9 tb9 h9 tk9 F9 N9 ne9 I9; (try dsimp only at N9 ne9); (replace ne9 := Mine.allNe_of ne9; (try simp only [Mine.AllNe, and_true] at ne9); (repeat (have hn9 := ne9.1; replace ne9 := ne9.2))); obtain ⟨t9, e9⟩ := ints_one I9; subst e9; (try k_sweep); (try dsimp only); (try k_fold)))
  k_with "BodyEnd" => (k_dflt (first
  | ((refine Mine.end_new (by k_asm) (by k_asm) (by k_mem) (by kst_allIn) (by k_all) ?_); (refine Mine.outI ?_))
  | ((refine Mine.end_val (by k_asm) (by k_asm) (by kst_allIn) ?_))))
  k_with "subscriptTail Name Slice ref ref" => (((with_reducible show wpAny _ _ (subscriptTail _ (PySem.Expr.Slice _ _ none _) (Value.ref _) (Value.ref _)) _ _ _); k_dflt (refine' kmk_slice_ints ?sF ?sN ?sl ?sp ?sq ?si ?sm ?sc ?_ ?ss ?st ?sz; (case sF => k_asm); (case sN => k_asm); (case sl => kmk_list); (case sp => kmk_part); (case sq => kmk_part); (case si => l_ints); (case sm => first | (with_reducible exact kmk_all (by assumption)) | (with_reducible exact kmk_upto (by assumption) (by first | assumption | walk_at "Om" | omega))); (case sc => exact rfl); (case ss => with_unfolding_all rfl); (case st => kmk_pure); (case sz => exact kmk_sz (by assumption) (by rw [sizeLine_eq]; omega)); intro D9 ws9 h9 F9 N9 l9 I9 C9 L9; (try k_lt l9); (try k_sweep))))
  k_with "BodyEndU" => (first
  | ((refine Mine.end_newU (by k_asm) (by k_asm) (by k_mem) (by k_mem) (by kst_allIn) (And.intro (by k_ne) (Mine.ne_allOf (by (simp only [Mine.AllNe, and_true]; (repeat' (refine And.intro ?_ ?_)) <;> first | assumption | k_ne)))) ?_))
  | ((refine Mine.end_valU (by k_asm) (by k_asm) (by k_mem) (by kst_allIn) ?_)))
  k_with "eval Call" => ((with_reducible show wpAny _ _ (eval (PySem.Expr.Call (PySem.Expr.Name _ _) (PySem.Expr.Name _ _ :: _) [] _) _) _ _ _); k_dflt (first | (refine' Mine.call_names ?zF ?zX ?zT ?ze ?zk ?za ?zz ?zx ?zd ?zh ?zp ?_; (case zx => exact rfl); (case zz => exact rfl); (case zF => k_asm); (case zX => k_asm); (case zT => k_asm); (case ze => k_is); (case zk => k_is); (case za => walk_at "EvAll"); (case zd => decide); (case zh => exact rfl); (case zp => exact rfl)) | (refine' Mine.call_namesB ?zF ?zX ?zT ?ze ?zv ?zn ?za ?zz ?zx ?zd ?zh ?zp ?_; (case zx => exact rfl); (case zz => exact rfl); (case zF => k_asm); (case zX => k_asm); (case zT => k_asm); (case ze => k_is); (case zv => boot_by_name); (case zn => decide); (case za => walk_at "EvAll"); (case zd => decide); (case zh => exact rfl); (case zp => exact rfl))))
  k_with "storeName" => (dsimp only; walk_at "storeName")
  first | (refine (id (α := let zA9 := _; let ze9 := _; let zg9 := _; let zd9 := _; let zo9 := _; wpAny _ zA9 (execs _ ze9) _ _ (Shared.mk _ zg9 zd9 _ zo9)) ?_); intro zA9 ze9 zg9 zd9 zo9) | skip
  k_with "execs cons" => ((rename Fr _ _ _ _ => lF); (refine (id (α := let zu9 := _; Fr _ _ _ zu9 → _) ?_) lF); clear lF; intro zu9 lF9; (try k_gentoks); refine wpAny_execs_cons ?_; (try dsimp only))
  k_steps
  all_goals (rw [Int.zero_mul, Int.zero_add]; exact outN)

end Mine
end

section
open PySem PySem.W PySem.Spec PySem.Calls PyProof.Rows

namespace Mine
set_option maxRecDepth 100000 in
set_option maxHeartbeats 8000000 in
theorem rlen0_c {w : World} {p : Program} {loose : List Str} {mean : ExcName → Option Value} {mg mb : Str → Option Value} {dp un : Nat} {gd : Option (List Code)} {cn : Str} {cs : Scope} {a : Addr} {ccd : Value} {cl : List (Str × Addr)} {outer : List Env} {A₀ : Around} {base h₀ : Heap} {L : Addr} {m : Str → Option Value} {news : List (Addr × Obj)} {s : Shared} {Q E : Value → Shared → Prop}
    (B : Below A₀ base outer h₀) (F : Fr h₀ L s.heap m) (X : (Mine.hd.heap_39 w.params).In h₀) (N : News h₀ L s.heap news) (T : Top p loose mean mg mb h₀) (hk : cs.kind = .function) (hd : dp + 10 < recursionLimit) (hu : un + 140 < cLine)
    {src dx nl ai : Addr} {vs : List Value} {cN cA : Nat} {k at0 : Int} {tw tn tq ta t1 t2 t3 : Tok} {gl : Obj → List (Addr × Obj)} (U : UpdF dx (dictOf [⟨PyData.keyHash w.params "numbers", .str "numbers" t1, .ref nl⟩, ⟨PyData.keyHash w.params "many", .str "many" t2, .int 1 tq⟩, ⟨PyData.keyHash w.params "at", .str "at" t3, .int at0 ta⟩] 3) news gl) (hm : (src, instObj 182 dx) ∈ news) (hm2 : (nl, listOf [Value.ref ai].toArray cN) ∈ news) (hm3 : (ai, listOf vs.toArray cA) ∈ news) (o1 : src ≠ dx) (o2 : nl ≠ dx) (o3 : ai ≠ dx) (hi : IntsAre vs [1]) (h2 : 2 ≤ k) (h8 : k ≤ 8) (a0 : 0 ≤ at0) (a9 : at0 ≤ 900)
    (ret : ∀ r us c' tb h' tk', Fr h₀ L h' m → News h₀ L h' ((r, listOf us.toArray c') :: gl (dictOf [⟨PyData.keyHash w.params "numbers", .str "numbers" t1, .ref nl⟩, ⟨PyData.keyHash w.params "many", .str "many" t2, .int 1 tq⟩, ⟨PyData.keyHash w.params "at", .str "at" t3, .int (at0 + 1 + 1) tb⟩] 3)) → (∀ q ∈ gl (dictOf [⟨PyData.keyHash w.params "numbers", .str "numbers" t1, .ref nl⟩, ⟨PyData.keyHash w.params "many", .str "many" t2, .int 1 tq⟩, ⟨PyData.keyHash w.params "at", .str "at" t3, .int (at0 + 1 + 1) tb⟩] 3), r ≠ q.1) → IntsAre us [] → Q (.ref r) { s with heap := h', toks := tk' }) :
    wpAny (model PySem.Challenge.rw_pq0542_01.row.prog w) (ktrTop dp un gd cn cs L a ccd cl outer) (call (.ref 221) [Value.ref src, Value.int 0 tn, Value.int k tw]) Q E s := by
  k_with_none
  k_with "Om" => (first | walk_at "MineRoom" | exact Int.natCast_nonneg _ | exact Mine.i_up (by with_reducible assumption) rfl | exact Mine.i_dn (by with_reducible assumption) rfl | exact Mine.i_lt (by with_reducible assumption) rfl | exact Mine.i_gt (by with_reducible assumption) rfl | exact Mine.n_up (by with_reducible assumption) rfl | exact Mine.n_eq (by with_reducible assumption) rfl | exact Mine.n_ge (by with_reducible assumption) rfl | exact Mine.sub0n)
  k_with "EvAll" => (first | exact Mine.EvAll.nil | exact Mine.evs_L (by k_asm) (by exact rfl) rfl rfl (by decide) (by walk_at "EvAll") | exact Mine.evs_C (by k_asm) (by exact rfl) (by k_mem) (by assumption) rfl rfl (by decide) (by walk_at "EvAll"))
  k_with "MineLt" => (first | ((repeat (first | exact Nat.lt_succ_self _ | refine Nat.lt_succ_of_lt ?_)); done) | ((repeat (refine Nat.lt_succ_of_lt ?_)); with_reducible assumption))
  k_with "MineLt2" => (refine Nat.lt_trans ?_ (by with_reducible assumption); walk_at "MineLt")
  k_with "MineRoom" => (k_whole; first | exact Mine.room1 (by with_reducible assumption) rfl | exact Mine.room2 (by with_reducible assumption) rfl | exact Mine.room3 (by with_reducible assumption) rfl | exact Mine.room4 (by with_reducible assumption) rfl | exact Mine.room5 (by with_reducible assumption) rfl | exact Mine.room0 (by with_reducible assumption))
  w_top off
  revert X; k_fill; intro X
  k_dflt (refine' call_u2 [(src, instObj 182 dx), (nl, listOf [Value.ref ai].toArray cN), (ai, listOf vs.toArray cA)] (fun ob' new v => (∃ tb, ob' = (dictOf [⟨PyData.keyHash w.params "numbers", .str "numbers" t1, .ref nl⟩, ⟨PyData.keyHash w.params "many", .str "many" t2, .int 1 tq⟩, ⟨PyData.keyHash w.params "at", .str "at" t3, .int (at0 + 1 + 1) tb⟩] 3)) ∧ OutI [] new v) ?k1 ?k2 ?k3 ?k4 ?k5 ?kU ?ks ?ko ?kA ?kF ?kK ?k6 ?k7 ?k8 ?k9 ?kB ?kR (ps := [(Str.ofString "source", Value.ref src), (Str.ofString "n", Value.int 0 tn), (Str.ofString "w", Value.int k tw)]) ?kP ?_ ?c2 ?c3 ?c4 ?c5; (case kA => exact rfl); (case kF => exact rfl); (case kK => assumption); (case k1 => k_asm); (case k2 => k_asm); (case k3 => k_asm); (case k4 => k_asm); (case k5 => k_asm); (case kU => assumption); (case k6 => k_is); (case k7 => k_is); (case k8 => (show dp < recursionLimit; first | walk_at "MineRoom" | omega)); (case k9 => exact BindsTo.of_eq rfl); (case c5 => decide); (case kB => exact locs rfl); (case kP => kst_all); (case c2 => exact rfl); (case c3 => exact rfl); (case c4 => exact rfl))
  case ks => exact List.forall_mem_cons.mpr ⟨hm, List.forall_mem_cons.mpr ⟨hm2, List.forall_mem_cons.mpr ⟨hm3, List.forall_mem_nil _⟩⟩⟩
  case ko => exact List.forall_mem_cons.mpr ⟨o1, List.forall_mem_cons.mpr ⟨o2, List.forall_mem_cons.mpr ⟨o3, List.forall_mem_nil _⟩⟩⟩
  case kR =>
    rintro v new ob' h' tk' F' N' hne ⟨⟨tb, rfl⟩, r, us, c', rfl, rfl, hI⟩
    exact ret r us c' tb h' tk' F' N' (fun q hq => hne _ (.head _) q hq) hI
  clear B F X N T ret U
  clear hm hm2 hm3
  intro g' L' h' u tk₁ F' N' B' X' T'
  (try dsimp only [kstB] at F')
  try dsimp only
  try k_fold
  have kMark := kstMark
  have i0 : IntsAre [] [] := IntsAre.nil
  k_with "call ref" => ((with_reducible show wpAny _ _ (call (Value.ref 207) _) _ _ _); k_dflt (refine' Mine.sbelow4_c (at0 := at0) ?uB ?uF ?uX ?uN ?uT ?uk ?ud ?uu ?p0 ?p1 ?p2 ?p3 ?p4 ?p5 ?p6 ?p7 ?p8 ?p9 ?p10 ?p11 ?_; (case uB => k_asm); (case uF => k_asm); (case uX => k_asm); (case uN => k_asm); (case uT => k_asm); (case uk => exact rfl); (case ud => ((try dsimp only [ktrTop, Around.deeper, callerA]); first | walk_at "MineRoom" | omega | decide)); (case uu => ((try dsimp only [ktrTop, Around.deeper, callerA]); first | walk_at "MineRoom" | omega | decide)); (case p1 => k_mem); (case p0 => k_updF); (case p2 => k_mem); (case p3 => k_mem); (case p4 => k_ne); (case p5 => k_ne); (case p6 => k_ne); (case p7 => assumption); (case p8 => first | assumption | walk_at "Om" | omega); (case p9 => first | assumption | walk_at "Om" | omega); (case p10 => first | assumption | walk_at "Om" | omega); (case p11 => first | assumption | walk_at "Om" | omega); intro t9 tb9 h9 tk9 F9 N9; (try dsimp only at N9); (try k_sweep); (try dsimp only); (try k_fold)))
  k_with "BodyEnd" => (k_dflt (first
  | ((refine Mine.end_new (by k_asm) (by k_asm) (by k_mem) (by kst_allIn) (by k_all) ?_); (refine Mine.outI ?_))
  | ((refine Mine.end_val (by k_asm) (by k_asm) (by kst_allIn) ?_))))
  k_with "WhlIf" => (first | (refine WhlIf.yes (by simp only [decide_eq_true_eq]; omega) ?_) | (refine WhlIf.no (by simp only [decide_eq_false_iff_not]; omega) ?_))
  k_with "exec While Compare cons nil" => (((with_reducible show wpAny _ _ (exec (PySem.Stmt.While (PySem.Expr.Compare (PySem.Expr.Name (PySem.Str.ofString "left") _) _ _ _) _ _ _) _) _ _ _); k_dflt (refine whl_start 100 ?_)))
  k_with "subscriptTail Name Slice ref ref" => (((with_reducible show wpAny _ _ (subscriptTail _ (PySem.Expr.Slice _ _ none _) (Value.ref _) (Value.ref _)) _ _ _); k_dflt (refine' kmk_slice_ints ?sF ?sN ?sl ?sp ?sq ?si ?sm ?sc ?_ ?ss ?st ?sz; (case sF => k_asm); (case sN => k_asm); (case sl => kmk_list); (case sp => kmk_part); (case sq => kmk_part); (case si => l_ints); (case sm => first | (with_reducible exact kmk_all (by assumption)) | (with_reducible exact kmk_upto (by assumption) (by first | assumption | walk_at "Om" | omega))); (case sc => exact rfl); (case ss => with_unfolding_all rfl); (case st => kmk_pure); (case sz => exact kmk_sz (by assumption) (by rw [sizeLine_eq]; omega)); intro D9 ws9 h9 F9 N9 l9 I9 C9 L9; (try k_lt l9); (try k_sweep))))
  k_with "BodyEndU" => (first
  | ((refine Mine.end_newU (by k_asm) (by k_asm) (by k_mem) (by k_mem) (by kst_allIn) (And.intro (by k_ne) (Mine.ne_allOf (by (simp only [Mine.AllNe, and_true]; (repeat' (refine And.intro ?_ ?_)) <;> first | assumption | k_ne)))) ?_))
  | ((refine Mine.end_valU (by k_asm) (by k_asm) (by k_mem) (by kst_allIn) ?_)))
  k_with "eval Call" => ((with_reducible show wpAny _ _ (eval (PySem.Expr.Call (PySem.Expr.Name _ _) (PySem.Expr.Name _ _ :: _) [] _) _) _ _ _); k_dflt (first | (refine' Mine.call_names ?zF ?zX ?zT ?ze ?zk ?za ?zz ?zx ?zd ?zh ?zp ?_; (case zx => exact rfl); (case zz => exact rfl); (case zF => k_asm); (case zX => k_asm); (case zT => k_asm); (case ze => k_is); (case zk => k_is); (case za => walk_at "EvAll"); (case zd => decide); (case zh => exact rfl); (case zp => exact rfl)) | (refine' Mine.call_namesB ?zF ?zX ?zT ?ze ?zv ?zn ?za ?zz ?zx ?zd ?zh ?zp ?_; (case zx => exact rfl); (case zz => exact rfl); (case zF => k_asm); (case zX => k_asm); (case zT => k_asm); (case ze => k_is); (case zv => boot_by_name); (case zn => decide); (case za => walk_at "EvAll"); (case zd => decide); (case zh => exact rfl); (case zp => exact rfl))))
  k_with "storeName" => (dsimp only; walk_at "storeName")
  first | (refine (id (α := let zA9 := _; let ze9 := _; let zg9 := _; let zd9 := _; let zo9 := _; wpAny _ zA9 (execs _ ze9) _ _ (Shared.mk _ zg9 zd9 _ zo9)) ?_); intro zA9 ze9 zg9 zd9 zo9) | skip
  k_with "execs cons" => ((rename Fr _ _ _ _ => lF); (refine (id (α := let zu9 := _; Fr _ _ _ zu9 → _) ?_) lF); clear lF; intro zu9 lF9; (try k_gentoks); refine wpAny_execs_cons ?_; (try dsimp only))
  k_steps
  all_goals exact outI (by assumption)

set_option maxRecDepth 100000 in
set_option maxHeartbeats 8000000 in
theorem rrows0_c {w : World} {p : Program} {loose : List Str} {mean : ExcName → Option Value} {mg mb : Str → Option Value} {dp un : Nat} {gd : Option (List Code)} {cn : Str} {cs : Scope} {a : Addr} {ccd : Value} {cl : List (Str × Addr)} {outer : List Env} {A₀ : Around} {base h₀ : Heap} {L : Addr} {m : Str → Option Value} {news : List (Addr × Obj)} {s : Shared} {Q E : Value → Shared → Prop}
    (B : Below A₀ base outer h₀) (F : Fr h₀ L s.heap m) (X : (Mine.hd.heap_39 w.params).In h₀) (N : News h₀ L s.heap news) (T : Top p loose mean mg mb h₀) (hk : cs.kind = .function) (hd : dp + 12 < recursionLimit) (hu : un + 180 < cLine)
    {src dx nl ai : Addr} {vs : List Value} {cN cA : Nat} {k at0 : Int} {tw tn tq ta t1 t2 t3 : Tok} {gl : Obj → List (Addr × Obj)} (U : UpdF dx (dictOf [⟨PyData.keyHash w.params "numbers", .str "numbers" t1, .ref nl⟩, ⟨PyData.keyHash w.params "many", .str "many" t2, .int 1 tq⟩, ⟨PyData.keyHash w.params "at", .str "at" t3, .int at0 ta⟩] 3) news gl) (hm : (src, instObj 182 dx) ∈ news) (hm2 : (nl, listOf [Value.ref ai].toArray cN) ∈ news) (hm3 : (ai, listOf vs.toArray cA) ∈ news) (o1 : src ≠ dx) (o2 : nl ≠ dx) (o3 : ai ≠ dx) (hi : IntsAre vs [1]) (h2 : 2 ≤ k) (h8 : k ≤ 8) (a0 : 0 ≤ at0) (a9 : at0 ≤ 900)
    (ret : ∀ r us c' tb h' tk', Fr h₀ L h' m → News h₀ L h' ((r, listOf us.toArray c') :: gl (dictOf [⟨PyData.keyHash w.params "numbers", .str "numbers" t1, .ref nl⟩, ⟨PyData.keyHash w.params "many", .str "many" t2, .int 1 tq⟩, ⟨PyData.keyHash w.params "at", .str "at" t3, .int (at0 + 1 + 1) tb⟩] 3)) → (∀ q ∈ gl (dictOf [⟨PyData.keyHash w.params "numbers", .str "numbers" t1, .ref nl⟩, ⟨PyData.keyHash w.params "many", .str "many" t2, .int 1 tq⟩, ⟨PyData.keyHash w.params "at", .str "at" t3, .int (at0 + 1 + 1) tb⟩] 3), r ≠ q.1) → IntsAre us [] → Q (.ref r) { s with heap := h', toks := tk' }) :
    wpAny (model PySem.Challenge.rw_pq0542_01.row.prog w) (ktrTop dp un gd cn cs L a ccd cl outer) (call (.ref 228) [Value.ref src, Value.int 0 tn, Value.int k tw]) Q E s := by
  k_with_none
  k_with "Om" => (first | walk_at "MineRoom" | exact Int.natCast_nonneg _ | exact Mine.i_up (by with_reducible assumption) rfl | exact Mine.i_dn (by with_reducible assumption) rfl | exact Mine.i_lt (by with_reducible assumption) rfl | exact Mine.i_gt (by with_reducible assumption) rfl | exact Mine.n_up (by with_reducible assumption) rfl | exact Mine.n_eq (by with_reducible assumption) rfl | exact Mine.n_ge (by with_reducible assumption) rfl | exact Mine.sub0n)
  k_with "EvAll" => (first | exact Mine.EvAll.nil | exact Mine.evs_L (by k_asm) (by exact rfl) rfl rfl (by decide) (by walk_at "EvAll") | exact Mine.evs_C (by k_asm) (by exact rfl) (by k_mem) (by assumption) rfl rfl (by decide) (by walk_at "EvAll"))
  k_with "MineLt" => (first | ((repeat (first | exact Nat.lt_succ_self _ | refine Nat.lt_succ_of_lt ?_)); done) | ((repeat (refine Nat.lt_succ_of_lt ?_)); with_reducible assumption))
  k_with "MineLt2" => (refine Nat.lt_trans ?_ (by with_reducible assumption); walk_at "MineLt")
  k_with "MineRoom" => (k_whole; first | exact Mine.room1 (by with_reducible assumption) rfl | exact Mine.room2 (by with_reducible assumption) rfl | exact Mine.room3 (by with_reducible assumption) rfl | exact Mine.room4 (by with_reducible assumption) rfl | exact Mine.room5 (by with_reducible assumption) rfl | exact Mine.room0 (by with_reducible assumption))
  w_top off
  revert X; k_fill; intro X
  k_dflt (refine' call_u2 [(src, instObj 182 dx), (nl, listOf [Value.ref ai].toArray cN), (ai, listOf vs.toArray cA)] (fun ob' new v => (∃ tb, ob' = (dictOf [⟨PyData.keyHash w.params "numbers", .str "numbers" t1, .ref nl⟩, ⟨PyData.keyHash w.params "many", .str "many" t2, .int 1 tq⟩, ⟨PyData.keyHash w.params "at", .str "at" t3, .int (at0 + 1 + 1) tb⟩] 3)) ∧ OutI [] new v) ?k1 ?k2 ?k3 ?k4 ?k5 ?kU ?ks ?ko ?kA ?kF ?kK ?k6 ?k7 ?k8 ?k9 ?kB ?kR (ps := [(Str.ofString "source", Value.ref src), (Str.ofString "n", Value.int 0 tn), (Str.ofString "w", Value.int k tw)]) ?kP ?_ ?c2 ?c3 ?c4 ?c5; (case kA => exact rfl); (case kF => exact rfl); (case kK => assumption); (case k1 => k_asm); (case k2 => k_asm); (case k3 => k_asm); (case k4 => k_asm); (case k5 => k_asm); (case kU => assumption); (case k6 => k_is); (case k7 => k_is); (case k8 => (show dp < recursionLimit; first | walk_at "MineRoom" | omega)); (case k9 => exact BindsTo.of_eq rfl); (case c5 => decide); (case kB => exact locs rfl); (case kP => kst_all); (case c2 => exact rfl); (case c3 => exact rfl); (case c4 => exact rfl))
  case ks => exact List.forall_mem_cons.mpr ⟨hm, List.forall_mem_cons.mpr ⟨hm2, List.forall_mem_cons.mpr ⟨hm3, List.forall_mem_nil _⟩⟩⟩
  case ko => exact List.forall_mem_cons.mpr ⟨o1, List.forall_mem_cons.mpr ⟨o2, List.forall_mem_cons.mpr ⟨o3, List.forall_mem_nil _⟩⟩⟩
  case kR =>
    rintro v new ob' h' tk' F' N' hne ⟨⟨tb, rfl⟩, r, us, c', rfl, rfl, hI⟩
    exact ret r us c' tb h' tk' F' N' (fun q hq => hne _ (.head _) q hq) hI
  clear B F X N T ret U
  clear hm hm2 hm3
  intro g' L' h' u tk₁ F' N' B' X' T'
  (try dsimp only [kstB] at F')
  try dsimp only
  try k_fold
  have kMark := kstMark
  have i0 : IntsAre [] [] := IntsAre.nil
  k_with "call ref" => ((with_reducible show wpAny _ _ (call (Value.ref 221) _) _ _ _); k_dflt (refine' Mine.rlen0_c (at0 := at0) ?uB ?uF ?uX ?uN ?uT ?uk ?ud ?uu ?p0 ?p1 ?p2 ?p3 ?p4 ?p5 ?p6 ?p7 ?p8 ?p9 ?p10 ?p11 ?_; (case uB => k_asm); (case uF => k_asm); (case uX => k_asm); (case uN => k_asm); (case uT => k_asm); (case uk => exact rfl); (case ud => ((try dsimp only [ktrTop, Around.deeper, callerA]); first | walk_at "MineRoom" | omega | decide)); (case uu => ((try dsimp only [ktrTop, Around.deeper, callerA]); first | walk_at "MineRoom" | omega | decide)); (case p1 => k_mem); (case p0 => k_updF); (case p2 => k_mem); (case p3 => k_mem); (case p4 => k_ne); (case p5 => k_ne); (case p6 => k_ne); (case p7 => assumption); (case p8 => first | assumption | walk_at "Om" | omega); (case p9 => first | assumption | walk_at "Om" | omega); (case p10 => first | assumption | walk_at "Om" | omega); (case p11 => first | assumption | walk_at "Om" | omega); intro r9 us9 c9 tb9 h9 tk9 F9 N9 ne9 I9; (try dsimp only at N9 ne9); (replace ne9 := Mine.allNe_of ne9; (try simp only [Mine.AllNe, and_true] at ne9); (repeat (have hn9 := ne9.1; replace ne9 := ne9.2))); have e9 := IntsAre.nil_inv I9; subst e9; (try k_sweep); (try dsimp only); (try k_fold)))
  k_with "BodyEnd" => (k_dflt (first
  | ((refine Mine.end_new (by k_asm) (by k_asm) (by k_mem) (by kst_allIn) (by k_all) ?_); (refine Mine.outI ?_))
  | ((refine Mine.end_val (by k_asm) (by k_asm) (by kst_allIn) ?_))))
  k_with "WhlIf" => (first | (refine WhlIf.yes (by simp only [decide_eq_true_eq]; omega) ?_) | (refine WhlIf.no (by simp only [decide_eq_false_iff_not]; omega) ?_))
  k_with "exec While Compare cons nil" => (((with_reducible show wpAny _ _ (exec (PySem.Stmt.While (PySem.Expr.Compare (PySem.Expr.Name (PySem.Str.ofString "left") _) _ _ _) _ _ _) _) _ _ _); k_dflt (refine whl_start 100 ?_)))
  k_with "subscriptTail Name Slice ref ref" => (((with_reducible show wpAny _ _ (subscriptTail _ (PySem.Expr.Slice _ _ none _) (Value.ref _) (Value.ref _)) _ _ _); k_dflt (refine' kmk_slice_ints ?sF ?sN ?sl ?sp ?sq ?si ?sm ?sc ?_ ?ss ?st ?sz; (case sF => k_asm); (case sN => k_asm); (case sl => kmk_list); (case sp => kmk_part); (case sq => kmk_part); (case si => l_ints); (case sm => first | (with_reducible exact kmk_all (by assumption)) | (with_reducible exact kmk_upto (by assumption) (by first | assumption | walk_at "Om" | omega))); (case sc => exact rfl); (case ss => with_unfolding_all rfl); (case st => kmk_pure); (case sz => exact kmk_sz (by assumption) (by rw [sizeLine_eq]; omega)); intro D9 ws9 h9 F9 N9 l9 I9 C9 L9; (try k_lt l9); (try k_sweep))))
  k_with "BodyEndU" => (first
  | ((refine Mine.end_newU (by k_asm) (by k_asm) (by k_mem) (by k_mem) (by kst_allIn) (And.intro (by k_ne) (Mine.ne_allOf (by (simp only [Mine.AllNe, and_true]; (repeat' (refine And.intro ?_ ?_)) <;> first | assumption | k_ne)))) ?_))
  | ((refine Mine.end_valU (by k_asm) (by k_asm) (by k_mem) (by kst_allIn) ?_)))
  k_with "eval Call" => ((with_reducible show wpAny _ _ (eval (PySem.Expr.Call (PySem.Expr.Name _ _) (PySem.Expr.Name _ _ :: _) [] _) _) _ _ _); k_dflt (first | (refine' Mine.call_names ?zF ?zX ?zT ?ze ?zk ?za ?zz ?zx ?zd ?zh ?zp ?_; (case zx => exact rfl); (case zz => exact rfl); (case zF => k_asm); (case zX => k_asm); (case zT => k_asm); (case ze => k_is); (case zk => k_is); (case za => walk_at "EvAll"); (case zd => decide); (case zh => exact rfl); (case zp => exact rfl)) | (refine' Mine.call_namesB ?zF ?zX ?zT ?ze ?zv ?zn ?za ?zz ?zx ?zd ?zh ?zp ?_; (case zx => exact rfl); (case zz => exact rfl); (case zF => k_asm); (case zX => k_asm); (case zT => k_asm); (case ze => k_is); (case zv => boot_by_name); (case zn => decide); (case za => walk_at "EvAll"); (case zd => decide); (case zh => exact rfl); (case zp => exact rfl))))
  k_with "storeName" => (dsimp only; walk_at "storeName")
  first | (refine (id (α := let zA9 := _; let ze9 := _; let zg9 := _; let zd9 := _; let zo9 := _; wpAny _ zA9 (execs _ ze9) _ _ (Shared.mk _ zg9 zd9 _ zo9)) ?_); intro zA9 ze9 zg9 zd9 zo9) | skip
  k_with "execs cons" => ((rename Fr _ _ _ _ => lF); (refine (id (α := let zu9 := _; Fr _ _ _ zu9 → _) ?_) lF); clear lF; intro zu9 lF9; (try k_gentoks); refine wpAny_execs_cons ?_; (try dsimp only))
  k_steps
  all_goals exact outI IntsAre.nil

end Mine
end

section
open PySem PySem.W PySem.Spec PySem.Calls PyProof.Rows

namespace Mine

set_option maxRecDepth 100000 in
set_option maxHeartbeats 8000000 in
theorem mul0_c {w : World} {p : Program} {loose : List Str} {mean : ExcName → Option Value} {mg mb : Str → Option Value} {dp un : Nat} {gd : Option (List Code)} {cn : Str} {cs : Scope} {a : Addr} {ccd : Value} {cl : List (Str × Addr)} {outer : List Env} {A₀ : Around} {base h₀ : Heap} {L : Addr} {m : Str → Option Value} {news : List (Addr × Obj)} {s : Shared} {Q E : Value → Shared → Prop}
    (B : Below A₀ base outer h₀) (F : Fr h₀ L s.heap m) (X : (Mine.hd.heap_39 w.params).In h₀) (N : News h₀ L s.heap news) (T : Top p loose mean mg mb h₀) (hk : cs.kind = .function) (hd : dp + 2 < recursionLimit) (hu : un + 40 < cLine)
    {x y : Addr} {c d : Nat} {k : Int} {tw tu : Tok}   (hm : (x, listOf ([] : List Value).toArray c) ∈ news) (hm2 : (y, listOf [Value.int 1 tu].toArray d) ∈ news) (h2 : 2 ≤ k) (h8 : k ≤ 8)
    (ret : ∀ r us c' h' tk', Fr h₀ L h' m → News h₀ L h' ((r, listOf us.toArray c') :: news) → (∀ q ∈ news, r ≠ q.1) → IntsAre us ([]) → Q (.ref r) { s with heap := h', toks := tk' }) :
    wpAny (model PySem.Challenge.rw_pq0542_01.row.prog w) (ktrTop dp un gd cn cs L a ccd cl outer) (call (.ref 249) [Value.ref x, Value.ref y, Value.int k tw]) Q E s := by
  k_with_none
  k_with "Om" => (first | walk_at "MineRoom" | exact Int.natCast_nonneg _ | exact Mine.i_up (by with_reducible assumption) rfl | exact Mine.i_dn (by with_reducible assumption) rfl | exact Mine.i_lt (by with_reducible assumption) rfl | exact Mine.i_gt (by with_reducible assumption) rfl | exact Mine.n_up (by with_reducible assumption) rfl | exact Mine.n_eq (by with_reducible assumption) rfl | exact Mine.n_ge (by with_reducible assumption) rfl | exact Mine.sub0n)
  k_with "EvAll" => (first | exact Mine.EvAll.nil | exact Mine.evs_L (by k_asm) (by exact rfl) rfl rfl (by decide) (by walk_at "EvAll") | exact Mine.evs_C (by k_asm) (by exact rfl) (by k_mem) (by assumption) rfl rfl (by decide) (by walk_at "EvAll"))
  k_with "MineLt" => (first | ((repeat (first | exact Nat.lt_succ_self _ | refine Nat.lt_succ_of_lt ?_)); done) | ((repeat (refine Nat.lt_succ_of_lt ?_)); with_reducible assumption))
  k_with "MineLt2" => (refine Nat.lt_trans ?_ (by with_reducible assumption); walk_at "MineLt")
  k_with "MineRoom" => (k_whole; first | exact Mine.room1 (by with_reducible assumption) rfl | exact Mine.room2 (by with_reducible assumption) rfl | exact Mine.room3 (by with_reducible assumption) rfl | exact Mine.room4 (by with_reducible assumption) rfl | exact Mine.room5 (by with_reducible assumption) rfl | exact Mine.room0 (by with_reducible assumption))
  w_top off
  revert X; k_fill; intro X
  k_dflt (refine' call_r2 [(x, listOf ([] : List Value).toArray c), (y, listOf [Value.int 1 tu].toArray d)] (OutI []) ?k1 ?k2 ?k3 ?k4 ?k5 ?ks ?kA ?kF ?kK ?k6 ?k7 ?k8 ?k9 ?kB ?kR (ps := [(Str.ofString "a", Value.ref x), (Str.ofString "b", Value.ref y), (Str.ofString "w", Value.int k tw)]) ?kP ?_ ?c2 ?c3 ?c4 ?c5; (case kA => exact rfl); (case kF => exact rfl); (case kK => assumption); (case k1 => k_asm); (case k2 => k_asm); (case k3 => k_asm); (case k4 => k_asm); (case k5 => k_asm); (case k6 => k_is); (case k7 => k_is); (case k8 => (show dp < recursionLimit; first | walk_at "MineRoom" | omega)); (case k9 => exact BindsTo.of_eq rfl); (case c5 => decide); (case kB => exact locs rfl); (case kP => kst_all); (case c2 => exact rfl); (case c3 => exact rfl); (case c4 => exact rfl))
  case ks => exact List.forall_mem_cons.mpr ⟨hm, List.forall_mem_cons.mpr ⟨hm2, List.forall_mem_nil _⟩⟩
  case kR =>
    rintro v new h' tk' F' N' hne ⟨r, us, c', rfl, rfl, hI⟩
    exact ret r us c' h' tk' F' N' (fun q hq => hne _ (.head _) q hq) hI
  clear B F X N T ret
  clear hm hm2
  intro g' L' h' u tk₁ F' N' B' X' T'
  (try dsimp only [kstB] at F')
  try dsimp only
  try k_fold
  have i0 : IntsAre [] [] := IntsAre.nil
  have kMark := kstMark
  k_with "execs cons" => ((with_reducible show wpAny _ _ (execs (PySem.Stmt.Assign [PySem.Expr.Name (PySem.Str.ofString "carry") _] _ _ :: PySem.Stmt.For _ _ _ _ _ :: _) _) _ _ _); (rename Fr _ _ _ _ => lF'); k_dflt (refine Mine.fr_gen [(Str.ofString "limb", _), (Str.ofString "at", _), (Str.ofString "found", _), (Str.ofString "mask", _), (Str.ofString "a", _), (Str.ofString "b", _), (Str.ofString "w", _)] lF' (List.forall_mem_cons.mpr ⟨rfl, List.forall_mem_cons.mpr ⟨rfl, List.forall_mem_cons.mpr ⟨rfl, List.forall_mem_cons.mpr ⟨rfl, List.forall_mem_cons.mpr ⟨rfl, List.forall_mem_cons.mpr ⟨rfl, List.forall_mem_cons.mpr ⟨rfl, List.forall_mem_nil _⟩⟩⟩⟩⟩⟩⟩) (fun u9 F8 => ?_)); clear lF'; (try dsimp only [kstB] at F8); (try dsimp only); (try k_fold); refine wpAny_execs_cons ?_; (try dsimp only))
  k_with "BodyEnd" => (k_dflt (first
  | ((refine Mine.end_new (by k_asm) (by k_asm) (by k_mem) (by kst_allIn) (by k_all) ?_); (refine Mine.outI ?_))
  | ((refine Mine.end_val (by k_asm) (by k_asm) (by kst_allIn) ?_))))
  k_with "call ref" => (((with_reducible show wpAny _ _ (call (Value.ref 46) _) _ _ _); k_dflt (refine' Mine.normal_c ?uB ?uF ?uX ?uN ?uT ?uk ?ud ?uu ?p0 ?p1 ?p2 ?_; (case uB => k_asm); (case uF => k_asm); (case uX => k_asm); (case uN => k_asm); (case uT => k_asm); (case uk => exact rfl); (case ud => ((try dsimp only [ktrTop, Around.deeper, callerA]); first | walk_at "MineRoom" | omega | decide)); (case uu => ((try dsimp only [ktrTop, Around.deeper, callerA]); first | walk_at "MineRoom" | omega | decide)); (case p0 => k_mem); (case p1 => l_ints); (case p2 => first | assumption | ((try simp only [List.length_append, List.length_cons, List.length_nil, List.length_take]); omega)); intro r9 us9 c9 h9 tk9 F9 N9 ne9 I9; (replace ne9 := Mine.allNe_of ne9; (try simp only [Mine.AllNe, and_true] at ne9); (repeat (have hn9 := ne9.1; replace ne9 := ne9.2))); (try k_sweep); (try dsimp only); (try k_fold))))
  k_with "subscriptTail Name Slice ref ref" => (((with_reducible show wpAny _ _ (subscriptTail _ (PySem.Expr.Slice _ _ none _) (Value.ref _) (Value.ref _)) _ _ _); k_dflt (refine' kmk_slice_ints ?sF ?sN ?sl ?sp ?sq ?si ?sm ?sc ?_ ?ss ?st ?sz; (case sF => k_asm); (case sN => k_asm); (case sl => kmk_list); (case sp => kmk_part); (case sq => kmk_part); (case si => l_ints); (case sm => first | (with_reducible exact kmk_all (by assumption)) | (with_reducible exact kmk_upto (by assumption) (by first | assumption | walk_at "Om" | omega))); (case sc => exact rfl); (case ss => with_unfolding_all rfl); (case st => kmk_pure); (case sz => exact kmk_sz (by assumption) (by rw [sizeLine_eq]; omega)); intro D9 ws9 h9 F9 N9 l9 I9 C9 L9; (try k_lt l9); (try k_sweep))))
  k_with "BodyEndU" => (first
  | ((refine Mine.end_newU (by k_asm) (by k_asm) (by k_mem) (by k_mem) (by kst_allIn) (And.intro (by k_ne) (Mine.ne_allOf (by (simp only [Mine.AllNe, and_true]; (repeat' (refine And.intro ?_ ?_)) <;> first | assumption | k_ne)))) ?_))
  | ((refine Mine.end_valU (by k_asm) (by k_asm) (by k_mem) (by kst_allIn) ?_)))
  k_with "eval Call" => ((with_reducible show wpAny _ _ (eval (PySem.Expr.Call (PySem.Expr.Name _ _) (PySem.Expr.Name _ _ :: _) [] _) _) _ _ _); k_dflt (first | (refine' Mine.call_names ?zF ?zX ?zT ?ze ?zk ?za ?zz ?zx ?zd ?zh ?zp ?_; (case zx => exact rfl); (case zz => exact rfl); (case zF => k_asm); (case zX => k_asm); (case zT => k_asm); (case ze => k_is); (case zk => k_is); (case za => walk_at "EvAll"); (case zd => decide); (case zh => exact rfl); (case zp => exact rfl)) | (refine' Mine.call_namesB ?zF ?zX ?zT ?ze ?zv ?zn ?za ?zz ?zx ?zd ?zh ?zp ?_; (case zx => exact rfl); (case zz => exact rfl); (case zF => k_asm); (case zX => k_asm); (case zT => k_asm); (case ze => k_is); (case zv => boot_by_name); (case zn => decide); (case za => walk_at "EvAll"); (case zd => decide); (case zh => exact rfl); (case zp => exact rfl))))
  k_with "storeName" => (dsimp only; walk_at "storeName")
  first | (refine (id (α := let zA9 := _; let ze9 := _; let zg9 := _; let zd9 := _; let zo9 := _; wpAny _ zA9 (execs _ ze9) _ _ (Shared.mk _ zg9 zd9 _ zo9)) ?_); intro zA9 ze9 zg9 zd9 zo9) | skip
  k_steps
  all_goals (refine mul0_pure ?_; assumption)

set_option maxRecDepth 100000 in
set_option maxHeartbeats 8000000 in
theorem mul1_c {w : World} {p : Program} {loose : List Str} {mean : ExcName → Option Value} {mg mb : Str → Option Value} {dp un : Nat} {gd : Option (List Code)} {cn : Str} {cs : Scope} {a : Addr} {ccd : Value} {cl : List (Str × Addr)} {outer : List Env} {A₀ : Around} {base h₀ : Heap} {L : Addr} {m : Str → Option Value} {news : List (Addr × Obj)} {s : Shared} {Q E : Value → Shared → Prop}
    (B : Below A₀ base outer h₀) (F : Fr h₀ L s.heap m) (X : (Mine.hd.heap_39 w.params).In h₀) (N : News h₀ L s.heap news) (T : Top p loose mean mg mb h₀) (hk : cs.kind = .function) (hd : dp + 2 < recursionLimit) (hu : un + 40 < cLine)
    {x y : Addr} {c d : Nat} {k : Int} {tw tu : Tok} {y0 : Tok} {p0 : Int} (g0 : 0 ≤ p0 ∧ p0 < 2 ^ k.toNat) (hp : p0 ≠ 0) (hm : (x, listOf ([Value.int p0 y0] : List Value).toArray c) ∈ news) (hm2 : (y, listOf [Value.int 1 tu].toArray d) ∈ news) (h2 : 2 ≤ k) (h8 : k ≤ 8)
    (ret : ∀ r us c' h' tk', Fr h₀ L h' m → News h₀ L h' ((r, listOf us.toArray c') :: news) → (∀ q ∈ news, r ≠ q.1) → IntsAre us ([p0]) → Q (.ref r) { s with heap := h', toks := tk' }) :
    wpAny (model PySem.Challenge.rw_pq0542_01.row.prog w) (ktrTop dp un gd cn cs L a ccd cl outer) (call (.ref 249) [Value.ref x, Value.ref y, Value.int k tw]) Q E s := by
  k_with_none
  k_with "Om" => (first | walk_at "MineRoom" | exact Int.natCast_nonneg _ | exact Mine.i_up (by with_reducible assumption) rfl | exact Mine.i_dn (by with_reducible assumption) rfl | exact Mine.i_lt (by with_reducible assumption) rfl | exact Mine.i_gt (by with_reducible assumption) rfl | exact Mine.n_up (by with_reducible assumption) rfl | exact Mine.n_eq (by with_reducible assumption) rfl | exact Mine.n_ge (by with_reducible assumption) rfl | exact Mine.sub0n)
  k_with "EvAll" => (first | exact Mine.EvAll.nil | exact Mine.evs_L (by k_asm) (by exact rfl) rfl rfl (by decide) (by walk_at "EvAll") | exact Mine.evs_C (by k_asm) (by exact rfl) (by k_mem) (by assumption) rfl rfl (by decide) (by walk_at "EvAll"))
  k_with "MineLt" => (first | ((repeat (first | exact Nat.lt_succ_self _ | refine Nat.lt_succ_of_lt ?_)); done) | ((repeat (refine Nat.lt_succ_of_lt ?_)); with_reducible assumption))
  k_with "MineLt2" => (refine Nat.lt_trans ?_ (by with_reducible assumption); walk_at "MineLt")
  k_with "MineRoom" => (k_whole; first | exact Mine.room1 (by with_reducible assumption) rfl | exact Mine.room2 (by with_reducible assumption) rfl | exact Mine.room3 (by with_reducible assumption) rfl | exact Mine.room4 (by with_reducible assumption) rfl | exact Mine.room5 (by with_reducible assumption) rfl | exact Mine.room0 (by with_reducible assumption))
  w_top off
  revert X; k_fill; intro X
  k_dflt (refine' call_r2 [(x, listOf ([Value.int p0 y0] : List Value).toArray c), (y, listOf [Value.int 1 tu].toArray d)] (OutI [p0]) ?k1 ?k2 ?k3 ?k4 ?k5 ?ks ?kA ?kF ?kK ?k6 ?k7 ?k8 ?k9 ?kB ?kR (ps := [(Str.ofString "a", Value.ref x), (Str.ofString "b", Value.ref y), (Str.ofString "w", Value.int k tw)]) ?kP ?_ ?c2 ?c3 ?c4 ?c5; (case kA => exact rfl); (case kF => exact rfl); (case kK => assumption); (case k1 => k_asm); (case k2 => k_asm); (case k3 => k_asm); (case k4 => k_asm); (case k5 => k_asm); (case k6 => k_is); (case k7 => k_is); (case k8 => (show dp < recursionLimit; first | walk_at "MineRoom" | omega)); (case k9 => exact BindsTo.of_eq rfl); (case c5 => decide); (case kB => exact locs rfl); (case kP => kst_all); (case c2 => exact rfl); (case c3 => exact rfl); (case c4 => exact rfl))
  case ks => exact List.forall_mem_cons.mpr ⟨hm, List.forall_mem_cons.mpr ⟨hm2, List.forall_mem_nil _⟩⟩
  case kR =>
    rintro v new h' tk' F' N' hne ⟨r, us, c', rfl, rfl, hI⟩
    exact ret r us c' h' tk' F' N' (fun q hq => hne _ (.head _) q hq) hI
  clear B F X N T ret
  clear hm hm2
  intro g' L' h' u tk₁ F' N' B' X' T'
  (try dsimp only [kstB] at F')
  try dsimp only
  try k_fold
  have i0 : IntsAre [] [] := IntsAre.nil
  have kMark := kstMark
  k_with "execs cons" => ((with_reducible show wpAny _ _ (execs (PySem.Stmt.Assign [PySem.Expr.Name (PySem.Str.ofString "carry") _] _ _ :: PySem.Stmt.For _ _ _ _ _ :: _) _) _ _ _); (rename Fr _ _ _ _ => lF'); k_dflt (refine Mine.fr_gen [(Str.ofString "limb", _), (Str.ofString "at", _), (Str.ofString "found", _), (Str.ofString "mask", _), (Str.ofString "a", _), (Str.ofString "b", _), (Str.ofString "w", _)] lF' (List.forall_mem_cons.mpr ⟨rfl, List.forall_mem_cons.mpr ⟨rfl, List.forall_mem_cons.mpr ⟨rfl, List.forall_mem_cons.mpr ⟨rfl, List.forall_mem_cons.mpr ⟨rfl, List.forall_mem_cons.mpr ⟨rfl, List.forall_mem_cons.mpr ⟨rfl, List.forall_mem_nil _⟩⟩⟩⟩⟩⟩⟩) (fun u9 F8 => ?_)); clear lF'; (try dsimp only [kstB] at F8); (try dsimp only); (try k_fold); refine wpAny_execs_cons ?_; (try dsimp only))
  k_with "BodyEnd" => (k_dflt (first
  | ((refine Mine.end_new (by k_asm) (by k_asm) (by k_mem) (by kst_allIn) (by k_all) ?_); (refine Mine.outI ?_))
  | ((refine Mine.end_val (by k_asm) (by k_asm) (by kst_allIn) ?_))))
  k_with "call ref" => (((with_reducible show wpAny _ _ (call (Value.ref 46) _) _ _ _); k_dflt (refine' Mine.normal_c ?uB ?uF ?uX ?uN ?uT ?uk ?ud ?uu ?p0 ?p1 ?p2 ?_; (case uB => k_asm); (case uF => k_asm); (case uX => k_asm); (case uN => k_asm); (case uT => k_asm); (case uk => exact rfl); (case ud => ((try dsimp only [ktrTop, Around.deeper, callerA]); first | walk_at "MineRoom" | omega | decide)); (case uu => ((try dsimp only [ktrTop, Around.deeper, callerA]); first | walk_at "MineRoom" | omega | decide)); (case p0 => k_mem); (case p1 => l_ints); (case p2 => first | assumption | ((try simp only [List.length_append, List.length_cons, List.length_nil, List.length_take]); omega)); intro r9 us9 c9 h9 tk9 F9 N9 ne9 I9; (replace ne9 := Mine.allNe_of ne9; (try simp only [Mine.AllNe, and_true] at ne9); (repeat (have hn9 := ne9.1; replace ne9 := ne9.2))); (try k_sweep); (try dsimp only); (try k_fold))))
  k_with "subscriptTail Name Slice ref ref" => (((with_reducible show wpAny _ _ (subscriptTail _ (PySem.Expr.Slice _ _ none _) (Value.ref _) (Value.ref _)) _ _ _); k_dflt (refine' kmk_slice_ints ?sF ?sN ?sl ?sp ?sq ?si ?sm ?sc ?_ ?ss ?st ?sz; (case sF => k_asm); (case sN => k_asm); (case sl => kmk_list); (case sp => kmk_part); (case sq => kmk_part); (case si => l_ints); (case sm => first | (with_reducible exact kmk_all (by assumption)) | (with_reducible exact kmk_upto (by assumption) (by first | assumption | walk_at "Om" | omega))); (case sc => exact rfl); (case ss => with_unfolding_all rfl); (case st => kmk_pure); (case sz => exact kmk_sz (by assumption) (by rw [sizeLine_eq]; omega)); intro D9 ws9 h9 F9 N9 l9 I9 C9 L9; (try k_lt l9); (try k_sweep))))
  k_with "BodyEndU" => (first
  | ((refine Mine.end_newU (by k_asm) (by k_asm) (by k_mem) (by k_mem) (by kst_allIn) (And.intro (by k_ne) (Mine.ne_allOf (by (simp only [Mine.AllNe, and_true]; (repeat' (refine And.intro ?_ ?_)) <;> first | assumption | k_ne)))) ?_))
  | ((refine Mine.end_valU (by k_asm) (by k_asm) (by k_mem) (by kst_allIn) ?_)))
  k_with "eval Call" => ((with_reducible show wpAny _ _ (eval (PySem.Expr.Call (PySem.Expr.Name _ _) (PySem.Expr.Name _ _ :: _) [] _) _) _ _ _); k_dflt (first | (refine' Mine.call_names ?zF ?zX ?zT ?ze ?zk ?za ?zz ?zx ?zd ?zh ?zp ?_; (case zx => exact rfl); (case zz => exact rfl); (case zF => k_asm); (case zX => k_asm); (case zT => k_asm); (case ze => k_is); (case zk => k_is); (case za => walk_at "EvAll"); (case zd => decide); (case zh => exact rfl); (case zp => exact rfl)) | (refine' Mine.call_namesB ?zF ?zX ?zT ?ze ?zv ?zn ?za ?zz ?zx ?zd ?zh ?zp ?_; (case zx => exact rfl); (case zz => exact rfl); (case zF => k_asm); (case zX => k_asm); (case zT => k_asm); (case ze => k_is); (case zv => boot_by_name); (case zn => decide); (case za => walk_at "EvAll"); (case zd => decide); (case zh => exact rfl); (case zp => exact rfl))))
  k_with "storeName" => (dsimp only; walk_at "storeName")
  first | (refine (id (α := let zA9 := _; let ze9 := _; let zg9 := _; let zd9 := _; let zo9 := _; wpAny _ zA9 (execs _ ze9) _ _ (Shared.mk _ zg9 zd9 _ zo9)) ?_); intro zA9 ze9 zg9 zd9 zo9) | skip
  k_steps
  all_goals (refine mul1_pure g0 hp ?_; assumption)

set_option maxRecDepth 100000 in
set_option maxHeartbeats 8000000 in
theorem mul2_c {w : World} {p : Program} {loose : List Str} {mean : ExcName → Option Value} {mg mb : Str → Option Value} {dp un : Nat} {gd : Option (List Code)} {cn : Str} {cs : Scope} {a : Addr} {ccd : Value} {cl : List (Str × Addr)} {outer : List Env} {A₀ : Around} {base h₀ : Heap} {L : Addr} {m : Str → Option Value} {news : List (Addr × Obj)} {s : Shared} {Q E : Value → Shared → Prop}
    (B : Below A₀ base outer h₀) (F : Fr h₀ L s.heap m) (X : (Mine.hd.heap_39 w.params).In h₀) (N : News h₀ L s.heap news) (T : Top p loose mean mg mb h₀) (hk : cs.kind = .function) (hd : dp + 2 < recursionLimit) (hu : un + 40 < cLine)
    {x y : Addr} {c d : Nat} {k : Int} {tw tu : Tok} {y0 y1 : Tok} {p0 p1 : Int} (g0 : 0 ≤ p0 ∧ p0 < 2 ^ k.toNat) (g1 : 0 ≤ p1 ∧ p1 < 2 ^ k.toNat) (hp : p1 ≠ 0) (hm : (x, listOf ([Value.int p0 y0, Value.int p1 y1] : List Value).toArray c) ∈ news) (hm2 : (y, listOf [Value.int 1 tu].toArray d) ∈ news) (h2 : 2 ≤ k) (h8 : k ≤ 8)
    (ret : ∀ r us c' h' tk', Fr h₀ L h' m → News h₀ L h' ((r, listOf us.toArray c') :: news) → (∀ q ∈ news, r ≠ q.1) → IntsAre us ([p0, p1]) → Q (.ref r) { s with heap := h', toks := tk' }) :
    wpAny (model PySem.Challenge.rw_pq0542_01.row.prog w) (ktrTop dp un gd cn cs L a ccd cl outer) (call (.ref 249) [Value.ref x, Value.ref y, Value.int k tw]) Q E s := by
  k_with_none
  k_with "Om" => (first | walk_at "MineRoom" | exact Int.natCast_nonneg _ | exact Mine.i_up (by with_reducible assumption) rfl | exact Mine.i_dn (by with_reducible assumption) rfl | exact Mine.i_lt (by with_reducible assumption) rfl | exact Mine.i_gt (by with_reducible assumption) rfl | exact Mine.n_up (by with_reducible assumption) rfl | exact Mine.n_eq (by with_reducible assumption) rfl | exact Mine.n_ge (by with_reducible assumption) rfl | exact Mine.sub0n)
  k_with "EvAll" => (first | exact Mine.EvAll.nil | exact Mine.evs_L (by k_asm) (by exact rfl) rfl rfl (by decide) (by walk_at "EvAll") | exact Mine.evs_C (by k_asm) (by exact rfl) (by k_mem) (by assumption) rfl rfl (by decide) (by walk_at "EvAll"))
  k_with "MineLt" => (first | ((repeat (first | exact Nat.lt_succ_self _ | refine Nat.lt_succ_of_lt ?_)); done) | ((repeat (refine Nat.lt_succ_of_lt ?_)); with_reducible assumption))
  k_with "MineLt2" => (refine Nat.lt_trans ?_ (by with_reducible assumption); walk_at "MineLt")
  k_with "MineRoom" => (k_whole; first | exact Mine.room1 (by with_reducible assumption) rfl | exact Mine.room2 (by with_reducible assumption) rfl | exact Mine.room3 (by with_reducible assumption) rfl | exact Mine.room4 (by with_reducible assumption) rfl | exact Mine.room5 (by with_reducible assumption) rfl | exact Mine.room0 (by with_reducible assumption))
  w_top off
  revert X; k_fill; intro X
  k_dflt (refine' call_r2 [(x, listOf ([Value.int p0 y0, Value.int p1 y1] : List Value).toArray c), (y, listOf [Value.int 1 tu].toArray d)] (OutI [p0, p1]) ?k1 ?k2 ?k3 ?k4 ?k5 ?ks ?kA ?kF ?kK ?k6 ?k7 ?k8 ?k9 ?kB ?kR (ps := [(Str.ofString "a", Value.ref x), (Str.ofString "b", Value.ref y), (Str.ofString "w", Value.int k tw)]) ?kP ?_ ?c2 ?c3 ?c4 ?c5; (case kA => exact rfl); (case kF => exact rfl); (case kK => assumption); (case k1 => k_asm); (case k2 => k_asm); (case k3 => k_asm); (case k4 => k_asm); (case k5 => k_asm); (case k6 => k_is); (case k7 => k_is); (case k8 => (show dp < recursionLimit; first | walk_at "MineRoom" | omega)); (case k9 => exact BindsTo.of_eq rfl); (case c5 => decide); (case kB => exact locs rfl); (case kP => kst_all); (case c2 => exact rfl); (case c3 => exact rfl); (case c4 => exact rfl))
  case ks => exact List.forall_mem_cons.mpr ⟨hm, List.forall_mem_cons.mpr ⟨hm2, List.forall_mem_nil _⟩⟩
  case kR =>
    rintro v new h' tk' F' N' hne ⟨r, us, c', rfl, rfl, hI⟩
    exact ret r us c' h' tk' F' N' (fun q hq => hne _ (.head _) q hq) hI
  clear B F X N T ret
  clear hm hm2
  intro g' L' h' u tk₁ F' N' B' X' T'
  (try dsimp only [kstB] at F')
  try dsimp only
  try k_fold
  have i0 : IntsAre [] [] := IntsAre.nil
  have kMark := kstMark
  k_with "execs cons" => ((with_reducible show wpAny _ _ (execs (PySem.Stmt.Assign [PySem.Expr.Name (PySem.Str.ofString "carry") _] _ _ :: PySem.Stmt.For _ _ _ _ _ :: _) _) _ _ _); (rename Fr _ _ _ _ => lF'); k_dflt (refine Mine.fr_gen [(Str.ofString "limb", _), (Str.ofString "at", _), (Str.ofString "found", _), (Str.ofString "mask", _), (Str.ofString "a", _), (Str.ofString "b", _), (Str.ofString "w", _)] lF' (List.forall_mem_cons.mpr ⟨rfl, List.forall_mem_cons.mpr ⟨rfl, List.forall_mem_cons.mpr ⟨rfl, List.forall_mem_cons.mpr ⟨rfl, List.forall_mem_cons.mpr ⟨rfl, List.forall_mem_cons.mpr ⟨rfl, List.forall_mem_cons.mpr ⟨rfl, List.forall_mem_nil _⟩⟩⟩⟩⟩⟩⟩) (fun u9 F8 => ?_)); clear lF'; (try dsimp only [kstB] at F8); (try dsimp only); (try k_fold); refine wpAny_execs_cons ?_; (try dsimp only))
  k_with "BodyEnd" => (k_dflt (first
  | ((refine Mine.end_new (by k_asm) (by k_asm) (by k_mem) (by kst_allIn) (by k_all) ?_); (refine Mine.outI ?_))
  | ((refine Mine.end_val (by k_asm) (by k_asm) (by kst_allIn) ?_))))
  k_with "call ref" => (((with_reducible show wpAny _ _ (call (Value.ref 46) _) _ _ _); k_dflt (refine' Mine.normal_c ?uB ?uF ?uX ?uN ?uT ?uk ?ud ?uu ?p0 ?p1 ?p2 ?_; (case uB => k_asm); (case uF => k_asm); (case uX => k_asm); (case uN => k_asm); (case uT => k_asm); (case uk => exact rfl); (case ud => ((try dsimp only [ktrTop, Around.deeper, callerA]); first | walk_at "MineRoom" | omega | decide)); (case uu => ((try dsimp only [ktrTop, Around.deeper, callerA]); first | walk_at "MineRoom" | omega | decide)); (case p0 => k_mem); (case p1 => l_ints); (case p2 => first | assumption | ((try simp only [List.length_append, List.length_cons, List.length_nil, List.length_take]); omega)); intro r9 us9 c9 h9 tk9 F9 N9 ne9 I9; (replace ne9 := Mine.allNe_of ne9; (try simp only [Mine.AllNe, and_true] at ne9); (repeat (have hn9 := ne9.1; replace ne9 := ne9.2))); (try k_sweep); (try dsimp only); (try k_fold))))
  k_with "subscriptTail Name Slice ref ref" => (((with_reducible show wpAny _ _ (subscriptTail _ (PySem.Expr.Slice _ _ none _) (Value.ref _) (Value.ref _)) _ _ _); k_dflt (refine' kmk_slice_ints ?sF ?sN ?sl ?sp ?sq ?si ?sm ?sc ?_ ?ss ?st ?sz; (case sF => k_asm); (case sN => k_asm); (case sl => kmk_list); (case sp => kmk_part); (case sq => kmk_part); (case si => l_ints); (case sm => first | (with_reducible exact kmk_all (by assumption)) | (with_reducible exact kmk_upto (by assumption) (by first | assumption | walk_at "Om" | omega))); (case sc => exact rfl); (case ss => with_unfolding_all rfl); (case st => kmk_pure); (case sz => exact kmk_sz (by assumption) (by rw [sizeLine_eq]; omega)); intro D9 ws9 h9 F9 N9 l9 I9 C9 L9; (try k_lt l9); (try k_sweep))))
  k_with "BodyEndU" => (first
  | ((refine Mine.end_newU (by k_asm) (by k_asm) (by k_mem) (by k_mem) (by kst_allIn) (And.intro (by k_ne) (Mine.ne_allOf (by (simp only [Mine.AllNe, and_true]; (repeat' (refine And.intro ?_ ?_)) <;> first | assumption | k_ne)))) ?_))
  | ((refine Mine.end_valU (by k_asm) (by k_asm) (by k_mem) (by kst_allIn) ?_)))
  k_with "eval Call" => ((with_reducible show wpAny _ _ (eval (PySem.Expr.Call (PySem.Expr.Name _ _) (PySem.Expr.Name _ _ :: _) [] _) _) _ _ _); k_dflt (first | (refine' Mine.call_names ?zF ?zX ?zT ?ze ?zk ?za ?zz ?zx ?zd ?zh ?zp ?_; (case zx => exact rfl); (case zz => exact rfl); (case zF => k_asm); (case zX => k_asm); (case zT => k_asm); (case ze => k_is); (case zk => k_is); (case za => walk_at "EvAll"); (case zd => decide); (case zh => exact rfl); (case zp => exact rfl)) | (refine' Mine.call_namesB ?zF ?zX ?zT ?ze ?zv ?zn ?za ?zz ?zx ?zd ?zh ?zp ?_; (case zx => exact rfl); (case zz => exact rfl); (case zF => k_asm); (case zX => k_asm); (case zT => k_asm); (case ze => k_is); (case zv => boot_by_name); (case zn => decide); (case za => walk_at "EvAll"); (case zd => decide); (case zh => exact rfl); (case zp => exact rfl))))
  k_with "storeName" => (dsimp only; walk_at "storeName")
  first | (refine (id (α := let zA9 := _; let ze9 := _; let zg9 := _; let zd9 := _; let zo9 := _; wpAny _ zA9 (execs _ ze9) _ _ (Shared.mk _ zg9 zd9 _ zo9)) ?_); intro zA9 ze9 zg9 zd9 zo9) | skip
  k_steps
  all_goals (refine mul2_pure g0 g1 hp ?_; assumption)

end Mine
end

section
open PySem PySem.W PySem.Spec PySem.Calls PyProof.Rows

namespace Mine
theorem mula_c {w : World} {p : Program} {loose : List Str} {mean : ExcName → Option Value} {mg mb : Str → Option Value} {dp un : Nat} {gd : Option (List Code)} {cn : Str} {cs : Scope} {a : Addr} {ccd : Value} {cl : List (Str × Addr)} {outer : List Env} {A₀ : Around} {base h₀ : Heap} {L : Addr} {m : Str → Option Value} {news : List (Addr × Obj)} {s : Shared} {Q E : Value → Shared → Prop}
    (B : Below A₀ base outer h₀) (F : Fr h₀ L s.heap m) (X : (Mine.hd.heap_39 w.params).In h₀) (N : News h₀ L s.heap news) (T : Top p loose mean mg mb h₀) (hk : cs.kind = .function) (hd : dp + 2 < recursionLimit) (hu : un + 40 < cLine)
    {x y : Addr} {vs ub : List Value} {c d : Nat} {k t : Int} {tw : Tok} (hm : (x, listOf vs.toArray c) ∈ news) (hm2 : (y, listOf ub.toArray d) ∈ news) (hi : IntsAre vs (limbsZ k t)) (hj : IntsAre ub [1]) (h2 : 2 ≤ k) (h8 : k ≤ 8) (t0 : 0 ≤ t) (t9 : t < 8)
    (ret : ∀ r us c' h' tk', Fr h₀ L h' m → News h₀ L h' ((r, listOf us.toArray c') :: news) → (∀ q ∈ news, r ≠ q.1) → IntsAre us (limbsZ k t) → Q (.ref r) { s with heap := h', toks := tk' }) :
    wpAny (model PySem.Challenge.rw_pq0542_01.row.prog w) (ktrTop dp un gd cn cs L a ccd cl outer) (call (.ref 249) [Value.ref x, Value.ref y, Value.int k tw]) Q E s := by
  obtain ⟨tu, rfl⟩ := ints_one hj
  rcases limbs_three h2 t0 t9 with ⟨_, e⟩ | ⟨a1, a2, e⟩ | ⟨a1, a2, a3, a4, e⟩
  · rw [e] at hi ret
    have e9 := IntsAre.nil_inv hi
    subst e9
    exact mul0_c B F X N T hk hd hu hm hm2 h2 h8 ret
  · rw [e] at hi ret
    obtain ⟨y0, rfl⟩ := ints_one hi
    exact mul1_c B F X N T hk hd hu ⟨by omega, a2⟩ (by omega) hm hm2 h2 h8 ret
  · rw [e] at hi ret
    generalize t % 2 ^ k.toNat = p0 at *
    generalize t / 2 ^ k.toNat = p1 at *
    cases hi with
    | cons _ y0 hi =>
      obtain ⟨y1, rfl⟩ := ints_one hi
      exact mul2_c B F X N T hk hd hu ⟨a3, a4⟩ ⟨by omega, a2⟩ (by omega) hm hm2 h2 h8 ret
end Mine
end

section
open PySem PySem.W PySem.Spec PySem.Calls PyProof.Rows

namespace Mine
set_option maxRecDepth 100000 in
set_option maxHeartbeats 8000000 in
theorem btail_c {w : World} {p' : Program} {loose : List Str} {mean : ExcName → Option Value} {mg mb u : Str → Option Value} {dp un : Nat} {gd : Option (List Code)} {cn : Str} {cs : Scope} {a L' : Addr} {ccd : Value} {cl : List (Str × Addr)} {outer : List Env} {base g' : Heap} {L : Addr} {s0 : Shared} {hs : Heap} {tks : Nat}
    {name qual : Str} {params : Arguments} {body st : List Stmt} {scope : Scope} {dV kV doc pm cdv ct oc : Value} {an od : Option Addr} {osl : Array (Option Value)}
    (ho : (Mine.hd.heap_39 w.params).lookup 280 = some ⟨oc, od, .func (fnOf name qual params body scope dV kV doc pm an cdv ct), osl⟩) (hst : body.drop 6 = st)
    (B' : Below (ktrTop dp un gd cn cs L a ccd cl outer) base (envX cn cs L a ccd cl :: outer) g') (X : (Mine.hd.heap_39 w.params).In g') (T' : Top p' loose mean mg mb g') (hk : cs.kind = .function) (hd : dp + 10 < recursionLimit) (hu : un + 200 < cLine)
    {x D8 : Addr} {c c8 : Nat} {vs ys8 : List Value} {T : List Int} {k b n p : Int} {tw tb t9 tm : Tok} {o1 o2 o3 o4 o5 : Obj}
    (F' : Fr g' L' hs (kstB u [(Str.ofString "size", .int n t9), (Str.ofString "many", .int 0 tm)]))
    (N' : News g' L' hs [(D8, listOf ys8.toArray c8), (L' + 1 + 1 + 1 + 1 + 1, o5), (L' + 1 + 1 + 1 + 1, o4), (L' + 1 + 1 + 1, o3), (L' + 1 + 1, o2), (L' + 1, o1), (x, listOf vs.toArray c)])
    (d5 : o5.data = .cell (some (.ref D8))) (d3 : o3.data = .cell (some (.int b tb))) (d2 : o2.data = .cell (some (.int k tw)))
    (hq5 : @Ne Nat (L' + 1 + 1 + 1 + 1 + 1) D8) (hq4 : @Ne Nat (L' + 1 + 1 + 1 + 1) D8) (hq3 : @Ne Nat (L' + 1 + 1 + 1) D8) (hq2 : @Ne Nat (L' + 1 + 1) D8) (hq1 : @Ne Nat (L' + 1) D8) (hq0 : @Ne Nat x D8) (hx : x < L') (hI0 : IntsAre ys8 T) (kT : ∀ t ∈ T, 0 ≤ t ∧ t < p) (kP : 1 ≤ T.length) (kL : T.length ≤ 100) (h2 : 2 ≤ k) (h8 : k ≤ 8)
    (hb1 : 1 ≤ b) (hb9 : b ≤ 60) (n1 : 1 ≤ n) (n6 : n ≤ 6) (hbp : b ≤ p) (hp9 : p ≤ 64) (hbl : 0 < (limbsZ k b).length) (hbL : (limbsZ k b).length ≤ 100) (hms : subZ k (limbsZ k b) [1] = limbsZ k (b - 1)) (hml : (limbsZ k (b - 1)).length ≤ 200) (hbit : bitsZ k (limbsZ k (b - 1)) = n) (hc1 : 0 ≤ cmpZ (limbsZ k b) [1]) (hFacts : ∀ t, 0 ≤ t → t < p → LimbOk k n t)
    (hcmp : ∀ t, 0 ≤ t → t < p → (cmpZ (limbsZ k t) (limbsZ k b) < 0 ↔ t < b)) (hsub : ∀ t, b ≤ t → t < p → subZ k (limbsZ k t) (limbsZ k b) = limbsZ k (t - b)) :
    wpAny (model PySem.Challenge.rw_pq0542_01.row.prog w) ((ktrTop dp un gd cn cs L a ccd cl outer).deeper (envOfC qual scope L' 280 cdv)) (execs st (envOfC qual scope L' 280 cdv)) (fun fl s' => BodyEnd g' [(x, listOf vs.toArray c)] OutT (match fl with | .ret v => v | _ => .none) s0 s') (fun _ _ => False) { s0 with heap := hs, toks := tks } := by
  k_with_none
  k_with "Om" => (first | walk_at "MineRoom" | exact Int.natCast_nonneg _ | exact Mine.i_up (by with_reducible assumption) rfl | exact Mine.i_dn (by with_reducible assumption) rfl | exact Mine.i_lt (by with_reducible assumption) rfl | exact Mine.i_gt (by with_reducible assumption) rfl | exact Mine.n_up (by with_reducible assumption) rfl | exact Mine.n_eq (by with_reducible assumption) rfl | exact Mine.n_ge (by with_reducible assumption) rfl | exact Mine.sub0n)
  k_with "EvAll" => (first | exact Mine.EvAll.nil | exact Mine.evs_L (by k_asm) (by exact rfl) rfl rfl (by decide) (by walk_at "EvAll") | exact Mine.evs_C (by k_asm) (by exact rfl) (by k_mem) (by assumption) rfl rfl (by decide) (by walk_at "EvAll"))
  k_with "MineLt" => (first | ((repeat (first | exact Nat.lt_succ_self _ | refine Nat.lt_succ_of_lt ?_)); done) | ((repeat (refine Nat.lt_succ_of_lt ?_)); with_reducible assumption))
  k_with "MineLt2" => (refine Nat.lt_trans ?_ (by with_reducible assumption); walk_at "MineLt")
  k_with "MineRoom" => (k_whole; first | exact Mine.room1 (by with_reducible assumption) rfl | exact Mine.room2 (by with_reducible assumption) rfl | exact Mine.room3 (by with_reducible assumption) rfl | exact Mine.room4 (by with_reducible assumption) rfl | exact Mine.room5 (by with_reducible assumption) rfl | exact Mine.room0 (by with_reducible assumption))
  w_top off
  revert X; k_fill; intro X
  subst hst
  k_dflt (refine' tail_of (P := fun qual scope body cdv => wpAny (model PySem.Challenge.rw_pq0542_01.row.prog w) ((ktrTop dp un gd cn cs L a ccd cl outer).deeper (envOfC qual scope L' 280 cdv)) (execs (body.drop 6) (envOfC qual scope L' 280 cdv)) (fun fl s' => BodyEnd g' [(x, listOf vs.toArray c)] OutT (match fl with | .ret v => v | _ => .none) s0 s') (fun _ _ => False) { s0 with heap := hs, toks := tks }) ho ?e ?h; (case e => k_is))
  all_goals try dsimp only [List.drop]

  have kMark := kstMark
  have hmx : (if 1 > n then (1 : Int) else n) = n := if_neg (by omega)
  try k_fold
  k_with "call builtin:len" => ((with_reducible show wpAny _ _ (call (Value.builtin _) [Value.ref D6]) _ _ _); refine PySem.Calls.call_len_list (News.isList (by k_asm) (by k_mem)) (by simp only [List.size_toArray]; omega) ?_)
  k_with "call ref" => rw [hmx]
  k_with "call ref" => ((with_reducible show wpAny _ _ (call (Value.ref 200) _) _ _ _); k_dflt (refine' Mine.rbelow_c (rows := rows) (fl := fun j => limbsZ k (drawn T j)) (bs := limbsZ k b) (ms := limbsZ k (b - 1)) (n := n) (at0 := 0) ?uB ?uF ?uX ?uN ?uT ?uk ?ud ?uu ?p0 ?p1 ?p2 ?p3 ?p4 ?p5 ?p6 ?p7 ?p8 ?p9 ?p10 ?p11 ?p12 ?p13 ?p14 ?p15 ?p16 ?p17 ?p18 ?p19 ?p20 ?p21 ?p22 ?p23 ?p24 ?p25 ?_; (case uB => k_asm); (case uF => k_asm); (case uX => k_asm); (case uN => k_asm); (case uT => k_asm); (case uk => exact rfl); (case ud => ((try dsimp only [ktrTop, Around.deeper, callerA]); first | walk_at "MineRoom" | omega | decide)); (case uu => ((try dsimp only [ktrTop, Around.deeper, callerA]); first | walk_at "MineRoom" | omega | decide)); (case p1 => k_mem); (case p0 => k_updF); (case p2 => k_mem); (case p3 => k_mem); (case p4 => (intro q9 hq9; kst_mem)); (case p5 => k_ne); (case p6 => k_ne); (case p7 => k_ne); (case p8 => exact ownOff1 (by k_all)); (case p9 => assumption); (case p10 => first | assumption | walk_at "Om" | omega); (case p11 => first | assumption | walk_at "Om" | omega); (case p12 => first | assumption | walk_at "Om" | omega); (case p13 => first | assumption | walk_at "Om" | omega); (case p14 => first | assumption | walk_at "Om" | omega); (case p15 => first | assumption | walk_at "Om" | omega); (case p16 => first | assumption | walk_at "Om" | omega); (case p17 => first | assumption | walk_at "Om" | omega); (case p18 => first | assumption | walk_at "Om" | omega); (case p19 => decide); (case p20 => exact hT6); (case p21 => exact hF6); (case p22 => assumption); (case p23 => first | assumption | walk_at "Om" | omega); (case p24 => assumption); (case p25 => assumption); intro r9 us9 c9 res9 a9 tb9 h9 tk9 F9 N9 ne9 I9 P9; (try dsimp only at N9 ne9); (replace ne9 := Mine.allNe_of ne9; (try simp only [Mine.AllNe, and_true] at ne9); (repeat (have hn9 := ne9.1; replace ne9 := ne9.2))); obtain ⟨v9, hv9, hv0, hvp, hpk⟩ := picked_num (drawn_in kT (by omega)) hb1 hcmp hsub P9; subst hv9; (try k_sweep); (try dsimp only); (try k_fold)))
  k_with "subscriptTail Name BinOp ref int" => (k_here; k_dflt (with_unfolding_all refine' item_ints ?k1 ?k2 hI0 hq7.1 hq7.2 ?k3 ?k4 ?k5; (case k1 => k_asm); (case k2 => k_mem); (case k3 => first | walk_at "Om" | omega); (case k5 => with_unfolding_all rfl); (case' k4 => intro ti7)))
  k_with "call ref" => ((with_reducible show wpAny _ _ (call (Value.ref 261) _) _ _ _); k_dflt (refine' Mine.worth_c ?uB ?uF ?uX ?uN ?uT ?uk ?ud ?uu ?p0 ?p1 ?p2 ?p3 ?p4 ?p5 ?_; (case uB => k_asm); (case uF => k_asm); (case uX => k_asm); (case uN => k_asm); (case uT => k_asm); (case uk => exact rfl); (case ud => ((try dsimp only [ktrTop, Around.deeper, callerA]); first | walk_at "MineRoom" | omega | decide)); (case uu => ((try dsimp only [ktrTop, Around.deeper, callerA]); first | walk_at "MineRoom" | omega | decide)); (case p5 => k_mem); (case p0 => assumption); (case p1 => exact (hFacts _ hv0 hvp).len); (case p2 => first | assumption | walk_at "Om" | omega); (case p3 => first | assumption | walk_at "Om" | omega); (case p4 => exact (hFacts _ hv0 hvp).dig); intro t9 h9 tk9 F9 N9; rw [(hFacts _ hv0 hvp).worth]; (try k_sweep); (try dsimp only); (try k_fold)))
  k_with "exec While BoolOp cons nil" => k_dflt ((rename Fr _ _ _ _ => lF'); (rename News _ _ _ _ => lN'); (with_unfolding_all refine' ksw_while (σ := Option (Int × Tok) × Int × Tok) (fun _ => _) (fun c => [(Str.ofString "due", dueV c.1), (Str.ofString "many", .int c.2.1 c.2.2)]) (fun _ => True) [Str.ofString "here"] (fun c => LawInv (drawn T) b c.1 c.2.1) (fun c => dueM c.1 c.2.1) (none, 0, _) lF' lN' True.intro ?kk ?kp ?kt); (case kk => kst_all); (case kp => exact law_start); (case' kt => (clear lF' lN'; intro c u7 h7 tk7 hf7 hP7 F7 N7; obtain ⟨dd7, many7, tm7⟩ := c; dsimp only at hP7 F7 N7; have hm7 := hP7.1; have hq7 := @fmod_in many7 T.length hm7 (by omega); rcases dd7 with _ | ⟨d7, td7⟩; all_goals first | (obtain ⟨rfl, rfl⟩ := hpk.unique hP7.2; (try dsimp only [dueV] at F7); (try k_fold)) | (have hn7 := hP7.2.1; (try dsimp only [dueV] at F7); (try k_fold)))))
  k_with "KswEnd" => k_dflt ((rename News _ _ _ _ => nE'); first
    | (refine' ksw_end (some (_, _), _, _) ?q1 nE' (fun _ h9 => h9) True.intro ?q2 ?q3 ?q4 ?q5; (case q4 => exact law_yes hP7 (by assumption)); (case q1 => assumption); (case q2 => (dsimp only [dueV]; refine List.forall_mem_cons.mpr ⟨?_, List.forall_mem_cons.mpr ⟨?_, List.forall_mem_nil _⟩⟩; all_goals (dsimp only; first | exact if_pos rfl | exact (if_neg (by decide)).trans (if_pos rfl) | (with_unfolding_all rfl)))); (case q3 => (intro z h2 h3; have hd := h2 _ (List.Mem.head _); have hm := h2 _ (List.Mem.tail _ (List.Mem.head _)); have hh : z ≠ Str.ofString "here" := (by intro e; rw [e] at h3; simp at h3); dsimp only at hd hm ⊢; simp only [kstB, hd, hm, hh, h3, if_false, Bool.false_eq_true])); (case q5 => exact due_less1 hm7 hn7))
    | (refine' ksw_end (some (_, _), _, _) ?q1 nE' (fun _ h9 => h9) True.intro ?q2 ?q3 ?q4 ?q5; (case q4 => exact law_last hP7 (by assumption) (by assumption)); (case q1 => assumption); (case q2 => (dsimp only [dueV]; refine List.forall_mem_cons.mpr ⟨?_, List.forall_mem_cons.mpr ⟨?_, List.forall_mem_nil _⟩⟩; all_goals (dsimp only; first | exact if_pos rfl | exact (if_neg (by decide)).trans (if_pos rfl) | (with_unfolding_all rfl)))); (case q3 => (intro z h2 h3; have hd := h2 _ (List.Mem.head _); have hm := h2 _ (List.Mem.tail _ (List.Mem.head _)); have hh : z ≠ Str.ofString "here" := (by intro e; rw [e] at h3; simp at h3); dsimp only at hd hm ⊢; simp only [kstB, hd, hm, hh, h3, if_false, Bool.false_eq_true])); (case q5 => exact due_less1 hm7 hn7))
    | (refine' ksw_end (none, _, _) ?q1 nE' (fun _ h9 => h9) True.intro ?q2 ?q3 ?q4 ?q5; (case q4 => exact law_no hP7 (by assumption) (by assumption)); (case q1 => assumption); (case q2 => (dsimp only [dueV]; refine List.forall_mem_cons.mpr ⟨?_, List.forall_mem_cons.mpr ⟨?_, List.forall_mem_nil _⟩⟩; all_goals (dsimp only; first | exact if_pos rfl | exact (if_neg (by decide)).trans (if_pos rfl) | (with_unfolding_all rfl)))); (case q3 => (intro z h2 h3; have hd := h2 _ (List.Mem.head _); have hm := h2 _ (List.Mem.tail _ (List.Mem.head _)); have hh : z ≠ Str.ofString "here" := (by intro e; rw [e] at h3; simp at h3); dsimp only at hd hm ⊢; simp only [kstB, hd, hm, hh, h3, if_false, Bool.false_eq_true])); (case q5 => exact due_less2 hm7 hn7)))
  k_with "call ref" => ((with_reducible show wpAny _ _ (call (Value.ref 256) _) _ _ _); k_dflt (refine' Mine.limbs_c ?uB ?uF ?uX ?uN ?uT ?uk ?ud ?uu ?p0 ?p1 ?p2 ?p3 ?_; (case uB => k_asm); (case uF => k_asm); (case uX => k_asm); (case uN => k_asm); (case uT => k_asm); (case uk => exact rfl); (case ud => ((try dsimp only [ktrTop, Around.deeper, callerA]); first | walk_at "MineRoom" | omega | decide)); (case uu => ((try dsimp only [ktrTop, Around.deeper, callerA]); first | walk_at "MineRoom" | omega | decide)); (case p0 => first | assumption | walk_at "Om" | omega); (case p1 => first | assumption | walk_at "Om" | omega); (case p2 => first | assumption | walk_at "Om" | omega); (case p3 => first | assumption | walk_at "Om" | omega); intro r9 us9 c9 h9 tk9 F9 N9 ne9 I9; (replace ne9 := Mine.allNe_of ne9; (try simp only [Mine.AllNe, and_true] at ne9); (repeat (have hn9 := ne9.1; replace ne9 := ne9.2))); (try k_sweep); (try dsimp only); (try k_fold)))
  k_with "eval ListComp" => (k_here; (with_reducible show wpAny _ _ (eval (PySem.Expr.ListComp (PySem.Expr.Call _ _ _ _) _ _ _) _) _ _ _); k_dflt (refine' comp_rows (limbsZ k) ?e1 ?e2 ?e4 ?e5 ?e6 ?e7 ?e8 ?e9 ?_; (case e1 => k_asm); (case e2 => k_asm); (case e4 => rfl); (case e5 => with_unfolding_all rfl); (case e6 => decide); (case e7 => rfl); (case e8 => decide); (case e9 => rfl)))
  k_with "RowSrc" => k_dflt (refine ⟨_, _, _, T, rfl, by k_mem, hI0, by omega, by k_asm, by k_asm, ?_, (fun hI0 => ?_)⟩)
  k_with "RowTurn" => (unfold RowTurn; intro z8 t8 C8 oC8 m8 h7 tk8 E8 led8 hz8 hC8 hx8 F8 N8 hm8 hsub8; have hz9 := kT z8 hz8; simp only [List.forall_mem_cons, List.forall_mem_nil, and_true] at hsub8; (repeat (have hn9 := hsub8.1; replace hsub8 := hsub8.2)))
  k_with "RowEnd" => exact ⟨_, _, _, _, _, rfl, rfl, by k_asm, by k_asm, ne_allOf (by assumption), by assumption⟩
  k_with "RowFin" => (unfold RowFin; intro D6 ys6 rows c6 h6 tk6 hR6 hO6 F6 N6 hne6; have hl6 := hR6.length; have hs6 : 0 < ys6.toArray.size := (by rw [List.size_toArray]; omega); have hT6 : ∀ j : Nat, ∃ a vs c, ys6[(((0 : Int) + (j : Int)).fmod (ys6.length : Int)).toNat]? = some (Value.ref a) ∧ (a, listOf vs.toArray c) ∈ rows ∧ IntsAre vs (limbsZ k (drawn T j)) := (fun j => (by rw [Int.zero_add, hl6]; have h9 := @fmod_in (j : Int) T.length (by omega) (by omega); exact hR6.get (by omega))); have hF6 := (fun j : Nat => (hFacts (drawn T j) (drawn_in kT (by omega) j).1 (drawn_in kT (by omega) j).2).five); simp only [List.cons_append, List.nil_append] at N6 hne6; simp only [List.map_cons, List.map_nil] at hO6; (replace hne6 := Mine.allNe_of hne6); simp only [Mine.AllNe, and_true] at hne6; (repeat (have hn9 := hne6.1; replace hne6 := hne6.2)); (try dsimp only))
  k_with "BodyEnd" => (k_dflt (first
  | ((refine Mine.end_new (by k_asm) (by k_asm) (by k_mem) (by kst_allIn) (by k_all) ?_); (refine Mine.outI ?_))
  | ((refine Mine.end_val (by k_asm) (by k_asm) (by kst_allIn) ?_))))
  k_with "subscriptTail Name Slice ref ref" => (((with_reducible show wpAny _ _ (subscriptTail _ (PySem.Expr.Slice _ _ none _) (Value.ref _) (Value.ref _)) _ _ _); k_dflt (refine' kmk_slice_ints ?sF ?sN ?sl ?sp ?sq ?si ?sm ?sc ?_ ?ss ?st ?sz; (case sF => k_asm); (case sN => k_asm); (case sl => kmk_list); (case sp => kmk_part); (case sq => kmk_part); (case si => l_ints); (case sm => first | (with_reducible exact kmk_all (by assumption)) | (with_reducible exact kmk_upto (by assumption) (by first | assumption | walk_at "Om" | omega))); (case sc => exact rfl); (case ss => with_unfolding_all rfl); (case st => kmk_pure); (case sz => exact kmk_sz (by assumption) (by rw [sizeLine_eq]; omega)); intro D9 ws9 h9 F9 N9 l9 I9 C9 L9; (try k_lt l9); (try k_sweep))))
  k_with "BodyEndU" => (first
  | ((refine Mine.end_newU (by k_asm) (by k_asm) (by k_mem) (by k_mem) (by kst_allIn) (And.intro (by k_ne) (Mine.ne_allOf (by (simp only [Mine.AllNe, and_true]; (repeat' (refine And.intro ?_ ?_)) <;> first | assumption | k_ne)))) ?_))
  | ((refine Mine.end_valU (by k_asm) (by k_asm) (by k_mem) (by kst_allIn) ?_)))
  k_with "eval Call" => ((with_reducible show wpAny _ _ (eval (PySem.Expr.Call (PySem.Expr.Name _ _) (PySem.Expr.Name _ _ :: _) [] _) _) _ _ _); k_dflt (first | (refine' Mine.call_names ?zF ?zX ?zT ?ze ?zk ?za ?zz ?zx ?zd ?zh ?zp ?_; (case zx => exact rfl); (case zz => exact rfl); (case zF => k_asm); (case zX => k_asm); (case zT => k_asm); (case ze => k_is); (case zk => k_is); (case za => walk_at "EvAll"); (case zd => decide); (case zh => exact rfl); (case zp => exact rfl)) | (refine' Mine.call_namesB ?zF ?zX ?zT ?ze ?zv ?zn ?za ?zz ?zx ?zd ?zh ?zp ?_; (case zx => exact rfl); (case zz => exact rfl); (case zF => k_asm); (case zX => k_asm); (case zT => k_asm); (case ze => k_is); (case zv => boot_by_name); (case zn => decide); (case za => walk_at "EvAll"); (case zd => decide); (case zh => exact rfl); (case zp => exact rfl))))
  k_with "storeName" => (dsimp only; walk_at "storeName")
  first | (refine (id (α := let zA9 := _; let ze9 := _; let zg9 := _; let zd9 := _; let zo9 := _; wpAny _ zA9 (execs _ ze9) _ _ (Shared.mk _ zg9 zd9 _ zo9)) ?_); intro zA9 ze9 zg9 zd9 zo9) | skip
  k_steps
  all_goals first | exact outT | exact ⟨rfl, congrArg Value.bool (beq_self_eq_true _)⟩ | (exfalso; omega)
end Mine
end

section
open PySem PySem.W PySem.Spec PySem.Calls PyProof.Rows

namespace Mine
set_option maxRecDepth 100000 in
set_option maxHeartbeats 8000000 in
theorem btail0_c {w : World} {p' : Program} {loose : List Str} {mean : ExcName → Option Value} {mg mb u : Str → Option Value} {dp un : Nat} {gd : Option (List Code)} {cn : Str} {cs : Scope} {a L' : Addr} {ccd : Value} {cl : List (Str × Addr)} {outer : List Env} {base g' : Heap} {L : Addr} {s0 : Shared} {hs : Heap} {tks : Nat}
    {name qual : Str} {params : Arguments} {body st : List Stmt} {scope : Scope} {dV kV doc pm cdv ct oc : Value} {an od : Option Addr} {osl : Array (Option Value)}
    (ho : (Mine.hd.heap_39 w.params).lookup 280 = some ⟨oc, od, .func (fnOf name qual params body scope dV kV doc pm an cdv ct), osl⟩) (hst : body.drop 6 = st)
    (B' : Below (ktrTop dp un gd cn cs L a ccd cl outer) base (envX cn cs L a ccd cl :: outer) g') (X : (Mine.hd.heap_39 w.params).In g') (T' : Top p' loose mean mg mb g') (hk : cs.kind = .function) (hd : dp + 10 < recursionLimit) (hu : un + 200 < cLine)
    {x D8 : Addr} {c c8 : Nat} {vs ys8 : List Value} {T : List Int} {k p : Int} {tw tb t9 tm : Tok} {o1 o2 o3 o4 o5 : Obj}
    (F' : Fr g' L' hs (kstB u [(Str.ofString "size", .int 0 t9), (Str.ofString "many", .int 0 tm)]))
    (N' : News g' L' hs [(D8, listOf ys8.toArray c8), (L' + 1 + 1 + 1 + 1 + 1, o5), (L' + 1 + 1 + 1 + 1, o4), (L' + 1 + 1 + 1, o3), (L' + 1 + 1, o2), (L' + 1, o1), (x, listOf vs.toArray c)])
    (d5 : o5.data = .cell (some (.ref D8))) (d3 : o3.data = .cell (some (.int 1 tb))) (d2 : o2.data = .cell (some (.int k tw)))
    (hq5 : @Ne Nat (L' + 1 + 1 + 1 + 1 + 1) D8) (hq4 : @Ne Nat (L' + 1 + 1 + 1 + 1) D8) (hq3 : @Ne Nat (L' + 1 + 1 + 1) D8) (hq2 : @Ne Nat (L' + 1 + 1) D8) (hq1 : @Ne Nat (L' + 1) D8) (hq0 : @Ne Nat x D8) (hx : x < L') (hI0 : IntsAre ys8 T) (kT : ∀ t ∈ T, 0 ≤ t ∧ t < p) (kP : 1 ≤ T.length) (kL : T.length ≤ 100) (h2 : 2 ≤ k) (h8 : k ≤ 8)
    (hp1 : p = 1) :
    wpAny (model PySem.Challenge.rw_pq0542_01.row.prog w) ((ktrTop dp un gd cn cs L a ccd cl outer).deeper (envOfC qual scope L' 280 cdv)) (execs st (envOfC qual scope L' 280 cdv)) (fun fl s' => BodyEnd g' [(x, listOf vs.toArray c)] OutT (match fl with | .ret v => v | _ => .none) s0 s') (fun _ _ => False) { s0 with heap := hs, toks := tks } := by
  k_with_none
  k_with "Om" => (first | walk_at "MineRoom" | exact Int.natCast_nonneg _ | exact Mine.i_up (by with_reducible assumption) rfl | exact Mine.i_dn (by with_reducible assumption) rfl | exact Mine.i_lt (by with_reducible assumption) rfl | exact Mine.i_gt (by with_reducible assumption) rfl | exact Mine.n_up (by with_reducible assumption) rfl | exact Mine.n_eq (by with_reducible assumption) rfl | exact Mine.n_ge (by with_reducible assumption) rfl | exact Mine.sub0n)
  k_with "EvAll" => (first | exact Mine.EvAll.nil | exact Mine.evs_L (by k_asm) (by exact rfl) rfl rfl (by decide) (by walk_at "EvAll") | exact Mine.evs_C (by k_asm) (by exact rfl) (by k_mem) (by assumption) rfl rfl (by decide) (by walk_at "EvAll"))
  k_with "MineLt" => (first | ((repeat (first | exact Nat.lt_succ_self _ | refine Nat.lt_succ_of_lt ?_)); done) | ((repeat (refine Nat.lt_succ_of_lt ?_)); with_reducible assumption))
  k_with "MineLt2" => (refine Nat.lt_trans ?_ (by with_reducible assumption); walk_at "MineLt")
  k_with "MineRoom" => (k_whole; first | exact Mine.room1 (by with_reducible assumption) rfl | exact Mine.room2 (by with_reducible assumption) rfl | exact Mine.room3 (by with_reducible assumption) rfl | exact Mine.room4 (by with_reducible assumption) rfl | exact Mine.room5 (by with_reducible assumption) rfl | exact Mine.room0 (by with_reducible assumption))
  w_top off
  revert X; k_fill; intro X
  subst hst
  k_dflt (refine' tail_of (P := fun qual scope body cdv => wpAny (model PySem.Challenge.rw_pq0542_01.row.prog w) ((ktrTop dp un gd cn cs L a ccd cl outer).deeper (envOfC qual scope L' 280 cdv)) (execs (body.drop 6) (envOfC qual scope L' 280 cdv)) (fun fl s' => BodyEnd g' [(x, listOf vs.toArray c)] OutT (match fl with | .ret v => v | _ => .none) s0 s') (fun _ _ => False) { s0 with heap := hs, toks := tks }) ho ?e ?h; (case e => k_is))
  all_goals try dsimp only [List.drop]

  have kMark := kstMark
  try k_fold
  k_with "call builtin:len" => ((with_reducible show wpAny _ _ (call (Value.builtin _) [Value.ref D6]) _ _ _); refine PySem.Calls.call_len_list (News.isList (by k_asm) (by k_mem)) (by simp only [List.size_toArray]; omega) ?_)
  k_with "call ref" => ((with_reducible show wpAny _ _ (call (Value.ref 200) _) _ _ _); k_dflt (refine' Mine.rbelow0_c ?uB ?uF ?uX ?uN ?uT ?uk ?ud ?uu ?p0 ?p1 ?p2 ?p3 ?p4 ?_; (case uB => k_asm); (case uF => k_asm); (case uX => k_asm); (case uN => k_asm); (case uT => k_asm); (case uk => exact rfl); (case ud => ((try dsimp only [ktrTop, Around.deeper, callerA]); first | walk_at "MineRoom" | omega | decide)); (case uu => ((try dsimp only [ktrTop, Around.deeper, callerA]); first | walk_at "MineRoom" | omega | decide)); (case p0 => k_mem); (case p1 => assumption); (case p2 => first | assumption | walk_at "Om" | omega); (case p3 => first | assumption | walk_at "Om" | omega); (case p4 => exact (by rw [← limbs_one h2]; rw [subZ_limbs h2 (by decide) (by decide) (by decide)]; exact limbs_zero (by decide))); intro r9 us9 c9 h9 tk9 F9 N9 ne9 I9; (replace ne9 := Mine.allNe_of ne9; (try simp only [Mine.AllNe, and_true] at ne9); (repeat (have hn9 := ne9.1; replace ne9 := ne9.2))); (try k_sweep); (try dsimp only); (try k_fold)))
  k_with "call ref" => ((with_reducible show wpAny _ _ (call (Value.ref 261) _) _ _ _); k_dflt (refine' Mine.worth_c ?uB ?uF ?uX ?uN ?uT ?uk ?ud ?uu ?p0 ?p1 ?p2 ?p3 ?p4 ?p5 ?_; (case uB => k_asm); (case uF => k_asm); (case uX => k_asm); (case uN => k_asm); (case uT => k_asm); (case uk => exact rfl); (case ud => ((try dsimp only [ktrTop, Around.deeper, callerA]); first | walk_at "MineRoom" | omega | decide)); (case uu => ((try dsimp only [ktrTop, Around.deeper, callerA]); first | walk_at "MineRoom" | omega | decide)); (case p5 => k_mem); (case p0 => assumption); (case p1 => decide); (case p2 => first | assumption | walk_at "Om" | omega); (case p3 => first | assumption | walk_at "Om" | omega); (case p4 => (intro z hz; cases hz)); intro t9 h9 tk9 F9 N9; (try k_sweep); (try dsimp only); (try k_fold)))
  k_with "exec While BoolOp cons nil" => k_dflt (refine whl_start 100 ?_)
  k_with "call ref" => ((with_reducible show wpAny _ _ (call (Value.ref 256) _) _ _ _); k_dflt (refine' Mine.limbs_c ?uB ?uF ?uX ?uN ?uT ?uk ?ud ?uu ?p0 ?p1 ?p2 ?p3 ?_; (case uB => k_asm); (case uF => k_asm); (case uX => k_asm); (case uN => k_asm); (case uT => k_asm); (case uk => exact rfl); (case ud => ((try dsimp only [ktrTop, Around.deeper, callerA]); first | walk_at "MineRoom" | omega | decide)); (case uu => ((try dsimp only [ktrTop, Around.deeper, callerA]); first | walk_at "MineRoom" | omega | decide)); (case p0 => first | assumption | walk_at "Om" | omega); (case p1 => first | assumption | walk_at "Om" | omega); (case p2 => first | assumption | walk_at "Om" | omega); (case p3 => first | assumption | walk_at "Om" | omega); intro r9 us9 c9 h9 tk9 F9 N9 ne9 I9; (replace ne9 := Mine.allNe_of ne9; (try simp only [Mine.AllNe, and_true] at ne9); (repeat (have hn9 := ne9.1; replace ne9 := ne9.2))); (try rw [limbs_one h2] at I9); (try k_sweep); (try dsimp only); (try k_fold)))
  k_with "eval ListComp" => (k_here; (with_reducible show wpAny _ _ (eval (PySem.Expr.ListComp (PySem.Expr.Call _ _ _ _) _ _ _) _) _ _ _); k_dflt (refine' comp_rows (limbsZ k) ?e1 ?e2 ?e4 ?e5 ?e6 ?e7 ?e8 ?e9 ?_; (case e1 => k_asm); (case e2 => k_asm); (case e4 => rfl); (case e5 => with_unfolding_all rfl); (case e6 => decide); (case e7 => rfl); (case e8 => decide); (case e9 => rfl)))
  k_with "RowSrc" => k_dflt (refine ⟨_, _, _, T, rfl, by k_mem, hI0, by omega, by k_asm, by k_asm, ?_, (fun hI0 => ?_)⟩)
  k_with "RowTurn" => (unfold RowTurn; intro z8 t8 C8 oC8 m8 h7 tk8 E8 led8 hz8 hC8 hx8 F8 N8 hm8 hsub8; have hz9 := kT z8 hz8; simp only [List.forall_mem_cons, List.forall_mem_nil, and_true] at hsub8; (repeat (have hn9 := hsub8.1; replace hsub8 := hsub8.2)))
  k_with "RowEnd" => exact ⟨_, _, _, _, _, rfl, rfl, by k_asm, by k_asm, ne_allOf (by assumption), by assumption⟩
  k_with "RowFin" => (unfold RowFin; intro D6 ys6 rows c6 h6 tk6 hR6 hO6 F6 N6 hne6; have hl6 := hR6.length; have hs6 : 0 < ys6.toArray.size := (by rw [List.size_toArray]; omega); simp only [List.cons_append, List.nil_append] at N6 hne6; simp only [List.map_cons, List.map_nil] at hO6; (replace hne6 := Mine.allNe_of hne6); simp only [Mine.AllNe, and_true] at hne6; (repeat (have hn9 := hne6.1; replace hne6 := hne6.2)); (try dsimp only))
  k_with "BodyEnd" => (k_dflt (first
  | ((refine Mine.end_new (by k_asm) (by k_asm) (by k_mem) (by kst_allIn) (by k_all) ?_); (refine Mine.outI ?_))
  | ((refine Mine.end_val (by k_asm) (by k_asm) (by kst_allIn) ?_))))
  k_with "subscriptTail Name Slice ref ref" => (((with_reducible show wpAny _ _ (subscriptTail _ (PySem.Expr.Slice _ _ none _) (Value.ref _) (Value.ref _)) _ _ _); k_dflt (refine' kmk_slice_ints ?sF ?sN ?sl ?sp ?sq ?si ?sm ?sc ?_ ?ss ?st ?sz; (case sF => k_asm); (case sN => k_asm); (case sl => kmk_list); (case sp => kmk_part); (case sq => kmk_part); (case si => l_ints); (case sm => first | (with_reducible exact kmk_all (by assumption)) | (with_reducible exact kmk_upto (by assumption) (by first | assumption | walk_at "Om" | omega))); (case sc => exact rfl); (case ss => with_unfolding_all rfl); (case st => kmk_pure); (case sz => exact kmk_sz (by assumption) (by rw [sizeLine_eq]; omega)); intro D9 ws9 h9 F9 N9 l9 I9 C9 L9; (try k_lt l9); (try k_sweep))))
  k_with "BodyEndU" => (first
  | ((refine Mine.end_newU (by k_asm) (by k_asm) (by k_mem) (by k_mem) (by kst_allIn) (And.intro (by k_ne) (Mine.ne_allOf (by (simp only [Mine.AllNe, and_true]; (repeat' (refine And.intro ?_ ?_)) <;> first | assumption | k_ne)))) ?_))
  | ((refine Mine.end_valU (by k_asm) (by k_asm) (by k_mem) (by kst_allIn) ?_)))
  k_with "eval Call" => ((with_reducible show wpAny _ _ (eval (PySem.Expr.Call (PySem.Expr.Name _ _) (PySem.Expr.Name _ _ :: _) [] _) _) _ _ _); k_dflt (first | (refine' Mine.call_names ?zF ?zX ?zT ?ze ?zk ?za ?zz ?zx ?zd ?zh ?zp ?_; (case zx => exact rfl); (case zz => exact rfl); (case zF => k_asm); (case zX => k_asm); (case zT => k_asm); (case ze => k_is); (case zk => k_is); (case za => walk_at "EvAll"); (case zd => decide); (case zh => exact rfl); (case zp => exact rfl)) | (refine' Mine.call_namesB ?zF ?zX ?zT ?ze ?zv ?zn ?za ?zz ?zx ?zd ?zh ?zp ?_; (case zx => exact rfl); (case zz => exact rfl); (case zF => k_asm); (case zX => k_asm); (case zT => k_asm); (case ze => k_is); (case zv => boot_by_name); (case zn => decide); (case za => walk_at "EvAll"); (case zd => decide); (case zh => exact rfl); (case zp => exact rfl))))
  k_with "storeName" => (dsimp only; walk_at "storeName")
  first | (refine (id (α := let zA9 := _; let ze9 := _; let zg9 := _; let zd9 := _; let zo9 := _; wpAny _ zA9 (execs _ ze9) _ _ (Shared.mk _ zg9 zd9 _ zo9)) ?_); intro zA9 ze9 zg9 zd9 zo9) | skip
  k_steps
  all_goals first | exact outT | exact ⟨rfl, rfl⟩ | exact ⟨rfl, congrArg Value.bool (beq_self_eq_true _)⟩ | (exfalso; omega)
end Mine
end

section
open PySem PySem.W PySem.Spec PySem.Calls PyProof.Rows

namespace Mine
set_option maxRecDepth 100000 in
set_option maxHeartbeats 8000000 in
theorem bright_c {w : World} {p : Program} {loose : List Str} {mean : ExcName → Option Value} {mg mb : Str → Option Value} {dp un : Nat} {gd : Option (List Code)} {cn : Str} {cs : Scope} {a : Addr} {ccd : Value} {cl : List (Str × Addr)} {outer : List Env} {A₀ : Around} {base h₀ : Heap} {L : Addr} {m : Str → Option Value} {news : List (Addr × Obj)} {s : Shared} {Q E : Value → Shared → Prop}
    (B : Below A₀ base outer h₀) (F : Fr h₀ L s.heap m) (X : (Mine.hd.heap_39 w.params).In h₀) (N : News h₀ L s.heap news) (T : Top p loose mean mg mb h₀) (hk : cs.kind = .function) (hd : dp + 11 < recursionLimit) (hu : un + 300 < cLine)
    {x : Addr} {c : Nat} {vs : List Value} {xs : List Int} {k b n o p r1 : Int} {tw : Tok} (hi : IntsAre vs xs) (hb3 : 3 ≤ xs.length) (hb : xs.length ≤ 9) (h2 : 2 ≤ k) (h8 : k ≤ 8) (gx : ∀ z ∈ xs, 0 ≤ z) (hm : (x, listOf vs.toArray c) ∈ news)
    (hB : 1 + (xs.getD (Int.toNat 0) 0).fmod 60 = b) (hn : sizeZ (b - 1) = n) (hP : 2 ^ n.toNat = p) (hO : p - b = o) (hR : 1 + (xs.getD (Int.toNat 1) 0).fmod 7 = r1) (hr1 : 1 ≤ r1) (hr7 : r1 ≤ 7)
    (hb1 : 1 ≤ b) (hb9 : b ≤ 60) (n1 : 1 ≤ n) (n6 : n ≤ 6) (hbp : b ≤ p) (hp9 : p ≤ 64) (hbl : 0 < (limbsZ k b).length) (hbL : (limbsZ k b).length ≤ 100) (hms : subZ k (limbsZ k b) [1] = limbsZ k (b - 1)) (hml : (limbsZ k (b - 1)).length ≤ 200) (hbit : bitsZ k (limbsZ k (b - 1)) = n) (hc1 : 0 ≤ cmpZ (limbsZ k b) [1]) (hFacts : ∀ t, 0 ≤ t → t < p → LimbOk k n t)
    (hcmp : ∀ t, 0 ≤ t → t < p → (cmpZ (limbsZ k t) (limbsZ k b) < 0 ↔ t < b)) (hsub : ∀ t, b ≤ t → t < p → subZ k (limbsZ k t) (limbsZ k b) = limbsZ k (t - b))
    (ret : ∀ h' tk', Fr h₀ L h' m → News h₀ L h' news → Q (.bool true) { s with heap := h', toks := tk' }) :
    wpAny (model PySem.Challenge.rw_pq0542_01.row.prog w) (ktrTop dp un gd cn cs L a ccd cl outer) (call (.ref 280) [Value.ref x, Value.int k tw]) Q E s := by
  k_with_none
  k_with "Om" => (first | walk_at "MineRoom" | exact Int.natCast_nonneg _ | exact Mine.i_up (by with_reducible assumption) rfl | exact Mine.i_dn (by with_reducible assumption) rfl | exact Mine.i_lt (by with_reducible assumption) rfl | exact Mine.i_gt (by with_reducible assumption) rfl | exact Mine.n_up (by with_reducible assumption) rfl | exact Mine.n_eq (by with_reducible assumption) rfl | exact Mine.n_ge (by with_reducible assumption) rfl | exact Mine.sub0n)
  k_with "EvAll" => (first | exact Mine.EvAll.nil | exact Mine.evs_L (by k_asm) (by exact rfl) rfl rfl (by decide) (by walk_at "EvAll") | exact Mine.evs_C (by k_asm) (by exact rfl) (by k_mem) (by assumption) rfl rfl (by decide) (by walk_at "EvAll"))
  k_with "MineLt" => (first | ((repeat (first | exact Nat.lt_succ_self _ | refine Nat.lt_succ_of_lt ?_)); done) | ((repeat (refine Nat.lt_succ_of_lt ?_)); with_reducible assumption))
  k_with "MineLt2" => (refine Nat.lt_trans ?_ (by with_reducible assumption); walk_at "MineLt")
  k_with "MineRoom" => (k_whole; first | exact Mine.room1 (by with_reducible assumption) rfl | exact Mine.room2 (by with_reducible assumption) rfl | exact Mine.room3 (by with_reducible assumption) rfl | exact Mine.room4 (by with_reducible assumption) rfl | exact Mine.room5 (by with_reducible assumption) rfl | exact Mine.room0 (by with_reducible assumption))
  w_top off
  revert X; k_fill; intro X
  k_dflt (refine' call_rC2 [(x, listOf vs.toArray c)] OutT ?k1 ?k2 ?k3 ?k4 ?k5 ?ks ?kA ?kF ?kK ?k6 ?k7 ?k8 ?k9 ?kB ?kD ?kR (ps := []) ?kP ?_ ?c2 ?c3 ?c4; (case kA => exact rfl); (case kF => exact rfl); (case kK => assumption); (case k1 => k_asm); (case k2 => k_asm); (case k3 => k_asm); (case k4 => k_asm); (case k5 => k_asm); (case k6 => k_is); (case k7 => k_is); (case k8 => (show dp < recursionLimit; first | walk_at "MineRoom" | omega)); (case k9 => exact BindsTo.of_eq rfl); (case kB => exact rfl); (case kD => decide +kernel); (case kP => (intro L9; kst_all)); (case c2 => exact rfl); (case c3 => exact rfl); (case c4 => exact rfl))
  case ks => exact List.forall_mem_cons.mpr ⟨hm, List.forall_mem_nil _⟩
  case kR =>
    rintro v new h' tk' F' N' hne ⟨rfl, rfl⟩
    exact ret h' tk' F' N'
  clear B F X N T ret
  clear hm
  intro g' L' h' tk' cells' u F' N' Y' B' X' T' l1
  (try dsimp only [kstB] at F')
  (try k_lt l1)
  obtain ⟨oc1, oc2, oc3, oc4, oc5, hE', ce1, ce2, ce3, ce4, ce5⟩ := PyProof.Rows.kc_five Y'; subst hE'; have dW : oc4.data = .cell (some (.int k tw)) := (by with_unfolding_all exact ce4)
  (try simp only [List.cons_append, List.nil_append] at N')
  try dsimp only
  try k_fold
  have kMark := kstMark
  k_with "execs cons" => ((with_reducible show wpAny _ _ (execs (PySem.Stmt.Assign [PySem.Expr.Name (PySem.Str.ofString "source") _] _ _ :: _) _) _ _ _); k_dflt (first | (have kI : ∀ tok : Tok, IntsAre (ys8.set ((xs.getD (Int.toNat 2) 0).fmod 100).toNat (Value.int (((xs.getD (Int.toNat 0) 0).fdiv 60).fmod b) tok)) (T1.set ((xs.getD (Int.toNat 2) 0).fmod 100).toNat (((xs.getD (Int.toNat 0) 0).fdiv 60).fmod b)) := (fun tok => ints_set I8 _ tok _); have hv8 := @fmod_pos ((xs.getD (Int.toNat 0) 0).fdiv 60) b (by omega); have kT : ∀ t ∈ T1.set ((xs.getD (Int.toNat 2) 0).fmod 100).toNat (((xs.getD (Int.toNat 0) 0).fdiv 60).fmod b), 0 ≤ t ∧ t < p := (fun t ht => set_in kT1 ⟨hv8.1, by omega⟩ _ ht); have kL : (T1.set ((xs.getD (Int.toNat 2) 0).fmod 100).toNat (((xs.getD (Int.toNat 0) 0).fdiv 60).fmod b)).length = 100 := (by rw [List.length_set]; exact kL1); generalize T1.set ((xs.getD (Int.toNat 2) 0).fmod 100).toNat (((xs.getD (Int.toNat 0) 0).fdiv 60).fmod b) = T at kI kT kL; (rename Fr _ _ _ _ => lF'); (rename News _ _ _ _ => lN'); (refine' btail_c (T := T) (D8 := D8) (b := b) (n := n) (p := p) (k := k) ?ho ?hst ?hB ?hX ?hT ?hk9 ?hd9 ?hu9 ?hF ?hN ?d5 ?d3 ?d2 ?q5 ?q4 ?q3 ?q2 ?q1 ?q0 ?qx ?hI kT ?kP ?kL h2 h8 hb1 hb9 n1 n6 hbp hp9 hbl hbL hms hml hbit hc1 hFacts hcmp hsub; (case ho => k_is); (case hst => rfl); (case hB => k_asm); (case hX => k_asm); (case hT => k_asm); (case hk9 => exact hk); (case hd9 => first | walk_at "Om" | omega); (case hu9 => first | walk_at "Om" | omega); (case hN => exact kst_newsOf lN' (by kst_allIn)); (case hF => exact fr_names lF' (by kst_all)); (case d5 => assumption); (case d3 => assumption); (case d2 => exact dW); (case q5 => k_ne); (case q4 => k_ne); (case q3 => k_ne); (case q2 => k_ne); (case q1 => k_ne); (case q0 => k_ne); (case qx => first | walk_at "Om" | omega); (case hI => exact kI _); (case kP => first | walk_at "Om" | omega); (case kL => first | walk_at "Om" | omega))) | (have kI : ∀ tok : Tok, IntsAre ys8 T0 := (fun _ => I8); have kT := kT0; have kL := kL0; have kP := kP0; generalize T0 = T at kI kT kL kP; (rename Fr _ _ _ _ => lF'); (rename News _ _ _ _ => lN'); (refine' btail_c (T := T) (D8 := D8) (b := b) (n := n) (p := p) (k := k) ?ho ?hst ?hB ?hX ?hT ?hk9 ?hd9 ?hu9 ?hF ?hN ?d5 ?d3 ?d2 ?q5 ?q4 ?q3 ?q2 ?q1 ?q0 ?qx ?hI kT ?kP ?kL h2 h8 hb1 hb9 n1 n6 hbp hp9 hbl hbL hms hml hbit hc1 hFacts hcmp hsub; (case ho => k_is); (case hst => rfl); (case hB => k_asm); (case hX => k_asm); (case hT => k_asm); (case hk9 => exact hk); (case hd9 => first | walk_at "Om" | omega); (case hu9 => first | walk_at "Om" | omega); (case hN => exact kst_newsOf lN' (by kst_allIn)); (case hF => exact fr_names lF' (by kst_all)); (case d5 => assumption); (case d3 => assumption); (case d2 => exact dW); (case q5 => k_ne); (case q4 => k_ne); (case q3 => k_ne); (case q2 => k_ne); (case q1 => k_ne); (case q0 => k_ne); (case qx => first | walk_at "Om" | omega); (case hI => exact kI 0); (case kP => first | walk_at "Om" | omega); (case kL => first | walk_at "Om" | omega)))))
  k_with "storeName" => rw [hB]
  k_with "storeName" => rw [hO]
  k_with "binaryOp Sub int int" => rw [hP]
  k_with "call type:range" => rw [hR]
  k_with "call ref" => ((with_reducible show wpAny _ _ (call (Value.ref 268) _) _ _ _); k_dflt (refine' Mine.size_c ?uB ?uF ?uX ?uN ?uT ?uk ?ud ?uu ?p0 ?p1 ?_; (case uB => k_asm); (case uF => k_asm); (case uX => k_asm); (case uN => k_asm); (case uT => k_asm); (case uk => exact rfl); (case ud => ((try dsimp only [ktrTop, Around.deeper, callerA]); first | walk_at "MineRoom" | omega | decide)); (case uu => ((try dsimp only [ktrTop, Around.deeper, callerA]); first | walk_at "MineRoom" | omega | decide)); (case p0 => first | assumption | walk_at "Om" | omega); (case p1 => first | assumption | walk_at "Om" | omega); intro t9 h9 tk9 F9 N9; rw [hn]; (try k_sweep); (try dsimp only); (try k_fold)))
  k_with "eval ListComp" => (k_here; (with_reducible show wpAny _ _ (eval (PySem.Expr.ListComp (PySem.Expr.IfExp _ _ _ _) _ _ _) _) _ _ _); k_dflt (refine' comp_range_ints r1.toNat (toldZ xs b o) ?e1 ?e2 ?e4 ?e5 ?e6 ?e7 ?e8 ?e9 ?ea ?_; (case e1 => k_asm); (case e2 => k_asm); (case e4 => rfl); (case e5 => with_unfolding_all rfl); (case e6 => decide); (case e7 => rfl); (case e8 => decide); (case e9 => rfl); (case ea => first | exact congrArg Int.toNat (Int.sub_zero _) | exact rfl | omega)))
  k_with "eval ListComp" => (k_here; (with_reducible show wpAny _ _ (eval (PySem.Expr.ListComp (PySem.Expr.Subscript _ _ _) _ _ _) _) _ _ _); k_dflt (refine' comp_range_ints 100 (fun i => T0.getD ((i : Int).fmod (T0.length : Int)).toNat 0) ?e1 ?e2 ?e4 ?e5 ?e6 ?e7 ?e8 ?e9 ?ea ?_; (case e1 => k_asm); (case e2 => k_asm); (case e4 => rfl); (case e5 => with_unfolding_all rfl); (case e6 => decide); (case e7 => rfl); (case e8 => decide); (case e9 => rfl); (case ea => first | exact congrArg Int.toNat (Int.sub_zero _) | exact rfl | omega)))
  k_with "RngSrc" => k_dflt ((rename IsRange _ _ _ _ _ _ _ _ => rgX); refine ⟨_, _, _, _, _, rfl, by k_asm, by k_asm, rgX, small_one (by decide) (by decide) (by omega) (by omega), (rangeSize_nat _ _).trans (by first | exact Mine.sub0n | omega), ?_, ?_⟩)
  k_with "RngTurn" => (unfold RngTurn; intro i8 t8 C8 oC8 m8 h7 tk8 E8 hlt8 hC8 ha8 F8 N8; have hf8 := @fmod_in (i8 : Int) xs.length (by omega) (by omega))
  k_with "RngTurn" => (unfold RngTurn; intro i8 t8 C8 oC8 m8 h7 tk8 E8 hlt8 hC8 ha8 F8 N8; have hf8 := @fmod_in (i8 : Int) T0.length (by omega) (by omega))
  k_with "RngFin" => (unfold RngFin; intro D8 ys8 c8 h8' tk8 I8 F8 N8 o8; simp only [PyProof.Rows.LCg.Off1, and_true] at o8; (repeat (have hn9 := o8.1; replace o8 := o8.2)); have kT0 : ∀ t ∈ (List.range r1.toNat).map (toldZ xs b o), 0 ≤ t ∧ t < p := (fun t ht => told_in hb1 hbp hO ht); have kL0 : ((List.range r1.toNat).map (toldZ xs b o)).length = r1.toNat := (by simp); generalize (List.range r1.toNat).map (toldZ xs b o) = T0 at I8 kT0 kL0; have kP0 : 0 < T0.length := (Mine.len7 (by assumption) (by assumption) kL0).1; replace kL0 : T0.length ≤ 7 := (Mine.len7 (by assumption) (by assumption) kL0).2; (try dsimp only))
  k_with "RngFin" => (unfold RngFin; intro D8 ys8 c8 h8' tk8 I8 F8 N8 o8; simp only [PyProof.Rows.LCg.Off1, and_true] at o8; (repeat (have hn9 := o8.1; replace o8 := o8.2)); (have kT1 : ∀ t ∈ (List.range 100).map (fun i : Nat => T0.getD ((i : Int).fmod (T0.length : Int)).toNat 0), 0 ≤ t ∧ t < p := (fun t ht => again_in kT0 (by omega) ht)); have kL1 : ((List.range 100).map (fun i : Nat => T0.getD ((i : Int).fmod (T0.length : Int)).toNat 0)).length = 100 := (by simp); generalize (List.range 100).map (fun i : Nat => T0.getD ((i : Int).fmod (T0.length : Int)).toNat 0) = T1 at I8 kT1 kL1; (try dsimp only))
  k_with "TurnEnd" => first | exact ⟨⟨_, rfl⟩, _, rfl⟩ | exact ⟨⟨_, rfl⟩, _, by rw [toldZ, if_pos (by assumption)]⟩ | exact ⟨⟨_, rfl⟩, _, by rw [toldZ, if_neg (by assumption)]⟩
  k_with "BodyEnd" => (k_dflt (first
  | ((refine Mine.end_new (by k_asm) (by k_asm) (by k_mem) (by kst_allIn) (by k_all) ?_); (refine Mine.outI ?_))
  | ((refine Mine.end_val (by k_asm) (by k_asm) (by kst_allIn) ?_))))
  k_with "subscriptTail Name Slice ref ref" => (((with_reducible show wpAny _ _ (subscriptTail _ (PySem.Expr.Slice _ _ none _) (Value.ref _) (Value.ref _)) _ _ _); k_dflt (refine' kmk_slice_ints ?sF ?sN ?sl ?sp ?sq ?si ?sm ?sc ?_ ?ss ?st ?sz; (case sF => k_asm); (case sN => k_asm); (case sl => kmk_list); (case sp => kmk_part); (case sq => kmk_part); (case si => l_ints); (case sm => first | (with_reducible exact kmk_all (by assumption)) | (with_reducible exact kmk_upto (by assumption) (by first | assumption | walk_at "Om" | omega))); (case sc => exact rfl); (case ss => with_unfolding_all rfl); (case st => kmk_pure); (case sz => exact kmk_sz (by assumption) (by rw [sizeLine_eq]; omega)); intro D9 ws9 h9 F9 N9 l9 I9 C9 L9; (try k_lt l9); (try k_sweep))))
  k_with "BodyEndU" => (first
  | ((refine Mine.end_newU (by k_asm) (by k_asm) (by k_mem) (by k_mem) (by kst_allIn) (And.intro (by k_ne) (Mine.ne_allOf (by (simp only [Mine.AllNe, and_true]; (repeat' (refine And.intro ?_ ?_)) <;> first | assumption | k_ne)))) ?_))
  | ((refine Mine.end_valU (by k_asm) (by k_asm) (by k_mem) (by kst_allIn) ?_)))
  k_with "eval Call" => ((with_reducible show wpAny _ _ (eval (PySem.Expr.Call (PySem.Expr.Name _ _) (PySem.Expr.Name _ _ :: _) [] _) _) _ _ _); k_dflt (first | (refine' Mine.call_names ?zF ?zX ?zT ?ze ?zk ?za ?zz ?zx ?zd ?zh ?zp ?_; (case zx => exact rfl); (case zz => exact rfl); (case zF => k_asm); (case zX => k_asm); (case zT => k_asm); (case ze => k_is); (case zk => k_is); (case za => walk_at "EvAll"); (case zd => decide); (case zh => exact rfl); (case zp => exact rfl)) | (refine' Mine.call_namesB ?zF ?zX ?zT ?ze ?zv ?zn ?za ?zz ?zx ?zd ?zh ?zp ?_; (case zx => exact rfl); (case zz => exact rfl); (case zF => k_asm); (case zX => k_asm); (case zT => k_asm); (case ze => k_is); (case zv => boot_by_name); (case zn => decide); (case za => walk_at "EvAll"); (case zd => decide); (case zh => exact rfl); (case zp => exact rfl))))
  k_with "storeName" => (dsimp only; walk_at "storeName")
  first | (refine (id (α := let zA9 := _; let ze9 := _; let zg9 := _; let zd9 := _; let zo9 := _; wpAny _ zA9 (execs _ ze9) _ _ (Shared.mk _ zg9 zd9 _ zo9)) ?_); intro zA9 ze9 zg9 zd9 zo9) | skip
  k_steps


end Mine
end

section
open PySem PySem.W PySem.Spec PySem.Calls PyProof.Rows

namespace Mine
set_option maxRecDepth 100000 in
set_option maxHeartbeats 8000000 in
theorem bright0_c {w : World} {p : Program} {loose : List Str} {mean : ExcName → Option Value} {mg mb : Str → Option Value} {dp un : Nat} {gd : Option (List Code)} {cn : Str} {cs : Scope} {a : Addr} {ccd : Value} {cl : List (Str × Addr)} {outer : List Env} {A₀ : Around} {base h₀ : Heap} {L : Addr} {m : Str → Option Value} {news : List (Addr × Obj)} {s : Shared} {Q E : Value → Shared → Prop}
    (B : Below A₀ base outer h₀) (F : Fr h₀ L s.heap m) (X : (Mine.hd.heap_39 w.params).In h₀) (N : News h₀ L s.heap news) (T : Top p loose mean mg mb h₀) (hk : cs.kind = .function) (hd : dp + 11 < recursionLimit) (hu : un + 300 < cLine)
    {x : Addr} {c : Nat} {vs : List Value} {xs : List Int} {k r1 : Int} {tw : Tok} (hi : IntsAre vs xs) (hb3 : 3 ≤ xs.length) (hb : xs.length ≤ 9) (h2 : 2 ≤ k) (h8 : k ≤ 8) (gx : ∀ z ∈ xs, 0 ≤ z) (hm : (x, listOf vs.toArray c) ∈ news)
    (hB : 1 + (xs.getD (Int.toNat 0) 0).fmod 60 = 1) (hR : 1 + (xs.getD (Int.toNat 1) 0).fmod 7 = r1) (hr1 : 1 ≤ r1) (hr7 : r1 ≤ 7)
    (ret : ∀ h' tk', Fr h₀ L h' m → News h₀ L h' news → Q (.bool true) { s with heap := h', toks := tk' }) :
    wpAny (model PySem.Challenge.rw_pq0542_01.row.prog w) (ktrTop dp un gd cn cs L a ccd cl outer) (call (.ref 280) [Value.ref x, Value.int k tw]) Q E s := by
  k_with_none
  k_with "Om" => (first | walk_at "MineRoom" | exact Int.natCast_nonneg _ | exact Mine.i_up (by with_reducible assumption) rfl | exact Mine.i_dn (by with_reducible assumption) rfl | exact Mine.i_lt (by with_reducible assumption) rfl | exact Mine.i_gt (by with_reducible assumption) rfl | exact Mine.n_up (by with_reducible assumption) rfl | exact Mine.n_eq (by with_reducible assumption) rfl | exact Mine.n_ge (by with_reducible assumption) rfl | exact Mine.sub0n)
  k_with "EvAll" => (first | exact Mine.EvAll.nil | exact Mine.evs_L (by k_asm) (by exact rfl) rfl rfl (by decide) (by walk_at "EvAll") | exact Mine.evs_C (by k_asm) (by exact rfl) (by k_mem) (by assumption) rfl rfl (by decide) (by walk_at "EvAll"))
  k_with "MineLt" => (first | ((repeat (first | exact Nat.lt_succ_self _ | refine Nat.lt_succ_of_lt ?_)); done) | ((repeat (refine Nat.lt_succ_of_lt ?_)); with_reducible assumption))
  k_with "MineLt2" => (refine Nat.lt_trans ?_ (by with_reducible assumption); walk_at "MineLt")
  k_with "MineRoom" => (k_whole; first | exact Mine.room1 (by with_reducible assumption) rfl | exact Mine.room2 (by with_reducible assumption) rfl | exact Mine.room3 (by with_reducible assumption) rfl | exact Mine.room4 (by with_reducible assumption) rfl | exact Mine.room5 (by with_reducible assumption) rfl | exact Mine.room0 (by with_reducible assumption))
  w_top off
  revert X; k_fill; intro X
  k_dflt (refine' call_rC2 [(x, listOf vs.toArray c)] OutT ?k1 ?k2 ?k3 ?k4 ?k5 ?ks ?kA ?kF ?kK ?k6 ?k7 ?k8 ?k9 ?kB ?kD ?kR (ps := []) ?kP ?_ ?c2 ?c3 ?c4; (case kA => exact rfl); (case kF => exact rfl); (case kK => assumption); (case k1 => k_asm); (case k2 => k_asm); (case k3 => k_asm); (case k4 => k_asm); (case k5 => k_asm); (case k6 => k_is); (case k7 => k_is); (case k8 => (show dp < recursionLimit; first | walk_at "MineRoom" | omega)); (case k9 => exact BindsTo.of_eq rfl); (case kB => exact rfl); (case kD => decide +kernel); (case kP => (intro L9; kst_all)); (case c2 => exact rfl); (case c3 => exact rfl); (case c4 => exact rfl))
  case ks => exact List.forall_mem_cons.mpr ⟨hm, List.forall_mem_nil _⟩
  case kR =>
    rintro v new h' tk' F' N' hne ⟨rfl, rfl⟩
    exact ret h' tk' F' N'
  clear B F X N T ret
  clear hm
  intro g' L' h' tk' cells' u F' N' Y' B' X' T' l1
  (try dsimp only [kstB] at F')
  (try k_lt l1)
  obtain ⟨oc1, oc2, oc3, oc4, oc5, hE', ce1, ce2, ce3, ce4, ce5⟩ := PyProof.Rows.kc_five Y'; subst hE'; have dW : oc4.data = .cell (some (.int k tw)) := (by with_unfolding_all exact ce4)
  (try simp only [List.cons_append, List.nil_append] at N')
  try dsimp only
  try k_fold
  have kMark := kstMark
  k_with "execs cons" => ((with_reducible show wpAny _ _ (execs (PySem.Stmt.Assign [PySem.Expr.Name (PySem.Str.ofString "source") _] _ _ :: _) _) _ _ _); k_dflt ((have kI : ∀ tok : Tok, IntsAre ys8 T0 := (fun _ => I8); have kT := kT0; have kL := kL0; have kP := kP0; generalize T0 = T at kI kT kL kP; (rename Fr _ _ _ _ => lF'); (rename News _ _ _ _ => lN'); (refine' btail0_c (T := T) (D8 := D8) (p := 1) (k := k) ?ho ?hst ?hB ?hX ?hT ?hk9 ?hd9 ?hu9 ?hF ?hN ?d5 ?d3 ?d2 ?q5 ?q4 ?q3 ?q2 ?q1 ?q0 ?qx ?hI kT ?kP ?kL h2 h8 rfl; (case ho => k_is); (case hst => rfl); (case hB => k_asm); (case hX => k_asm); (case hT => k_asm); (case hk9 => exact hk); (case hd9 => first | walk_at "Om" | omega); (case hu9 => first | walk_at "Om" | omega); (case hN => exact kst_newsOf lN' (by kst_allIn)); (case hF => exact fr_names lF' (by kst_all)); (case d5 => assumption); (case d3 => assumption); (case d2 => exact dW); (case q5 => k_ne); (case q4 => k_ne); (case q3 => k_ne); (case q2 => k_ne); (case q1 => k_ne); (case q0 => k_ne); (case qx => first | walk_at "Om" | omega); (case hI => exact kI 0); (case kP => first | walk_at "Om" | omega); (case kL => first | walk_at "Om" | omega)))))
  k_with "storeName" => rw [hB]
  k_with "call type:range" => rw [hR]
  k_with "call ref" => ((with_reducible show wpAny _ _ (call (Value.ref 268) _) _ _ _); k_dflt (refine' Mine.size_c ?uB ?uF ?uX ?uN ?uT ?uk ?ud ?uu ?p0 ?p1 ?_; (case uB => k_asm); (case uF => k_asm); (case uX => k_asm); (case uN => k_asm); (case uT => k_asm); (case uk => exact rfl); (case ud => ((try dsimp only [ktrTop, Around.deeper, callerA]); first | walk_at "MineRoom" | omega | decide)); (case uu => ((try dsimp only [ktrTop, Around.deeper, callerA]); first | walk_at "MineRoom" | omega | decide)); (case p0 => first | assumption | walk_at "Om" | omega); (case p1 => first | assumption | walk_at "Om" | omega); intro t9 h9 tk9 F9 N9; rw [size_zero (by decide)]; (try k_sweep); (try dsimp only); (try k_fold)))
  k_with "eval ListComp" => (k_here; (with_reducible show wpAny _ _ (eval (PySem.Expr.ListComp (PySem.Expr.IfExp _ _ _ _) _ _ _) _) _ _ _); k_dflt (refine' comp_range_ints r1.toNat (toldZ xs 1 (2 ^ Int.toNat 0 - 1)) ?e1 ?e2 ?e4 ?e5 ?e6 ?e7 ?e8 ?e9 ?ea ?_; (case e1 => k_asm); (case e2 => k_asm); (case e4 => rfl); (case e5 => with_unfolding_all rfl); (case e6 => decide); (case e7 => rfl); (case e8 => decide); (case e9 => rfl); (case ea => first | exact congrArg Int.toNat (Int.sub_zero _) | exact rfl | omega)))
  k_with "RngSrc" => k_dflt ((rename IsRange _ _ _ _ _ _ _ _ => rgX); refine ⟨_, _, _, _, _, rfl, by k_asm, by k_asm, rgX, small_one (by decide) (by decide) (by omega) (by omega), (rangeSize_nat _ _).trans (by first | exact Mine.sub0n | omega), ?_, ?_⟩)
  k_with "RngTurn" => (unfold RngTurn; intro i8 t8 C8 oC8 m8 h7 tk8 E8 hlt8 hC8 ha8 F8 N8; have hf8 := @fmod_in (i8 : Int) xs.length (by omega) (by omega))
  k_with "RngFin" => (unfold RngFin; intro D8 ys8 c8 h8' tk8 I8 F8 N8 o8; simp only [PyProof.Rows.LCg.Off1, and_true] at o8; (repeat (have hn9 := o8.1; replace o8 := o8.2)); have kT0 : ∀ t ∈ (List.range r1.toNat).map (toldZ xs 1 (2 ^ Int.toNat 0 - 1)), 0 ≤ t ∧ t < 1 := (fun t ht => told_in (by decide) (by decide) rfl ht); have kL0 : ((List.range r1.toNat).map (toldZ xs 1 (2 ^ Int.toNat 0 - 1))).length = r1.toNat := (by simp); generalize (List.range r1.toNat).map (toldZ xs 1 (2 ^ Int.toNat 0 - 1)) = T0 at I8 kT0 kL0; have kP0 : 0 < T0.length := (Mine.len7 (by assumption) (by assumption) kL0).1; replace kL0 : T0.length ≤ 7 := (Mine.len7 (by assumption) (by assumption) kL0).2; (try dsimp only))
  k_with "TurnEnd" => first | exact ⟨⟨_, rfl⟩, _, rfl⟩ | exact ⟨⟨_, rfl⟩, _, by rw [toldZ, if_pos (by assumption)]⟩ | exact ⟨⟨_, rfl⟩, _, by rw [toldZ, if_neg (by assumption)]⟩
  k_with "BodyEnd" => (k_dflt (first
  | ((refine Mine.end_new (by k_asm) (by k_asm) (by k_mem) (by kst_allIn) (by k_all) ?_); (refine Mine.outI ?_))
  | ((refine Mine.end_val (by k_asm) (by k_asm) (by kst_allIn) ?_))))
  k_with "subscriptTail Name Slice ref ref" => (((with_reducible show wpAny _ _ (subscriptTail _ (PySem.Expr.Slice _ _ none _) (Value.ref _) (Value.ref _)) _ _ _); k_dflt (refine' kmk_slice_ints ?sF ?sN ?sl ?sp ?sq ?si ?sm ?sc ?_ ?ss ?st ?sz; (case sF => k_asm); (case sN => k_asm); (case sl => kmk_list); (case sp => kmk_part); (case sq => kmk_part); (case si => l_ints); (case sm => first | (with_reducible exact kmk_all (by assumption)) | (with_reducible exact kmk_upto (by assumption) (by first | assumption | walk_at "Om" | omega))); (case sc => exact rfl); (case ss => with_unfolding_all rfl); (case st => kmk_pure); (case sz => exact kmk_sz (by assumption) (by rw [sizeLine_eq]; omega)); intro D9 ws9 h9 F9 N9 l9 I9 C9 L9; (try k_lt l9); (try k_sweep))))
  k_with "BodyEndU" => (first
  | ((refine Mine.end_newU (by k_asm) (by k_asm) (by k_mem) (by k_mem) (by kst_allIn) (And.intro (by k_ne) (Mine.ne_allOf (by (simp only [Mine.AllNe, and_true]; (repeat' (refine And.intro ?_ ?_)) <;> first | assumption | k_ne)))) ?_))
  | ((refine Mine.end_valU (by k_asm) (by k_asm) (by k_mem) (by kst_allIn) ?_)))
  k_with "eval Call" => ((with_reducible show wpAny _ _ (eval (PySem.Expr.Call (PySem.Expr.Name _ _) (PySem.Expr.Name _ _ :: _) [] _) _) _ _ _); k_dflt (first | (refine' Mine.call_names ?zF ?zX ?zT ?ze ?zk ?za ?zz ?zx ?zd ?zh ?zp ?_; (case zx => exact rfl); (case zz => exact rfl); (case zF => k_asm); (case zX => k_asm); (case zT => k_asm); (case ze => k_is); (case zk => k_is); (case za => walk_at "EvAll"); (case zd => decide); (case zh => exact rfl); (case zp => exact rfl)) | (refine' Mine.call_namesB ?zF ?zX ?zT ?ze ?zv ?zn ?za ?zz ?zx ?zd ?zh ?zp ?_; (case zx => exact rfl); (case zz => exact rfl); (case zF => k_asm); (case zX => k_asm); (case zT => k_asm); (case ze => k_is); (case zv => boot_by_name); (case zn => decide); (case za => walk_at "EvAll"); (case zd => decide); (case zh => exact rfl); (case zp => exact rfl))))
  k_with "storeName" => (dsimp only; walk_at "storeName")
  first | (refine (id (α := let zA9 := _; let ze9 := _; let zg9 := _; let zd9 := _; let zo9 := _; wpAny _ zA9 (execs _ ze9) _ _ (Shared.mk _ zg9 zd9 _ zo9)) ?_); intro zA9 ze9 zg9 zd9 zo9) | skip
  k_steps


end Mine
end

section
open PySem PySem.W PySem.Spec PySem.Calls PyProof.Rows

namespace Mine
theorem below_c {w : World} {p : Program} {loose : List Str} {mean : ExcName → Option Value} {mg mb : Str → Option Value} {dp un : Nat} {gd : Option (List Code)} {cn : Str} {cs : Scope} {a : Addr} {ccd : Value} {cl : List (Str × Addr)} {outer : List Env} {A₀ : Around} {base h₀ : Heap} {L : Addr} {m : Str → Option Value} {news : List (Addr × Obj)} {s : Shared} {Q E : Value → Shared → Prop}
    (B : Below A₀ base outer h₀) (F : Fr h₀ L s.heap m) (X : (Mine.hd.heap_39 w.params).In h₀) (N : News h₀ L s.heap news) (T : Top p loose mean mg mb h₀) (hk : cs.kind = .function) (hd : dp + 11 < recursionLimit) (hu : un + 300 < cLine)
    {x : Addr} {c : Nat} {vs : List Value} {xs : List Int} {k : Int} {tw : Tok} (hi : IntsAre vs xs) (hb3 : 3 ≤ xs.length) (hb : xs.length ≤ 9) (h2 : 2 ≤ k) (h8 : k ≤ 8) (gx : ∀ z ∈ xs, 0 ≤ z) (hm : (x, listOf vs.toArray c) ∈ news)
    (ret : ∀ h' tk', Fr h₀ L h' m → News h₀ L h' news → Q (.bool true) { s with heap := h', toks := tk' }) :
    wpAny (model PySem.Challenge.rw_pq0542_01.row.prog w) (ktrTop dp un gd cn cs L a ccd cl outer) (call (.ref 280) [Value.ref x, Value.int k tw]) Q E s := by
  have f60 := @fmod_pos (xs.getD (Int.toNat 0) 0) 60 (by decide)
  have f7 := @fmod_pos (xs.getD (Int.toNat 1) 0) 7 (by decide)
  generalize hB : 1 + (xs.getD (Int.toNat 0) 0).fmod 60 = b
  have hb1 : 1 ≤ b := by omega
  have hb9 : b ≤ 60 := by omega
  have S := size_pow hb1 hb9
  by_cases h0 : sizeZ (b - 1) = 0
  · have e1 := S.2.2.2.2 h0
    subst e1
    exact bright0_c B F X N T hk hd hu hi hb3 hb h2 h8 gx hm hB rfl (by omega) (by omega) ret
  · have P := b_pure h2 h8 hb1 hb9 rfl rfl S.1 S.2.1 S.2.2.2.1
    exact bright_c B F X N T hk hd hu hi hb3 hb h2 h8 gx hm hB rfl rfl rfl rfl (by omega) (by omega) hb1 hb9 (by omega) S.2.1 S.2.2.1 S.2.2.2.1 P.hbl P.hbL P.hms P.hml P.hbit P.hc1 P.hFacts P.hcmp P.hsub ret
end Mine
end

section
open PySem PySem.W PySem.Spec PySem.Calls PyProof.Rows

namespace Mine
set_option maxRecDepth 100000 in
set_option maxHeartbeats 8000000 in
theorem ntail9 {w : World} {p' : Program} {loose : List Str} {mean : ExcName → Option Value} {mg mb u : Str → Option Value} {dp un : Nat} {gd : Option (List Code)} {cn : Str} {cs : Scope} {a L' : Addr} {ccd : Value} {cl : List (Str × Addr)} {base g0 g' : Heap} {L : Addr} {s0 : Shared} {hs : Heap} {tks : Nat}
    {name qual : Str} {params : Arguments} {body st : List Stmt} {scope : Scope} {dV kV doc pm cdv ct oc : Value} {an od : Option Addr} {osl : Array (Option Value)}
    (ho : (Mine.hd.heap_39 w.params).lookup 287 = some ⟨oc, od, .func (fnOf name qual params body scope dV kV doc pm an cdv ct), osl⟩) (hst : body.drop 9 = st)
    (XB : (Mine.hd.heap_39 w.params).In base) (TB : Top p' loose mean mg mb base) (B' : Below (ktrTop dp un gd cn cs L a ccd cl []) base [envX cn cs L a ccd cl] g') (X : (Mine.hd.heap_39 w.params).In g') (T' : Top p' loose mean mg mb g') (D' : KtsDicts ([envX cn cs L a ccd cl].filterMap (·.frame)) g') (kTn : KtsTurn ([envX cn cs L a ccd cl].filterMap (·.frame)) g0 g') (hk : cs.kind = .function) (hd : dp + 19 < recursionLimit) (hu : un + 390 < cLine)
    {x : Addr} {cv : Nat} {vs : List Value} {xs : List Int} {k : Int} {tw : Tok} {o1 o2 o3 o4 o5 : Obj} {ps : Array Value} {ox dx la lc ls : Addr} {va vc v0 : List Value} {ca cc c0 : Nat} {n0 : Int} {tn t1 t2 t3 t4 t5 t6 t7 t8 : Tok}
    (F' : Fr g' L' hs (kstB u [(Str.ofString "some", .ref x), (Str.ofString "one", .ref ox), (Str.ofString "state", .int n0 tn)]))
    (N' : News g' L' hs [(ls, listOf v0.toArray c0), (dx, (dictOf [⟨PyData.keyHash w.params "a", .str "a" t1, .ref la⟩, ⟨PyData.keyHash w.params "c", .str "c" t2, .ref lc⟩, ⟨PyData.keyHash w.params "width", .str "width" t3, .int (2 + ((xs.getD (Int.toNat 0) 0).fmod 2)) t4⟩, ⟨PyData.keyHash w.params "state", .str "state" t5, .ref ls⟩, ⟨PyData.keyHash w.params "w", .str "w" t6, .int k t7⟩, ⟨PyData.keyHash w.params "mul", .str "mul" t8, .ref 249⟩] 6)), (ox, instObj 126 dx), (la, listOf va.toArray ca), (lc, listOf vc.toArray cc), (L' + 1 + 1 + 1 + 1 + 1, o5), (L' + 1 + 1 + 1 + 1, o4), (L' + 1 + 1 + 1, o3), (L' + 1 + 1, o2), (L' + 1, o1), (282, tabObj ps), (x, listOf vs.toArray cv)])
    (hi : IntsAre vs xs) (hb3 : 3 ≤ xs.length) (hb : xs.length ≤ 9) (h2 : 2 ≤ k) (h8 : k ≤ 8) (gx : ∀ z ∈ xs, 0 ≤ z) (hx : @LT.lt Nat instLTNat x L') (hp : @LT.lt Nat instLTNat 282 L') (hxp : @Ne Nat x 282) (d1 : o1.data = .cell (some (.int k tw)))
    (hia : IntsAre va [1]) (hic : IntsAre vc [1]) (hI0 : IntsAre v0 (limbsZ k (n0.fmod (2 ^ (2 + ((xs.getD (Int.toNat 0) 0).fmod 2)).toNat : Int)))) (hq0 : @Ne Nat ls dx) (hq1 : @Ne Nat ox dx) (hq2 : @Ne Nat la dx) (hq3 : @Ne Nat lc dx) (hq4 : @LT.lt Nat instLTNat (L' + 1 + 1 + 1 + 1 + 1) dx) :
    wpAny (model PySem.Challenge.rw_pq0542_01.row.prog w) ((ktrTop dp un gd cn cs L a ccd cl []).deeper (envOfC qual scope L' 287 cdv)) (execs st (envOfC qual scope L' 287 cdv)) (fun fl s' => BodyEndG ([envX cn cs L a ccd cl].filterMap (·.frame)) g0 282 [(x, listOf vs.toArray cv)] OutG (match fl with | .ret v => v | _ => .none) s0 s') (fun _ _ => False) { s0 with heap := hs, toks := tks } := by
  k_with_none
  k_with "Om" => (first | walk_at "MineRoom" | exact Int.natCast_nonneg _ | exact Mine.i_up (by with_reducible assumption) rfl | exact Mine.i_dn (by with_reducible assumption) rfl | exact Mine.i_lt (by with_reducible assumption) rfl | exact Mine.i_gt (by with_reducible assumption) rfl | exact Mine.n_up (by with_reducible assumption) rfl | exact Mine.n_eq (by with_reducible assumption) rfl | exact Mine.n_ge (by with_reducible assumption) rfl | exact Mine.sub0n)
  k_with "EvAll" => (first | exact Mine.EvAll.nil | exact Mine.evs_L (by k_asm) (by exact rfl) rfl rfl (by decide) (by walk_at "EvAll") | exact Mine.evs_C (by k_asm) (by exact rfl) (by k_mem) (by assumption) rfl rfl (by decide) (by walk_at "EvAll"))
  k_with "MineLt" => (first | ((repeat (first | exact Nat.lt_succ_self _ | refine Nat.lt_succ_of_lt ?_)); done) | ((repeat (refine Nat.lt_succ_of_lt ?_)); with_reducible assumption))
  k_with "MineLt2" => (refine Nat.lt_trans ?_ (by with_reducible assumption); walk_at "MineLt")
  k_with "MineRoom" => (k_whole; first | exact Mine.room1 (by with_reducible assumption) rfl | exact Mine.room2 (by with_reducible assumption) rfl | exact Mine.room3 (by with_reducible assumption) rfl | exact Mine.room4 (by with_reducible assumption) rfl | exact Mine.room5 (by with_reducible assumption) rfl | exact Mine.room0 (by with_reducible assumption))
  w_top off
  revert X; k_fill; intro X
  subst hst
  k_dflt (refine' tail_of (P := fun qual scope body cdv => wpAny (model PySem.Challenge.rw_pq0542_01.row.prog w) ((ktrTop dp un gd cn cs L a ccd cl []).deeper (envOfC qual scope L' 287 cdv)) (execs (body.drop 9) (envOfC qual scope L' 287 cdv)) (fun fl s' => BodyEndG ([envX cn cs L a ccd cl].filterMap (·.frame)) g0 282 [(x, listOf vs.toArray cv)] OutG (match fl with | .ret v => v | _ => .none) s0 s') (fun _ _ => False) { s0 with heap := hs, toks := tks }) ho ?e ?h; (case e => k_is))
  all_goals try dsimp only [List.drop]
  have kMark := kstMark
  have CdB : CodeHd base 286 282 := codeHd_of_K XB (by kernel_rfl)
  have Cd : CodeHd g' 286 282 := CodeHd.keeps CdB (Below.stays B')
  try k_fold
  have e0 : 0 ≤ ((xs.getD (Int.toNat 0) 0).fmod 2) := (fmod_pos (by decide)).1
  have e1 : ((xs.getD (Int.toNat 0) 0).fmod 2) ≤ 1 := (by have := (@fmod_pos (xs.getD (Int.toNat 0) 0) 2 (by decide)).2; omega)
  have hmany : (2 + ((xs.getD (Int.toNat 0) 0).fmod 2)).fdiv 2 = 1 := cg_many e0 e1
  have hPP : 0 < (2 ^ (2 + ((xs.getD (Int.toNat 0) 0).fmod 2)).toNat : Int) := kbt_pos _
  k_with "storeName" => ((with_reducible show wpAny _ _ (storeName _ _ (Value.int (Int.fdiv ((2 : Int) + _) 2) _)) _ _ _); rw [hmany])
  k_with "compareOp NotEq int int" => ((with_reducible show wpAny _ _ (compareOp _ (Value.int (Int.fdiv _ _) _) (Value.int (Int.fdiv _ _) _)) _ _ _); generalize (Int.fdiv _ (2 ^ Int.toNat (1 + _))) = X9)
  k_with "call ref" => ((with_reducible show wpAny _ _ (call (Value.ref 249) _) _ _ _); k_dflt (refine' Mine.mula_c ?uB ?uF ?uX ?uN ?uT ?uk ?ud ?uu ?p0 ?p1 ?p2 ?p3 ?p4 ?p5 ?p6 ?p7 ?_; (case uB => k_asm); (case uF => k_asm); (case uX => k_asm); (case uN => k_asm); (case uT => k_asm); (case uk => exact rfl); (case ud => ((try dsimp only [ktrTop, Around.deeper, callerA]); first | walk_at "MineRoom" | omega | decide | ((try simp only [Around.deeper_units, Around.in1_units, Around.mark_units, depth_under_make, depth_under_kw, depth_in1, depth_deeper, depth_mark, depth_caller]); (try dsimp only [ktrTop, Around.deeper, callerA]); first | walk_at "MineRoom" | omega | decide))); (case uu => ((try dsimp only [ktrTop, Around.deeper, callerA]); first | walk_at "MineRoom" | omega | decide | ((try simp only [Around.deeper_units, Around.in1_units, Around.mark_units, depth_under_make, depth_under_kw, depth_in1, depth_deeper, depth_mark, depth_caller]); (try dsimp only [ktrTop, Around.deeper, callerA]); first | walk_at "MineRoom" | omega | decide))); (case p0 => k_mem); (case p1 => k_mem); (case p2 => assumption); (case p3 => l_ints); (case p4 => first | assumption | walk_at "Om" | omega); (case p5 => first | assumption | walk_at "Om" | omega); (case p6 => exact (cg_mod e0 e1 _).1); (case p7 => exact (cg_mod e0 e1 _).2); intro r9 us9 c9 h9 tk9 F9 N9 ne9 I9; (replace ne9 := Mine.allNe_of ne9; (try simp only [Mine.AllNe, and_true] at ne9); (repeat (have hn9 := ne9.1; replace ne9 := ne9.2))); (try k_sweep); (try dsimp only); (try k_fold)))
  k_with "call ref" => ((with_reducible show wpAny _ _ (call (Value.ref 60) _) _ _ _); k_dflt (refine' Mine.add_c ?uB ?uF ?uX ?uN ?uT ?uk ?ud ?uu ?p0 ?p1 ?p2 ?p3 ?p4 ?p5 ?p6 ?p7 ?p8 ?p9 ?_; (case uB => k_asm); (case uF => k_asm); (case uX => k_asm); (case uN => k_asm); (case uT => k_asm); (case uk => exact rfl); (case ud => ((try dsimp only [ktrTop, Around.deeper, callerA]); first | walk_at "MineRoom" | omega | decide | ((try simp only [Around.deeper_units, Around.in1_units, Around.mark_units, depth_under_make, depth_under_kw, depth_in1, depth_deeper, depth_mark, depth_caller]); (try dsimp only [ktrTop, Around.deeper, callerA]); first | walk_at "MineRoom" | omega | decide))); (case uu => ((try dsimp only [ktrTop, Around.deeper, callerA]); first | walk_at "MineRoom" | omega | decide | ((try simp only [Around.deeper_units, Around.in1_units, Around.mark_units, depth_under_make, depth_under_kw, depth_in1, depth_deeper, depth_mark, depth_caller]); (try dsimp only [ktrTop, Around.deeper, callerA]); first | walk_at "MineRoom" | omega | decide))); (case p0 => k_mem); (case p1 => k_mem); (case p2 => assumption); (case p3 => l_ints); (case p4 => exact Nat.le_trans (limb_small h2 h8 (cg_mod e0 e1 _).1 (Int.lt_trans (cg_mod e0 e1 _).2 (by decide))).1 (by decide)); (case p5 => decide); (case p6 => first | assumption | walk_at "Om" | omega); (case p7 => first | assumption | walk_at "Om" | omega); (case p8 => exact fun z hz => ((limb_small h2 h8 (cg_mod e0 e1 _).1 (Int.lt_trans (cg_mod e0 e1 _).2 (by decide))).2.1 z hz).1); (case p9 => exact (fun _ h9 => (one_small _ h9).1)); intro r9 us9 c9 h9 tk9 F9 N9 ne9 I9; (replace ne9 := Mine.allNe_of ne9; (try simp only [Mine.AllNe, and_true] at ne9); (repeat (have hn9 := ne9.1; replace ne9 := ne9.2))); rw [limbs_inc h2 (cg_mod e0 e1 _).1 (Int.le_of_lt (Int.lt_trans (cg_mod e0 e1 _).2 (by decide)))] at I9; (try k_sweep); (try dsimp only); (try k_fold)))
  k_with "call ref" => ((with_reducible show wpAny _ _ (call (Value.ref 95) _) _ _ _); k_dflt (refine' Mine.low_c ?uB ?uF ?uX ?uN ?uT ?uk ?ud ?uu ?p0 ?p1 ?p2 ?p3 ?p4 ?p5 ?p6 ?_; (case uB => k_asm); (case uF => k_asm); (case uX => k_asm); (case uN => k_asm); (case uT => k_asm); (case uk => exact rfl); (case ud => ((try dsimp only [ktrTop, Around.deeper, callerA]); first | walk_at "MineRoom" | omega | decide | ((try simp only [Around.deeper_units, Around.in1_units, Around.mark_units, depth_under_make, depth_under_kw, depth_in1, depth_deeper, depth_mark, depth_caller]); (try dsimp only [ktrTop, Around.deeper, callerA]); first | walk_at "MineRoom" | omega | decide))); (case uu => ((try dsimp only [ktrTop, Around.deeper, callerA]); first | walk_at "MineRoom" | omega | decide | ((try simp only [Around.deeper_units, Around.in1_units, Around.mark_units, depth_under_make, depth_under_kw, depth_in1, depth_deeper, depth_mark, depth_caller]); (try dsimp only [ktrTop, Around.deeper, callerA]); first | walk_at "MineRoom" | omega | decide))); (case p0 => k_mem); (case p1 => assumption); (case p2 => exact Nat.le_trans (limb_small h2 h8 (Int.add_nonneg (cg_mod e0 e1 _).1 (by decide)) (Int.lt_trans (Int.add_lt_add_right (cg_mod e0 e1 _).2 1) (by decide))).1 (by decide)); (case p3 => first | assumption | walk_at "Om" | omega); (case p4 => first | assumption | walk_at "Om" | omega); (case p5 => first | assumption | walk_at "Om" | omega); (case p6 => first | assumption | walk_at "Om" | omega); intro rL usL cL h9 tk9 F9 N9 ne9 IL; have nwL := ne9; (replace ne9 := Mine.allNe_of ne9; (try simp only [Mine.AllNe, and_true] at ne9); (repeat (have hn9 := ne9.1; replace ne9 := ne9.2))); rw [cg_low e0 e1 h2 h8 (Int.add_nonneg (cg_mod e0 e1 _).1 (by decide)) (Int.lt_trans (Int.add_lt_add_right (cg_mod e0 e1 _).2 1) (by decide))] at IL; rw [cg_inc e0 e1 st7] at IL; (try k_sweep); (try dsimp only); (try k_fold)))
  k_with "call ref" => ((with_reducible show wpAny _ _ (call (Value.ref 81) _) _ _ _); k_dflt (refine' Mine.shr_c ?uB ?uF ?uX ?uN ?uT ?uk ?ud ?uu ?p0 ?p1 ?p2 ?p3 ?p4 ?p5 ?p6 ?p7 ?_; (case uB => k_asm); (case uF => k_asm); (case uX => k_asm); (case uN => k_asm); (case uT => k_asm); (case uk => exact rfl); (case ud => ((try dsimp only [ktrTop, Around.deeper, callerA]); first | walk_at "MineRoom" | omega | decide | ((try simp only [Around.deeper_units, Around.in1_units, Around.mark_units, depth_under_make, depth_under_kw, depth_in1, depth_deeper, depth_mark, depth_caller]); (try dsimp only [ktrTop, Around.deeper, callerA]); first | walk_at "MineRoom" | omega | decide))); (case uu => ((try dsimp only [ktrTop, Around.deeper, callerA]); first | walk_at "MineRoom" | omega | decide | ((try simp only [Around.deeper_units, Around.in1_units, Around.mark_units, depth_under_make, depth_under_kw, depth_in1, depth_deeper, depth_mark, depth_caller]); (try dsimp only [ktrTop, Around.deeper, callerA]); first | walk_at "MineRoom" | omega | decide))); (case p0 => k_mem); (case p1 => assumption); (case p2 => exact Nat.le_trans (limb_small h2 h8 (cg_mod e0 e1 _).1 (Int.lt_trans (cg_mod e0 e1 _).2 (by decide))).1 (by decide)); (case p3 => first | assumption | walk_at "Om" | omega); (case p4 => first | assumption | walk_at "Om" | omega); (case p5 => first | assumption | walk_at "Om" | omega); (case p6 => first | assumption | walk_at "Om" | omega); (case p7 => exact (limb_small h2 h8 (cg_mod e0 e1 _).1 (Int.lt_trans (cg_mod e0 e1 _).2 (by decide))).2.1); intro r9 us9 c9 h9 tk9 F9 N9 ne9 I9; (replace ne9 := Mine.allNe_of ne9; (try simp only [Mine.AllNe, and_true] at ne9); (repeat (have hn9 := ne9.1; replace ne9 := ne9.2))); rw [cg_shr e0 e1 h2 h8 (cg_mod e0 e1 _).1 (cg_mod e0 e1 _).2] at I9; (try k_sweep); (try dsimp only); (try k_fold)))
  k_with "call ref" => ((with_reducible show wpAny _ _ (call (Value.ref 261) _) _ _ _); k_dflt (refine' Mine.worth_c ?uB ?uF ?uX ?uN ?uT ?uk ?ud ?uu ?p0 ?p1 ?p2 ?p3 ?p4 ?p5 ?_; (case uB => k_asm); (case uF => k_asm); (case uX => k_asm); (case uN => k_asm); (case uT => k_asm); (case uk => exact rfl); (case ud => ((try dsimp only [ktrTop, Around.deeper, callerA]); first | walk_at "MineRoom" | omega | decide | ((try simp only [Around.deeper_units, Around.in1_units, Around.mark_units, depth_under_make, depth_under_kw, depth_in1, depth_deeper, depth_mark, depth_caller]); (try dsimp only [ktrTop, Around.deeper, callerA]); first | walk_at "MineRoom" | omega | decide))); (case uu => ((try dsimp only [ktrTop, Around.deeper, callerA]); first | walk_at "MineRoom" | omega | decide | ((try simp only [Around.deeper_units, Around.in1_units, Around.mark_units, depth_under_make, depth_under_kw, depth_in1, depth_deeper, depth_mark, depth_caller]); (try dsimp only [ktrTop, Around.deeper, callerA]); first | walk_at "MineRoom" | omega | decide))); (case p5 => k_mem); (case p0 => assumption); (case p1 => exact (limb_small h2 h8 (cg_div e0 e1 (cg_mod e0 e1 _).1 (cg_mod e0 e1 _).2).1 (Int.lt_trans (cg_div e0 e1 (cg_mod e0 e1 _).1 (cg_mod e0 e1 _).2).2 (by decide))).1); (case p2 => first | assumption | walk_at "Om" | omega); (case p3 => first | assumption | walk_at "Om" | omega); (case p4 => exact (limb_small h2 h8 (cg_div e0 e1 (cg_mod e0 e1 _).1 (cg_mod e0 e1 _).2).1 (Int.lt_trans (cg_div e0 e1 (cg_mod e0 e1 _).1 (cg_mod e0 e1 _).2).2 (by decide))).2.1); intro t9 h9 tk9 F9 N9; rw [(limb_small h2 h8 (cg_div e0 e1 (cg_mod e0 e1 _).1 (cg_mod e0 e1 _).2).1 (Int.lt_trans (cg_div e0 e1 (cg_mod e0 e1 _).1 (cg_mod e0 e1 _).2).2 (by decide))).2.2]; (try k_sweep); (try dsimp only); (try k_fold)))
  k_with "pyIter ref" => k_dflt ((with_reducible show wpAny _ _ (pyIter (Value.ref _)) (fun it s₂ => LoopAtV _ _ _ _ _ _ _ _ _ it s₂) _ _); (rename Fr _ _ _ _ => lF'); (rename News _ _ _ _ => lN'); (rename IsRange _ _ _ _ _ _ _ _ => rgX); (with_unfolding_all refine' loop_run (n := 5) (σ := Addr × List Value × Nat × Int × Tok) (fun c => (c.1, listOf c.2.1.toArray c.2.2.1) :: (dx, (dictOf [⟨PyData.keyHash w.params "a", .str "a" t1, .ref la⟩, ⟨PyData.keyHash w.params "c", .str "c" t2, .ref lc⟩, ⟨PyData.keyHash w.params "width", .str "width" t3, .int (2 + ((xs.getD (Int.toNat 0) 0).fmod 2)) t4⟩, ⟨PyData.keyHash w.params "state", .str "state" t5, .ref c.1⟩, ⟨PyData.keyHash w.params "w", .str "w" t6, .int k t7⟩, ⟨PyData.keyHash w.params "mul", .str "mul" t8, .ref 249⟩] 6)) :: (ox, instObj 126 dx) :: (la, listOf va.toArray ca) :: (lc, listOf vc.toArray cc) :: (L' + 1 + 1 + 1 + 1 + 1, o5) :: (L' + 1 + 1 + 1 + 1, o4) :: (L' + 1 + 1 + 1, o3) :: (L' + 1 + 1, o2) :: (L' + 1, o1) :: (282, tabObj ps) :: (x, listOf vs.toArray cv) :: []) (fun c => [(Str.ofString "state", .int c.2.2.2.1 c.2.2.2.2)]) [Str.ofString "part", Str.ofString "many"] (fun i c => IntsAre c.2.1 (limbsZ k (c.2.2.2.1.fmod (2 ^ (2 + ((xs.getD (Int.toNat 0) 0).fmod 2)).toNat : Int))) ∧ @Ne Nat c.1 dx) (ls, v0, c0, n0, tn) (by rfl) rgX (by decide) (by rfl) lF' ?kn ?kk ?kp ?kt ?kd); (case kn => with_unfolding_all exact kst_newsOf lN' (by (dsimp only; kst_allIn))); (case kk => kst_all); (case kp => exact ⟨hI0, hq0⟩); (case' kt => (clear lF' lN'; refine Mine.prod5 ?_; intro r7 us7 c7 st7 ts7 i7 t7 u7 h7 tk7 own7 hlt7 hoff7 hP7 F7 N7; have hI7 := hP7.1; have hd7 := hP7.2; clear hP7; dsimp only at hoff7 hI7 hd7 F7 N7; simp only [List.map_cons, List.map_nil] at hoff7; simp only [List.cons_append, List.nil_append] at N7; have kMark := kstMark; try k_fold)); (case' kd => (clear lF' lN'; refine Mine.prod5 ?_; intro r7 us7 c7 st7 ts7 u7 h7 tk7 hP7 F7 N7; dsimp only at F7 N7)))
  k_with "RunEnd" => k_dflt ((rename News _ _ _ _ => nE'); (refine' run_end (rL, usL, cL, (st7 + 1).fmod (2 ^ (2 + ((xs.getD (Int.toNat 0) 0).fmod 2)).toNat : Int), _) ?za nE' ?zb ?zc ?zd ?ze ?zf ?zg); (case za => assumption); (case zb => kst_in); (case zc => (intro p hp; kst_mem)); (case zd => exact led2_off (fun q h9 => nwL q (by kst_mem)) hoff7); (case ze => first | kst_all | (refine List.forall_mem_cons.mpr ⟨?_, List.forall_mem_nil _⟩; with_unfolding_all rfl)); (case zf => (intro z h1 h2 h3; have hs := h2 _ (List.Mem.head _); have hp : z ≠ Str.ofString "part" := (by intro e; rw [e] at h3; simp at h3); have hm : z ≠ Str.ofString "many" := (by intro e; rw [e] at h3; simp at h3); with_unfolding_all exact cg_same h1 hs hp hm)); (case zg => (dsimp only; exact ⟨(by rw [fm_idem _ _ hPP]; exact IL), by omega⟩)))
  k_with "BodyEnd" => (k_dflt (first
  | ((refine Mine.end_new (by k_asm) (by k_asm) (by k_mem) (by kst_allIn) (by k_all) ?_); (refine Mine.outI ?_))
  | ((refine Mine.end_val (by k_asm) (by k_asm) (by kst_allIn) ?_))))
  k_with "BodyEndG" => (k_dflt (refine Mine.endG (by k_asm) (by k_asm) (by first | assumption | exact KtsTurn.refl) (by k_mem) (by kst_allIn) ?_))
  k_with "callWith ref" => ((k_here; k_dflt (refine' callWith_K ?k1 ?k2 ?_; (case k1 => k_asm); (case k2 => k_is); k_whole)))
  k_with "subscriptTail Name Slice ref ref" => (((with_reducible show wpAny _ _ (subscriptTail _ (PySem.Expr.Slice _ _ none _) (Value.ref _) (Value.ref _)) _ _ _); k_dflt (refine' kmk_slice_ints ?sF ?sN ?sl ?sp ?sq ?si ?sm ?sc ?_ ?ss ?st ?sz; (case sF => k_asm); (case sN => k_asm); (case sl => kmk_list); (case sp => kmk_part); (case sq => kmk_part); (case si => l_ints); (case sm => first | (with_reducible exact kmk_all (by assumption)) | (with_reducible exact kmk_upto (by assumption) (by first | assumption | walk_at "Om" | omega))); (case sc => exact rfl); (case ss => with_unfolding_all rfl); (case st => kmk_pure); (case sz => exact kmk_sz (by assumption) (by rw [sizeLine_eq]; omega)); intro D9 ws9 h9 F9 N9 l9 I9 C9 L9; (try k_lt l9); (try k_sweep))))
  k_with "BodyEndU" => (first
  | ((refine Mine.end_newU (by k_asm) (by k_asm) (by k_mem) (by k_mem) (by kst_allIn) (And.intro (by k_ne) (Mine.ne_allOf (by (simp only [Mine.AllNe, and_true]; (repeat' (refine And.intro ?_ ?_)) <;> first | assumption | k_ne)))) ?_))
  | ((refine Mine.end_valU (by k_asm) (by k_asm) (by k_mem) (by kst_allIn) ?_)))
  k_with "RunPost" => ((dsimp only [Mine.RunPost]))
  k_with "eval Call" => ((with_reducible show wpAny _ _ (eval (PySem.Expr.Call (PySem.Expr.Name _ _) (PySem.Expr.Name _ _ :: _) [] _) _) _ _ _); k_dflt (first | (refine' Mine.call_names ?zF ?zX ?zT ?ze ?zk ?za ?zz ?zx ?zd ?zh ?zp ?_; (case zx => exact rfl); (case zz => exact rfl); (case zF => k_asm); (case zX => k_asm); (case zT => k_asm); (case ze => k_is); (case zk => k_is); (case za => walk_at "EvAll"); (case zd => decide); (case zh => exact rfl); (case zp => exact rfl)) | (refine' Mine.call_namesB ?zF ?zX ?zT ?ze ?zv ?zn ?za ?zz ?zx ?zd ?zh ?zp ?_; (case zx => exact rfl); (case zz => exact rfl); (case zF => k_asm); (case zX => k_asm); (case zT => k_asm); (case ze => k_is); (case zv => boot_by_name); (case zn => decide); (case za => walk_at "EvAll"); (case zd => decide); (case zh => exact rfl); (case zp => exact rfl))))
  k_with "storeName" => (dsimp only; walk_at "storeName")
  k_with "execs cons" => (k_fold; walk_at "execs cons")
  k_with "eval Call" => (k_fold; walk_at "eval Call")
  k_with "isTrue Compare" => (k_fold; walk_at "isTrue Compare")
  k_with "eval Compare" => (k_fold; walk_at "eval Compare")
  k_with "eval BinOp" => (k_fold; walk_at "eval BinOp")
  k_with "eval Subscript" => (k_fold; walk_at "eval Subscript")
  first | (refine (id (α := let zA9 := _; let ze9 := _; let zg9 := _; let zd9 := _; let zo9 := _; wpAny _ zA9 (execs _ ze9) _ _ (Shared.mk _ zg9 zd9 _ zo9)) ?_); intro zA9 ze9 zg9 zd9 zo9) | skip
  k_with "execs cons" => ((rename Fr _ _ _ _ => lF); (refine (id (α := let zu9 := _; Fr _ _ _ zu9 → _) ?_) lF); clear lF; intro zu9 lF9; (try k_gentoks); refine wpAny_execs_cons ?_; (try dsimp only))
  k_steps
  all_goals first | exact outG | (exfalso; omega) | contradiction

end Mine
end

section
open PySem PySem.W PySem.Spec PySem.Calls PyProof.Rows

namespace Mine
set_option maxRecDepth 100000 in
set_option maxHeartbeats 8000000 in
theorem ntail8 {w : World} {p' : Program} {loose : List Str} {mean : ExcName → Option Value} {mg mb u : Str → Option Value} {dp un : Nat} {gd : Option (List Code)} {cn : Str} {cs : Scope} {a L' : Addr} {ccd : Value} {cl : List (Str × Addr)} {base g0 g' : Heap} {L : Addr} {s0 : Shared} {hs : Heap} {tks : Nat}
    {name qual : Str} {params : Arguments} {body st : List Stmt} {scope : Scope} {dV kV doc pm cdv ct oc : Value} {an od : Option Addr} {osl : Array (Option Value)}
    (ho : (Mine.hd.heap_39 w.params).lookup 287 = some ⟨oc, od, .func (fnOf name qual params body scope dV kV doc pm an cdv ct), osl⟩) (hst : body.drop 8 = st)
    (XB : (Mine.hd.heap_39 w.params).In base) (TB : Top p' loose mean mg mb base) (B' : Below (ktrTop dp un gd cn cs L a ccd cl []) base [envX cn cs L a ccd cl] g') (X : (Mine.hd.heap_39 w.params).In g') (T' : Top p' loose mean mg mb g') (D' : KtsDicts ([envX cn cs L a ccd cl].filterMap (·.frame)) g') (kTn : KtsTurn ([envX cn cs L a ccd cl].filterMap (·.frame)) g0 g') (hk : cs.kind = .function) (hd : dp + 19 < recursionLimit) (hu : un + 390 < cLine)
    {x : Addr} {c : Nat} {vs : List Value} {xs : List Int} {k : Int} {tw : Tok} {o1 o2 o3 o4 o5 : Obj} {ps : Array Value}
    (F' : Fr g' L' hs (kstB u [(Str.ofString "some", .ref x)]))
    (N' : News g' L' hs [(L' + 1 + 1 + 1 + 1 + 1, o5), (L' + 1 + 1 + 1 + 1, o4), (L' + 1 + 1 + 1, o3), (L' + 1 + 1, o2), (L' + 1, o1), (282, tabObj ps), (x, listOf vs.toArray c)])
    (hi : IntsAre vs xs) (hb3 : 3 ≤ xs.length) (hb : xs.length ≤ 9) (h2 : 2 ≤ k) (h8 : k ≤ 8) (gx : ∀ z ∈ xs, 0 ≤ z) (hx : @LT.lt Nat instLTNat x L') (hp : @LT.lt Nat instLTNat 282 L') (hxp : @Ne Nat x 282) (d1 : o1.data = .cell (some (.int k tw)))
     :
    wpAny (model PySem.Challenge.rw_pq0542_01.row.prog w) ((ktrTop dp un gd cn cs L a ccd cl []).deeper (envOfC qual scope L' 287 cdv)) (execs st (envOfC qual scope L' 287 cdv)) (fun fl s' => BodyEndG ([envX cn cs L a ccd cl].filterMap (·.frame)) g0 282 [(x, listOf vs.toArray c)] OutG (match fl with | .ret v => v | _ => .none) s0 s') (fun _ _ => False) { s0 with heap := hs, toks := tks } := by
  k_with_none
  k_with "Om" => (first | walk_at "MineRoom" | exact Int.natCast_nonneg _ | exact Mine.i_up (by with_reducible assumption) rfl | exact Mine.i_dn (by with_reducible assumption) rfl | exact Mine.i_lt (by with_reducible assumption) rfl | exact Mine.i_gt (by with_reducible assumption) rfl | exact Mine.n_up (by with_reducible assumption) rfl | exact Mine.n_eq (by with_reducible assumption) rfl | exact Mine.n_ge (by with_reducible assumption) rfl | exact Mine.sub0n)
  k_with "EvAll" => (first | exact Mine.EvAll.nil | exact Mine.evs_L (by k_asm) (by exact rfl) rfl rfl (by decide) (by walk_at "EvAll") | exact Mine.evs_C (by k_asm) (by exact rfl) (by k_mem) (by assumption) rfl rfl (by decide) (by walk_at "EvAll"))
  k_with "MineLt" => (first | ((repeat (first | exact Nat.lt_succ_self _ | refine Nat.lt_succ_of_lt ?_)); done) | ((repeat (refine Nat.lt_succ_of_lt ?_)); with_reducible assumption))
  k_with "MineLt2" => (refine Nat.lt_trans ?_ (by with_reducible assumption); walk_at "MineLt")
  k_with "MineRoom" => (k_whole; first | exact Mine.room1 (by with_reducible assumption) rfl | exact Mine.room2 (by with_reducible assumption) rfl | exact Mine.room3 (by with_reducible assumption) rfl | exact Mine.room4 (by with_reducible assumption) rfl | exact Mine.room5 (by with_reducible assumption) rfl | exact Mine.room0 (by with_reducible assumption))
  w_top off
  revert X; k_fill; intro X
  subst hst
  k_dflt (refine' tail_of (P := fun qual scope body cdv => wpAny (model PySem.Challenge.rw_pq0542_01.row.prog w) ((ktrTop dp un gd cn cs L a ccd cl []).deeper (envOfC qual scope L' 287 cdv)) (execs (body.drop 8) (envOfC qual scope L' 287 cdv)) (fun fl s' => BodyEndG ([envX cn cs L a ccd cl].filterMap (·.frame)) g0 282 [(x, listOf vs.toArray c)] OutG (match fl with | .ret v => v | _ => .none) s0 s') (fun _ _ => False) { s0 with heap := hs, toks := tks }) ho ?e ?h; (case e => k_is))
  all_goals try dsimp only [List.drop]
  have kMark := kstMark
  have CdB : CodeHd base 286 282 := codeHd_of_K XB (by kernel_rfl)
  have Cd : CodeHd g' 286 282 := CodeHd.keeps CdB (Below.stays B')
  try k_fold
  have e0 : 0 ≤ ((xs.getD (Int.toNat 0) 0).fmod 2) := (fmod_pos (by decide)).1
  have e1 : ((xs.getD (Int.toNat 0) 0).fmod 2) ≤ 1 := (by have := (@fmod_pos (xs.getD (Int.toNat 0) 0) 2 (by decide)).2; omega)
  have hmany : (2 + ((xs.getD (Int.toNat 0) 0).fmod 2)).fdiv 2 = 1 := cg_many e0 e1
  have n0 : 0 ≤ (xs.getD (Int.toNat 1) 0).fmod 16 ∧ (xs.getD (Int.toNat 1) 0).fmod 16 < 16 := fmod_pos (by decide)
  k_with "call ref" => ((with_reducible show wpAny _ _ (call (Value.ref 256) _) _ _ _); k_dflt (refine' Mine.limbs_c ?uB ?uF ?uX ?uN ?uT ?uk ?ud ?uu ?p0 ?p1 ?p2 ?p3 ?_; (case uB => k_asm); (case uF => k_asm); (case uX => k_asm); (case uN => k_asm); (case uT => k_asm); (case uk => exact rfl); (case ud => ((try dsimp only [ktrTop, Around.deeper, callerA]); first | walk_at "MineRoom" | omega | decide | ((try simp only [Around.deeper_units, Around.in1_units, Around.mark_units, depth_under_make, depth_under_kw, depth_in1, depth_deeper, depth_mark, depth_caller]); (try dsimp only [ktrTop, Around.deeper, callerA]); first | walk_at "MineRoom" | omega | decide))); (case uu => ((try dsimp only [ktrTop, Around.deeper, callerA]); first | walk_at "MineRoom" | omega | decide | ((try simp only [Around.deeper_units, Around.in1_units, Around.mark_units, depth_under_make, depth_under_kw, depth_in1, depth_deeper, depth_mark, depth_caller]); (try dsimp only [ktrTop, Around.deeper, callerA]); first | walk_at "MineRoom" | omega | decide))); (case p0 => first | assumption | walk_at "Om" | omega); (case p1 => first | assumption | walk_at "Om" | omega); (case p2 => first | assumption | walk_at "Om" | omega); (case p3 => first | assumption | walk_at "Om" | omega); intro r9 us9 c9 h9 tk9 F9 N9 ne9 I9; (replace ne9 := Mine.allNe_of ne9; (try simp only [Mine.AllNe, and_true] at ne9); (repeat (have hn9 := ne9.1; replace ne9 := ne9.2))); (try k_sweep); (try dsimp only); (try k_fold)))
  k_with "call ref" => ((with_reducible show wpAny _ _ (call (Value.ref 95) _) _ _ _); k_dflt (refine' Mine.low_c (xs := limbsZ k (((xs.getD (Int.toNat 1) 0)).fmod 16)) ?uB ?uF ?uX ?uN ?uT ?uk ?ud ?uu ?p0 ?p1 ?p2 ?p3 ?p4 ?p5 ?p6 ?_; (case uB => k_asm); (case uF => k_asm); (case uX => k_asm); (case uN => k_asm); (case uT => k_asm); (case uk => exact rfl); (case ud => ((try dsimp only [ktrTop, Around.deeper, callerA]); first | walk_at "MineRoom" | omega | decide | ((try simp only [Around.deeper_units, Around.in1_units, Around.mark_units, depth_under_make, depth_under_kw, depth_in1, depth_deeper, depth_mark, depth_caller]); (try dsimp only [ktrTop, Around.deeper, callerA]); first | walk_at "MineRoom" | omega | decide))); (case uu => ((try dsimp only [ktrTop, Around.deeper, callerA]); first | walk_at "MineRoom" | omega | decide | ((try simp only [Around.deeper_units, Around.in1_units, Around.mark_units, depth_under_make, depth_under_kw, depth_in1, depth_deeper, depth_mark, depth_caller]); (try dsimp only [ktrTop, Around.deeper, callerA]); first | walk_at "MineRoom" | omega | decide))); (case p0 => k_mem); (case p1 => assumption); (case p2 => exact Nat.le_trans (limb_small h2 h8 n0.1 (Int.lt_trans n0.2 (by decide))).1 (by decide)); (case p3 => first | assumption | walk_at "Om" | omega); (case p4 => first | assumption | walk_at "Om" | omega); (case p5 => first | assumption | walk_at "Om" | omega); (case p6 => first | assumption | walk_at "Om" | omega); intro r9 us9 c9 h9 tk9 F9 N9 ne9 I9; (replace ne9 := Mine.allNe_of ne9; (try simp only [Mine.AllNe, and_true] at ne9); (repeat (have hn9 := ne9.1; replace ne9 := ne9.2))); rw [cg_low e0 e1 h2 h8 n0.1 (Int.lt_trans n0.2 (by decide))] at I9; (try k_sweep); (try dsimp only); (try k_fold)))
  k_with "execs cons" => ((with_reducible show wpAny _ _ (execs (PySem.Stmt.For _ _ _ _ _ :: _) _) _ _ _); (rename Fr _ _ _ _ => lF'); (rename News _ _ _ _ => lN'); k_dflt (refine' ntail9 ?aho ?ahst ?aXB ?aTB ?aB ?aX ?aT ?aD ?aK ?ahk ?ahd ?ahu ?aF ?aN ?ahi ?ahb3 ?ahb ?ah2 ?ah8 ?agx ?ahx ?ahp ?ahxp ?ad1 ?ap0 ?ap1 ?ap2 ?ap3 ?ap4 ?ap5 ?ap6 ?ap7; (case aho => k_is); (case ahst => exact rfl); (case aF => exact fr_names lF' (by kst_all)); (case aN => exact kst_newsOf lN' (by kst_allIn)); (case aXB => exact XB); (case aTB => exact TB); (case aB => assumption); (case aX => assumption); (case aT => assumption); (case aD => assumption); (case aK => exact kTn); (case ahk => exact hk); (case ahd => first | walk_at "Om" | omega); (case ahu => first | walk_at "Om" | omega); (case ahi => exact hi); (case ahb3 => exact hb3); (case ahb => exact hb); (case ah2 => exact h2); (case ah8 => exact h8); (case agx => exact gx); (case ahx => first | walk_at "Om" | omega); (case ahp => first | walk_at "Om" | omega); (case ahxp => first | walk_at "Om" | omega); (case ad1 => assumption); (case ap0 => l_ints); (case ap1 => l_ints); (case ap2 => assumption); (case ap3 => k_ne); (case ap4 => k_ne); (case ap5 => k_ne); (case ap6 => k_ne); (case ap7 => first | omega | k_ne)))
  k_with "BodyEnd" => (k_dflt (first
  | ((refine Mine.end_new (by k_asm) (by k_asm) (by k_mem) (by kst_allIn) (by k_all) ?_); (refine Mine.outI ?_))
  | ((refine Mine.end_val (by k_asm) (by k_asm) (by kst_allIn) ?_))))
  k_with "BodyEndG" => (k_dflt (refine Mine.endG (by k_asm) (by k_asm) (by first | assumption | exact KtsTurn.refl) (by k_mem) (by kst_allIn) ?_))
  k_with "callWith ref" => ((k_here; k_dflt (refine' callWith_K ?k1 ?k2 ?_; (case k1 => k_asm); (case k2 => k_is); k_whole)))
  k_with "subscriptTail Name Slice ref ref" => (((with_reducible show wpAny _ _ (subscriptTail _ (PySem.Expr.Slice _ _ none _) (Value.ref _) (Value.ref _)) _ _ _); k_dflt (refine' kmk_slice_ints ?sF ?sN ?sl ?sp ?sq ?si ?sm ?sc ?_ ?ss ?st ?sz; (case sF => k_asm); (case sN => k_asm); (case sl => kmk_list); (case sp => kmk_part); (case sq => kmk_part); (case si => l_ints); (case sm => first | (with_reducible exact kmk_all (by assumption)) | (with_reducible exact kmk_upto (by assumption) (by first | assumption | walk_at "Om" | omega))); (case sc => exact rfl); (case ss => with_unfolding_all rfl); (case st => kmk_pure); (case sz => exact kmk_sz (by assumption) (by rw [sizeLine_eq]; omega)); intro D9 ws9 h9 F9 N9 l9 I9 C9 L9; (try k_lt l9); (try k_sweep))))
  k_with "BodyEndU" => (first
  | ((refine Mine.end_newU (by k_asm) (by k_asm) (by k_mem) (by k_mem) (by kst_allIn) (And.intro (by k_ne) (Mine.ne_allOf (by (simp only [Mine.AllNe, and_true]; (repeat' (refine And.intro ?_ ?_)) <;> first | assumption | k_ne)))) ?_))
  | ((refine Mine.end_valU (by k_asm) (by k_asm) (by k_mem) (by kst_allIn) ?_)))
  k_with "eval Call" => ((with_reducible show wpAny _ _ (eval (PySem.Expr.Call (PySem.Expr.Name _ _) (PySem.Expr.Name _ _ :: _) [] _) _) _ _ _); k_dflt (first | (refine' Mine.call_names ?zF ?zX ?zT ?ze ?zk ?za ?zz ?zx ?zd ?zh ?zp ?_; (case zx => exact rfl); (case zz => exact rfl); (case zF => k_asm); (case zX => k_asm); (case zT => k_asm); (case ze => k_is); (case zk => k_is); (case za => walk_at "EvAll"); (case zd => decide); (case zh => exact rfl); (case zp => exact rfl)) | (refine' Mine.call_namesB ?zF ?zX ?zT ?ze ?zv ?zn ?za ?zz ?zx ?zd ?zh ?zp ?_; (case zx => exact rfl); (case zz => exact rfl); (case zF => k_asm); (case zX => k_asm); (case zT => k_asm); (case ze => k_is); (case zv => boot_by_name); (case zn => decide); (case za => walk_at "EvAll"); (case zd => decide); (case zh => exact rfl); (case zp => exact rfl))))
  k_with "storeName" => (dsimp only; walk_at "storeName")
  k_with "execs cons" => (k_fold; walk_at "execs cons")
  k_with "eval Call" => (k_fold; walk_at "eval Call")
  k_with "isTrue Compare" => (k_fold; walk_at "isTrue Compare")
  k_with "eval Compare" => (k_fold; walk_at "eval Compare")
  k_with "eval BinOp" => (k_fold; walk_at "eval BinOp")
  k_with "eval Subscript" => (k_fold; walk_at "eval Subscript")
  first | (refine (id (α := let zA9 := _; let ze9 := _; let zg9 := _; let zd9 := _; let zo9 := _; wpAny _ zA9 (execs _ ze9) _ _ (Shared.mk _ zg9 zd9 _ zo9)) ?_); intro zA9 ze9 zg9 zd9 zo9) | skip
  k_steps
  all_goals exact outG

end Mine
end

section
open PySem PySem.W PySem.Spec PySem.Calls PyProof.Rows

namespace Mine

set_option maxRecDepth 100000 in
set_option maxHeartbeats 8000000 in
theorem refC_c {w : World} {p' : Program} {loose : List Str} {mean : ExcName → Option Value} {mg mb : Str → Option Value} {dp un : Nat} {gd : Option (List Code)} {cn : Str} {cs : Scope} {a L L' : Addr} {ccd : Value} {cl : List (Str × Addr)} {A₀ : Around} {base G : Heap} {env₀ : Env} {oL : Obj} {sl : Array (Option Value)} {gl : Obj → List (Addr × Obj)} {m : Str → Option Value} {news need : List (Addr × Obj)} {s : Shared} {Q E : Value → Shared → Prop}
    {lq : Str} {la : Arguments} {lb : PySem.Expr} {lsc : Scope} {pm ctv : Value} {lf lc : Addr} {oc' : Obj} {lvs : Array Value} {lt : Tok} {cd cw : Addr} {od ow : Obj} {k width : Int} {tw td : Tok}
    (hl : (lamAt 32 7) = some (la, lb, lsc)) (F : Fr (shut G L) L' s.heap m) (N : News (shut G L) L' s.heap news) (B : Below A₀ base [env₀] G) (hf₀ : env₀.frame = some L) (hG : G.get? L = some oL)
    (U : UpdF L { oL with slots := sl } news gl) (R : Rem L { oL with slots := sl } news need) (hne : ∀ q ∈ need, q.1 ≠ L) (XB : (Mine.hd.heap_39 w.params).In base) (TB : Top p' loose mean mg mb base) (D : KtsDicts ([env₀].filterMap (·.frame)) G) (hk : cs.kind = .function) (hd : dp + 12 < recursionLimit) (hu : un + 200 < cLine)
    (m1 : (lf, kla_obj (Str.ofString "<lambda>") lq la lb lsc [(Str.ofString "width", cd), (Str.ofString "w", cw)] pm lc ctv) ∈ need) (m2 : (lc, oc') ∈ need) (e1 : oc'.data = .fields lvs) (e2 : lvs[1]? = some (.str lq lt)) (n1 : @LT.lt Nat instLTNat lc lf) (m3 : (cd, od) ∈ need) (m4 : (cw, ow) ∈ need) (e3 : od.data = .cell (some (.int width td))) (e4 : ow.data = .cell (some (.int k tw))) (n2 : @LT.lt Nat instLTNat cd lc) (n3 : @LT.lt Nat instLTNat cw lc) (n4 : @Ne Nat cd cw) (n5 : @Ne Nat cw cd) (w0 : 0 ≤ width) (w3 : width ≤ 3) (h2 : 2 ≤ k) (h8 : k ≤ 8)
    (ret : ∀ b sl' h' tk', (b = true ↔ width < 2) → Fr (shut G L) L' h' m → News (shut G L) L' h' (gl { oL with slots := sl' }) → Q (.bool b) { s with heap := h', toks := tk' }) :
    wpAny (model PySem.Challenge.rw_pq0542_01.row.prog w) (ktrTop dp un gd cn cs L' a ccd cl [env₀]) (call (.ref 275) [Value.ref lf]) Q E s := by
  k_with_none
  k_with "Om" => (first | walk_at "MineRoom" | exact Int.natCast_nonneg _ | exact Mine.i_up (by with_reducible assumption) rfl | exact Mine.i_dn (by with_reducible assumption) rfl | exact Mine.i_lt (by with_reducible assumption) rfl | exact Mine.i_gt (by with_reducible assumption) rfl | exact Mine.n_up (by with_reducible assumption) rfl | exact Mine.n_eq (by with_reducible assumption) rfl | exact Mine.n_ge (by with_reducible assumption) rfl | exact Mine.sub0n)
  k_with "EvAll" => (first | exact Mine.EvAll.nil | exact Mine.evs_L (by k_asm) (by exact rfl) rfl rfl (by decide) (by walk_at "EvAll") | exact Mine.evs_C (by k_asm) (by exact rfl) (by k_mem) (by assumption) rfl rfl (by decide) (by walk_at "EvAll"))
  k_with "MineLt" => (first | ((repeat (first | exact Nat.lt_succ_self _ | refine Nat.lt_succ_of_lt ?_)); done) | ((repeat (refine Nat.lt_succ_of_lt ?_)); with_reducible assumption))
  k_with "MineLt2" => (refine Nat.lt_trans ?_ (by with_reducible assumption); walk_at "MineLt")
  k_with "MineRoom" => (k_whole; first | exact Mine.room1 (by with_reducible assumption) rfl | exact Mine.room2 (by with_reducible assumption) rfl | exact Mine.room3 (by with_reducible assumption) rfl | exact Mine.room4 (by with_reducible assumption) rfl | exact Mine.room5 (by with_reducible assumption) rfl | exact Mine.room0 (by with_reducible assumption))
  w_top off
  revert XB; k_fill; intro XB
  obtain ⟨rfl, rfl, rfl⟩ := lam_eq hl rfl
  clear hl
  have hsub9 := sub_cons m1 (sub_cons m2 (sub_cons m3 (sub_cons m4 (sub_nil))))
  k_dflt (refine' call_rM3 _ F N B hf₀ hG U R hne XB TB D hsub9 ?kA ?kF ?kK ?k6 ?k7 ?k8 ?k9 ?kB (ps := [(Str.ofString "work", Value.ref lf)]) ?kP ?_ ?c2 ?c3 ?c4 ?c5; (case kA => exact rfl); (case kF => exact rfl); (case kK => exact hk); (case k6 => k_is); (case k7 => k_is); (case k8 => (show dp < recursionLimit; first | walk_at "MineRoom" | omega)); (case k9 => exact BindsTo.of_eq rfl); (case c5 => decide); (case kB => exact locs rfl); (case kP => kst_all); (case c2 => exact rfl); (case c3 => exact rfl); (case c4 => exact rfl))
  clear hsub9 m1 m2 m3 m4 F N U R hne D
  intro g' L9 h' u tk₁ F' N' B' X' T' D'
  (try dsimp only [kstB] at F')
  try dsimp only
  have kMark := kstMark
  have CdB : CodeHd base 286 282 := codeHd_of_K XB (by kernel_rfl)
  have Cd : CodeHd g' 286 282 := CodeHd.keeps CdB (Below.stays B')
  try k_fold
  k_with "call ref" => ((with_reducible show wpAny _ _ (call (Value.ref 95) _) _ _ _); k_dflt (refine' Mine.low_c ?uB ?uF ?uX ?uN ?uT ?uk ?ud ?uu ?p0 ?p1 ?p2 ?p3 ?p4 ?p5 ?p6 ?_; (case uB => k_asm); (case uF => k_asm); (case uX => k_asm); (case uN => k_asm); (case uT => k_asm); (case uk => exact rfl); (case ud => ((try dsimp only [ktrTop, Around.deeper, callerA]); first | walk_at "MineRoom" | omega | decide | ((try simp only [Around.deeper_units, Around.in1_units, Around.mark_units, depth_under_make, depth_under_kw, depth_in1, depth_deeper, depth_mark, depth_caller]); (try dsimp only [ktrTop, Around.deeper, callerA]); first | walk_at "MineRoom" | omega | decide))); (case uu => ((try dsimp only [ktrTop, Around.deeper, callerA]); first | walk_at "MineRoom" | omega | decide | ((try simp only [Around.deeper_units, Around.in1_units, Around.mark_units, depth_under_make, depth_under_kw, depth_in1, depth_deeper, depth_mark, depth_caller]); (try dsimp only [ktrTop, Around.deeper, callerA]); first | walk_at "MineRoom" | omega | decide))); (case p0 => k_mem); (case p1 => l_ints); (case p2 => decide); (case p3 => first | assumption | walk_at "Om" | omega); (case p4 => first | assumption | walk_at "Om" | omega); (case p5 => first | assumption | walk_at "Om" | omega); (case p6 => first | assumption | walk_at "Om" | omega); intro r9 us9 c9 h9 tk9 F9 N9 ne9 I9; (replace ne9 := Mine.allNe_of ne9; (try simp only [Mine.AllNe, and_true] at ne9); (repeat (have hn9 := ne9.1; replace ne9 := ne9.2))); (try k_sweep); (try dsimp only); (try k_fold)))
  k_with "LeaveM" => (k_dflt (refine' leaveM_ ?zF ?zN ?zT ?zn ?_; (case zF => k_asm); (case zN => k_asm); (case zT => first | assumption | exact KtsTurn.refl); (case zn => kst_allIn)); intro sl8 F8 N8; exact ret _ _ _ _ (by constructor <;> intro _ <;> first | rfl | assumption | omega | contradiction) F8 N8)
  k_with "BodyEnd" => (k_dflt (first
  | ((refine Mine.end_new (by k_asm) (by k_asm) (by k_mem) (by kst_allIn) (by k_all) ?_); (refine Mine.outI ?_))
  | ((refine Mine.end_val (by k_asm) (by k_asm) (by kst_allIn) ?_))))
  k_with "callWith ref" => ((k_here; k_dflt (refine' callWith_K ?k1 ?k2 ?_; (case k1 => k_asm); (case k2 => k_is); k_whole)))
  k_with "BodyEndG" => (k_dflt (refine Mine.endG (by k_asm) (by k_asm) (by first | assumption | exact KtsTurn.refl) (by k_mem) (by kst_allIn) ?_))
  k_with "leaving ref" => ((k_dflt (refine' Mine.leave_onX ?k1 ?k2 ?k3 ?k4 ?_; (case k3 => assumption); (case k2 => assumption); (case k1 => assumption); (case k4 => assumption)); intro h' S' R' U'; (try dsimp only at S' R' U' ⊢)))
  k_with "subscriptTail Name Slice ref ref" => (((with_reducible show wpAny _ _ (subscriptTail _ (PySem.Expr.Slice _ _ none _) (Value.ref _) (Value.ref _)) _ _ _); k_dflt (refine' kmk_slice_ints ?sF ?sN ?sl ?sp ?sq ?si ?sm ?sc ?_ ?ss ?st ?sz; (case sF => k_asm); (case sN => k_asm); (case sl => kmk_list); (case sp => kmk_part); (case sq => kmk_part); (case si => l_ints); (case sm => first | (with_reducible exact kmk_all (by assumption)) | (with_reducible exact kmk_upto (by assumption) (by first | assumption | walk_at "Om" | omega))); (case sc => exact rfl); (case ss => with_unfolding_all rfl); (case st => kmk_pure); (case sz => exact kmk_sz (by assumption) (by rw [sizeLine_eq]; omega)); intro D9 ws9 h9 F9 N9 l9 I9 C9 L9; (try k_lt l9); (try k_sweep))))
  k_with "BodyEndU" => (first
  | ((refine Mine.end_newU (by k_asm) (by k_asm) (by k_mem) (by k_mem) (by kst_allIn) (And.intro (by k_ne) (Mine.ne_allOf (by (simp only [Mine.AllNe, and_true]; (repeat' (refine And.intro ?_ ?_)) <;> first | assumption | k_ne)))) ?_))
  | ((refine Mine.end_valU (by k_asm) (by k_asm) (by k_mem) (by kst_allIn) ?_)))
  k_with "InitBack" => ((dsimp only [InitBack]))
  k_with "eval Call" => ((with_reducible show wpAny _ _ (eval (PySem.Expr.Call (PySem.Expr.Name _ _) (PySem.Expr.Name _ _ :: _) [] _) _) _ _ _); k_dflt (first | (refine' Mine.call_names ?zF ?zX ?zT ?ze ?zk ?za ?zz ?zx ?zd ?zh ?zp ?_; (case zx => exact rfl); (case zz => exact rfl); (case zF => k_asm); (case zX => k_asm); (case zT => k_asm); (case ze => k_is); (case zk => k_is); (case za => walk_at "EvAll"); (case zd => decide); (case zh => exact rfl); (case zp => exact rfl)) | (refine' Mine.call_namesB ?zF ?zX ?zT ?ze ?zv ?zn ?za ?zz ?zx ?zd ?zh ?zp ?_; (case zx => exact rfl); (case zz => exact rfl); (case zF => k_asm); (case zX => k_asm); (case zT => k_asm); (case ze => k_is); (case zv => boot_by_name); (case zn => decide); (case za => walk_at "EvAll"); (case zd => decide); (case zh => exact rfl); (case zp => exact rfl))))
  k_with "storeName" => (dsimp only; walk_at "storeName")
  k_with "execs cons" => (k_fold; walk_at "execs cons")
  k_with "eval Call" => (k_fold; walk_at "eval Call")
  k_with "isTrue Compare" => (k_fold; walk_at "isTrue Compare")
  k_with "eval Compare" => (k_fold; walk_at "eval Compare")
  k_with "eval BinOp" => (k_fold; walk_at "eval BinOp")
  k_with "eval Subscript" => (k_fold; walk_at "eval Subscript")
  first | (refine (id (α := let zA9 := _; let ze9 := _; let zg9 := _; let zd9 := _; let zo9 := _; wpAny _ zA9 (execs _ ze9) _ _ (Shared.mk _ zg9 zd9 _ zo9)) ?_); intro zA9 ze9 zg9 zd9 zo9) | skip
  k_steps
end Mine
end

section
open PySem PySem.W PySem.Spec PySem.Calls PyProof.Rows

namespace Mine
set_option maxRecDepth 100000 in
set_option maxHeartbeats 8000000 in
theorem ntail7 {w : World} {p' : Program} {loose : List Str} {mean : ExcName → Option Value} {mg mb u : Str → Option Value} {dp un : Nat} {gd : Option (List Code)} {cn : Str} {cs : Scope} {a L' : Addr} {ccd : Value} {cl : List (Str × Addr)} {base g0 g' : Heap} {L : Addr} {s0 : Shared} {hs : Heap} {tks : Nat}
    {name qual : Str} {params : Arguments} {body st : List Stmt} {scope : Scope} {dV kV doc pm cdv ct oc : Value} {an od : Option Addr} {osl : Array (Option Value)}
    (ho : (Mine.hd.heap_39 w.params).lookup 287 = some ⟨oc, od, .func (fnOf name qual params body scope dV kV doc pm an cdv ct), osl⟩) (hst : body.drop 7 = st)
    (XB : (Mine.hd.heap_39 w.params).In base) (TB : Top p' loose mean mg mb base) (B' : Below (ktrTop dp un gd cn cs L a ccd cl []) base [envX cn cs L a ccd cl] g') (X : (Mine.hd.heap_39 w.params).In g') (T' : Top p' loose mean mg mb g') (D' : KtsDicts ([envX cn cs L a ccd cl].filterMap (·.frame)) g') (kTn : KtsTurn ([envX cn cs L a ccd cl].filterMap (·.frame)) g0 g') (hk : cs.kind = .function) (hd : dp + 19 < recursionLimit) (hu : un + 390 < cLine)
    {x : Addr} {c : Nat} {vs : List Value} {xs : List Int} {k : Int} {tw : Tok} {o1 o2 o3 o4 o5 : Obj} {ps : Array Value}
    (F' : Fr g' L' hs (kstB u [(Str.ofString "some", .ref x)]))
    (N' : News g' L' hs [(L' + 1 + 1 + 1 + 1 + 1, o5), (L' + 1 + 1 + 1 + 1, o4), (L' + 1 + 1 + 1, o3), (L' + 1 + 1, o2), (L' + 1, o1), (282, tabObj ps), (x, listOf vs.toArray c)])
    (hi : IntsAre vs xs) (hb3 : 3 ≤ xs.length) (hb : xs.length ≤ 9) (h2 : 2 ≤ k) (h8 : k ≤ 8) (gx : ∀ z ∈ xs, 0 ≤ z) (hx : @LT.lt Nat instLTNat x L') (hp : @LT.lt Nat instLTNat 282 L') (hxp : @Ne Nat x 282) (d1 : o1.data = .cell (some (.int k tw)))
    (hTr : TriplesOk ps.toList) (hA238 : ∀ el ec, codeAmong ⟨238, 0, el, ec⟩ ps.toList = none) (d5 : o5.data = .cell none) :
    wpAny (model PySem.Challenge.rw_pq0542_01.row.prog w) ((ktrTop dp un gd cn cs L a ccd cl []).deeper (envOfC qual scope L' 287 cdv)) (execs st (envOfC qual scope L' 287 cdv)) (fun fl s' => BodyEndG ([envX cn cs L a ccd cl].filterMap (·.frame)) g0 282 [(x, listOf vs.toArray c)] OutG (match fl with | .ret v => v | _ => .none) s0 s') (fun _ _ => False) { s0 with heap := hs, toks := tks } := by
  k_with_none
  k_with "Om" => (first | walk_at "MineRoom" | exact Int.natCast_nonneg _ | exact Mine.i_up (by with_reducible assumption) rfl | exact Mine.i_dn (by with_reducible assumption) rfl | exact Mine.i_lt (by with_reducible assumption) rfl | exact Mine.i_gt (by with_reducible assumption) rfl | exact Mine.n_up (by with_reducible assumption) rfl | exact Mine.n_eq (by with_reducible assumption) rfl | exact Mine.n_ge (by with_reducible assumption) rfl | exact Mine.sub0n)
  k_with "EvAll" => (first | exact Mine.EvAll.nil | exact Mine.evs_L (by k_asm) (by exact rfl) rfl rfl (by decide) (by walk_at "EvAll") | exact Mine.evs_C (by k_asm) (by exact rfl) (by k_mem) (by assumption) rfl rfl (by decide) (by walk_at "EvAll"))
  k_with "MineLt" => (first | ((repeat (first | exact Nat.lt_succ_self _ | refine Nat.lt_succ_of_lt ?_)); done) | ((repeat (refine Nat.lt_succ_of_lt ?_)); with_reducible assumption))
  k_with "MineLt2" => (refine Nat.lt_trans ?_ (by with_reducible assumption); walk_at "MineLt")
  k_with "MineRoom" => (k_whole; first | exact Mine.room1 (by with_reducible assumption) rfl | exact Mine.room2 (by with_reducible assumption) rfl | exact Mine.room3 (by with_reducible assumption) rfl | exact Mine.room4 (by with_reducible assumption) rfl | exact Mine.room5 (by with_reducible assumption) rfl | exact Mine.room0 (by with_reducible assumption))
  w_top off
  revert X; k_fill; intro X
  subst hst
  k_dflt (refine' tail_of (P := fun qual scope body cdv => wpAny (model PySem.Challenge.rw_pq0542_01.row.prog w) ((ktrTop dp un gd cn cs L a ccd cl []).deeper (envOfC qual scope L' 287 cdv)) (execs (body.drop 7) (envOfC qual scope L' 287 cdv)) (fun fl s' => BodyEndG ([envX cn cs L a ccd cl].filterMap (·.frame)) g0 282 [(x, listOf vs.toArray c)] OutG (match fl with | .ret v => v | _ => .none) s0 s') (fun _ _ => False) { s0 with heap := hs, toks := tks }) ho ?e ?h; (case e => k_is))
  all_goals try dsimp only [List.drop]
  have kMark := kstMark
  have CdB : CodeHd base 286 282 := codeHd_of_K XB (by kernel_rfl)
  have Cd : CodeHd g' 286 282 := CodeHd.keeps CdB (Below.stays B')
  try k_fold
  k_with "call ref" => (((with_reducible show wpAny _ _ (call (Value.ref 275) _) _ _ _); k_dflt (refine' Mine.refC_c ?zhl ?zF ?zN ?zB ?zhf ?zhG ?zU ?zR ?zhne ?zXB ?zTB ?zD ?zhk ?zhd ?zhu ?zm1 ?zm2 ?ze1 ?ze2 ?zn1 ?zm3 ?zm4 ?ze3 ?ze4 ?zn2 ?zn3 ?zn4 ?zn5 ?zw0 ?zw3 ?zh2 ?zh8 ?_; (case zF => k_asm); (case zN => k_asm); (case zB => assumption); (case zhf => exact rfl); (case zhG => assumption); (case zU => k_updF); (case zR => (repeat (first | exact Mine.Rem.here | apply Mine.Rem.there))); (case zm1 => k_mem); (case zhl => exact rfl); (case zm2 => k_mem); (case zm3 => k_mem); (case zm4 => k_mem); (case zhne => k_all); (case zXB => assumption); (case zTB => assumption); (case zD => assumption); (case zhk => exact rfl); (case zhd => ((try dsimp only [ktrTop, Around.deeper, callerA]); first | walk_at "MineRoom" | omega | decide | ((try simp only [Around.deeper_units, Around.in1_units, Around.mark_units, depth_under_make, depth_under_kw, depth_in1, depth_deeper, depth_mark, depth_caller]); (try dsimp only [ktrTop, Around.deeper, callerA]); first | walk_at "MineRoom" | omega | decide))); (case zhu => ((try dsimp only [ktrTop, Around.deeper, callerA]); first | walk_at "MineRoom" | omega | decide | ((try simp only [Around.deeper_units, Around.in1_units, Around.mark_units, depth_under_make, depth_under_kw, depth_in1, depth_deeper, depth_mark, depth_caller]); (try dsimp only [ktrTop, Around.deeper, callerA]); first | walk_at "MineRoom" | omega | decide))); (case ze1 => assumption); (case ze2 => assumption); (case zn1 => first | assumption | walk_at "Om" | omega); (case ze3 => assumption); (case ze4 => assumption); (case zn2 => first | assumption | walk_at "Om" | omega); (case zn3 => first | assumption | walk_at "Om" | omega); (case zn4 => first | assumption | k_ne | omega); (case zn5 => first | assumption | k_ne | omega); (case zw0 => decide); (case zw3 => decide); (case zh2 => first | assumption | walk_at "Om" | omega); (case zh8 => first | assumption | walk_at "Om" | omega)); intro b9 sl9 h9 tk9 hb9 F9 N9; (first | (have e9 := hb9.mpr (by decide); subst e9) | (have e9 := Bool.eq_false_iff.mpr (fun q => absurd (hb9.mp q) (by decide)); subst e9)); clear hb9; (try dsimp only at N9); (replace N9 := Mine.news_tail N9); (try k_sweep); (try dsimp only); (try k_fold)))
  k_with "exec For Name Tuple cons nil" => ((fail_if_success (have hq9 := hGL)); (rename Fr _ _ _ _ => lF'); (rename News _ _ _ _ => lN'); (rename Below _ _ _ _ => kB8); k_dflt (obtain ⟨oL, sl7, hGL, hLL, hNL, F7, N7, X7, P7⟩ := shut_in kB8 rfl XB TB lF' lN'); (replace hNL := Mine.allNe_of hNL); (try simp only [Mine.AllNe, and_true] at hNL); (repeat (have hn9 := hNL.1; replace hNL := hNL.2)); clear lF' lN'; k_dflt (have Cd7 : CodeHd (shut _ L) 286 282 := CodeHd.keeps CdB (shut_stays kB8 rfl)); walk_at "exec For Name Tuple cons nil")
  k_with "execs cons" => ((with_reducible show wpAny _ _ (execs (PySem.Stmt.Assign [PySem.Expr.Tuple _ _ _] (PySem.Expr.Tuple (PySem.Expr.Call _ _ _ _ :: _) _ _) _ :: _) _) _ _ _); (rename Fr _ _ _ _ => lF'); (rename News _ _ _ _ => lN'); k_dflt (refine' shut_k ?bF ?bN ?bB ?bhf ?bhG ?bR ?bhne ?bXB ?bTB ?bD ?_; (case bF => exact lF'); (case bN => exact lN'); (case bB => exact kB8); (case bhf => exact rfl); (case bhG => exact hGL); (case bR => (repeat (first | exact Mine.Rem.here | apply Mine.Rem.there))); (case bhne => k_all); (case bXB => exact XB); (case bTB => exact TB); (case bD => assumption)); intro G8 T8 F8 N8 B8 X8 P8 D8; k_dflt (refine' ntail8 ?aho ?ahst ?aXB ?aTB ?aB ?aX ?aT ?aD ?aK ?ahk ?ahd ?ahu ?aF ?aN ?ahi ?ahb3 ?ahb ?ah2 ?ah8 ?agx ?ahx ?ahp ?ahxp ?ad1; (case aho => k_is); (case ahst => exact rfl); (case aF => exact fr_names F8 (by kst_all)); (case aN => exact kst_newsOf N8 (by kst_allIn)); (case aXB => exact XB); (case aTB => exact TB); (case aB => exact B8); (case aX => exact X8); (case aT => exact P8); (case aD => exact D8); (case aK => exact KtsTurn.trans kTn T8); (case ahk => exact hk); (case ahd => first | walk_at "Om" | omega); (case ahu => first | walk_at "Om" | omega); (case ahi => exact hi); (case ahb3 => exact hb3); (case ahb => exact hb); (case ah2 => exact h2); (case ah8 => exact h8); (case agx => exact gx); (case ahx => first | walk_at "Om" | omega); (case ahp => first | walk_at "Om" | omega); (case ahxp => first | walk_at "Om" | omega); (case ad1 => assumption)))
  k_with "BodyEnd" => (k_dflt (first
  | ((refine Mine.end_new (by k_asm) (by k_asm) (by k_mem) (by kst_allIn) (by k_all) ?_); (refine Mine.outI ?_))
  | ((refine Mine.end_val (by k_asm) (by k_asm) (by kst_allIn) ?_))))
  k_with "callWith ref" => ((k_here; k_dflt (refine' callWith_K ?k1 ?k2 ?_; (case k1 => k_asm); (case k2 => k_is); k_whole)))
  k_with "BodyEndG" => (k_dflt (refine Mine.endG (by k_asm) (by k_asm) (by first | assumption | exact KtsTurn.refl) (by k_mem) (by kst_allIn) ?_))
  k_with "leaving ref" => ((k_dflt (refine' Mine.leave_onX ?k1 ?k2 ?k3 ?k4 ?_; (case k3 => assumption); (case k2 => assumption); (case k1 => assumption); (case k4 => assumption)); intro h' S' R' U'; (try dsimp only at S' R' U' ⊢)))
  k_with "subscriptTail Name Slice ref ref" => (((with_reducible show wpAny _ _ (subscriptTail _ (PySem.Expr.Slice _ _ none _) (Value.ref _) (Value.ref _)) _ _ _); k_dflt (refine' kmk_slice_ints ?sF ?sN ?sl ?sp ?sq ?si ?sm ?sc ?_ ?ss ?st ?sz; (case sF => k_asm); (case sN => k_asm); (case sl => kmk_list); (case sp => kmk_part); (case sq => kmk_part); (case si => l_ints); (case sm => first | (with_reducible exact kmk_all (by assumption)) | (with_reducible exact kmk_upto (by assumption) (by first | assumption | walk_at "Om" | omega))); (case sc => exact rfl); (case ss => with_unfolding_all rfl); (case st => kmk_pure); (case sz => exact kmk_sz (by assumption) (by rw [sizeLine_eq]; omega)); intro D9 ws9 h9 F9 N9 l9 I9 C9 L9; (try k_lt l9); (try k_sweep))))
  k_with "BodyEndU" => (first
  | ((refine Mine.end_newU (by k_asm) (by k_asm) (by k_mem) (by k_mem) (by kst_allIn) (And.intro (by k_ne) (Mine.ne_allOf (by (simp only [Mine.AllNe, and_true]; (repeat' (refine And.intro ?_ ?_)) <;> first | assumption | k_ne)))) ?_))
  | ((refine Mine.end_valU (by k_asm) (by k_asm) (by k_mem) (by kst_allIn) ?_)))
  k_with "InitBack" => ((dsimp only [InitBack]))
  k_with "eval Call" => ((with_reducible show wpAny _ _ (eval (PySem.Expr.Call (PySem.Expr.Name _ _) (PySem.Expr.Name _ _ :: _) [] _) _) _ _ _); k_dflt (first | (refine' Mine.call_names ?zF ?zX ?zT ?ze ?zk ?za ?zz ?zx ?zd ?zh ?zp ?_; (case zx => exact rfl); (case zz => exact rfl); (case zF => k_asm); (case zX => k_asm); (case zT => k_asm); (case ze => k_is); (case zk => k_is); (case za => walk_at "EvAll"); (case zd => decide); (case zh => exact rfl); (case zp => exact rfl)) | (refine' Mine.call_namesB ?zF ?zX ?zT ?ze ?zv ?zn ?za ?zz ?zx ?zd ?zh ?zp ?_; (case zx => exact rfl); (case zz => exact rfl); (case zF => k_asm); (case zX => k_asm); (case zT => k_asm); (case ze => k_is); (case zv => boot_by_name); (case zn => decide); (case za => walk_at "EvAll"); (case zd => decide); (case zh => exact rfl); (case zp => exact rfl))))
  k_with "storeName" => (dsimp only; walk_at "storeName")
  k_with "execs cons" => (k_fold; walk_at "execs cons")
  k_with "eval Call" => (k_fold; walk_at "eval Call")
  k_with "isTrue Compare" => (k_fold; walk_at "isTrue Compare")
  k_with "eval Compare" => (k_fold; walk_at "eval Compare")
  k_with "eval BinOp" => (k_fold; walk_at "eval BinOp")
  k_with "eval Subscript" => (k_fold; walk_at "eval Subscript")
  first | (refine (id (α := let zA9 := _; let ze9 := _; let zg9 := _; let zd9 := _; let zo9 := _; wpAny _ zA9 (execs _ ze9) _ _ (Shared.mk _ zg9 zd9 _ zo9)) ?_); intro zA9 ze9 zg9 zd9 zo9) | skip
  k_steps


end Mine
end

section
open PySem PySem.W PySem.Spec PySem.Calls PyProof.Rows

namespace Mine
set_option maxRecDepth 100000 in
set_option maxHeartbeats 8000000 in
theorem ntail6 {w : World} {p' : Program} {loose : List Str} {mean : ExcName → Option Value} {mg mb u : Str → Option Value} {dp un : Nat} {gd : Option (List Code)} {cn : Str} {cs : Scope} {a L' : Addr} {ccd : Value} {cl : List (Str × Addr)} {base g0 g' : Heap} {L : Addr} {s0 : Shared} {hs : Heap} {tks : Nat}
    {name qual : Str} {params : Arguments} {body st : List Stmt} {scope : Scope} {dV kV doc pm cdv ct oc : Value} {an od : Option Addr} {osl : Array (Option Value)}
    (ho : (Mine.hd.heap_39 w.params).lookup 287 = some ⟨oc, od, .func (fnOf name qual params body scope dV kV doc pm an cdv ct), osl⟩) (hst : body.drop 6 = st)
    (XB : (Mine.hd.heap_39 w.params).In base) (TB : Top p' loose mean mg mb base) (B' : Below (ktrTop dp un gd cn cs L a ccd cl []) base [envX cn cs L a ccd cl] g') (X : (Mine.hd.heap_39 w.params).In g') (T' : Top p' loose mean mg mb g') (D' : KtsDicts ([envX cn cs L a ccd cl].filterMap (·.frame)) g') (kTn : KtsTurn ([envX cn cs L a ccd cl].filterMap (·.frame)) g0 g') (hk : cs.kind = .function) (hd : dp + 19 < recursionLimit) (hu : un + 390 < cLine)
    {x : Addr} {c : Nat} {vs : List Value} {xs : List Int} {k : Int} {tw : Tok} {o1 o2 o3 o4 o5 : Obj} {ps : Array Value}
    (F' : Fr g' L' hs (kstB u [(Str.ofString "some", .ref x)]))
    (N' : News g' L' hs [(L' + 1 + 1 + 1 + 1 + 1, o5), (L' + 1 + 1 + 1 + 1, o4), (L' + 1 + 1 + 1, o3), (L' + 1 + 1, o2), (L' + 1, o1), (282, tabObj ps), (x, listOf vs.toArray c)])
    (hi : IntsAre vs xs) (hb3 : 3 ≤ xs.length) (hb : xs.length ≤ 9) (h2 : 2 ≤ k) (h8 : k ≤ 8) (gx : ∀ z ∈ xs, 0 ≤ z) (hx : @LT.lt Nat instLTNat x L') (hp : @LT.lt Nat instLTNat 282 L') (hxp : @Ne Nat x 282) (d1 : o1.data = .cell (some (.int k tw)))
    (hTr : TriplesOk ps.toList) (hA233 : ∀ el ec, codeAmong ⟨233, 0, el, ec⟩ ps.toList = none) (hA234 : ∀ el ec, codeAmong ⟨234, 0, el, ec⟩ ps.toList = none) (hA238 : ∀ el ec, codeAmong ⟨238, 0, el, ec⟩ ps.toList = none) (d5 : o5.data = .cell none) :
    wpAny (model PySem.Challenge.rw_pq0542_01.row.prog w) ((ktrTop dp un gd cn cs L a ccd cl []).deeper (envOfC qual scope L' 287 cdv)) (execs st (envOfC qual scope L' 287 cdv)) (fun fl s' => BodyEndG ([envX cn cs L a ccd cl].filterMap (·.frame)) g0 282 [(x, listOf vs.toArray c)] OutG (match fl with | .ret v => v | _ => .none) s0 s') (fun _ _ => False) { s0 with heap := hs, toks := tks } := by
  k_with_none
  k_with "Om" => (first | walk_at "MineRoom" | exact Int.natCast_nonneg _ | exact Mine.i_up (by with_reducible assumption) rfl | exact Mine.i_dn (by with_reducible assumption) rfl | exact Mine.i_lt (by with_reducible assumption) rfl | exact Mine.i_gt (by with_reducible assumption) rfl | exact Mine.n_up (by with_reducible assumption) rfl | exact Mine.n_eq (by with_reducible assumption) rfl | exact Mine.n_ge (by with_reducible assumption) rfl | exact Mine.sub0n)
  k_with "EvAll" => (first | exact Mine.EvAll.nil | exact Mine.evs_L (by k_asm) (by exact rfl) rfl rfl (by decide) (by walk_at "EvAll") | exact Mine.evs_C (by k_asm) (by exact rfl) (by k_mem) (by assumption) rfl rfl (by decide) (by walk_at "EvAll"))
  k_with "MineLt" => (first | ((repeat (first | exact Nat.lt_succ_self _ | refine Nat.lt_succ_of_lt ?_)); done) | ((repeat (refine Nat.lt_succ_of_lt ?_)); with_reducible assumption))
  k_with "MineLt2" => (refine Nat.lt_trans ?_ (by with_reducible assumption); walk_at "MineLt")
  k_with "MineRoom" => (k_whole; first | exact Mine.room1 (by with_reducible assumption) rfl | exact Mine.room2 (by with_reducible assumption) rfl | exact Mine.room3 (by with_reducible assumption) rfl | exact Mine.room4 (by with_reducible assumption) rfl | exact Mine.room5 (by with_reducible assumption) rfl | exact Mine.room0 (by with_reducible assumption))
  w_top off
  revert X; k_fill; intro X
  subst hst
  k_dflt (refine' tail_of (P := fun qual scope body cdv => wpAny (model PySem.Challenge.rw_pq0542_01.row.prog w) ((ktrTop dp un gd cn cs L a ccd cl []).deeper (envOfC qual scope L' 287 cdv)) (execs (body.drop 6) (envOfC qual scope L' 287 cdv)) (fun fl s' => BodyEndG ([envX cn cs L a ccd cl].filterMap (·.frame)) g0 282 [(x, listOf vs.toArray c)] OutG (match fl with | .ret v => v | _ => .none) s0 s') (fun _ _ => False) { s0 with heap := hs, toks := tks }) ho ?e ?h; (case e => k_is))
  all_goals try dsimp only [List.drop]
  have kMark := kstMark
  have CdB : CodeHd base 286 282 := codeHd_of_K XB (by kernel_rfl)
  have Cd : CodeHd g' 286 282 := CodeHd.keeps CdB (Below.stays B')
  try k_fold
  k_with "LeaveQ" => (k_dflt (refine' leaveQ_ ?F ?N ?T ?n ?_; (case F => k_asm); (case N => k_asm); (case T => first | assumption | exact KtsTurn.refl); (case n => kst_allIn)); intro h₈ T8 F8 N8 B8 X8 P8 D8; (try dsimp only at F8 N8); (replace kTn := KtsTurn.trans kTn T8); clear T8; have Cd8 : CodeHd h₈ 286 282 := CodeHd.keeps CdB (Below.stays B8); (try dsimp only); (try k_sweep); (try k_fold))
  k_with "execs cons" => ((with_reducible show wpAny _ _ (execs (PySem.Stmt.For _ _ _ _ _ :: _) _) _ _ _); (rename Fr _ _ _ _ => lF'); (rename News _ _ _ _ => lN'); k_dflt (refine' ntail7 ?aho ?ahst ?aXB ?aTB ?aB ?aX ?aT ?aD ?aK ?ahk ?ahd ?ahu ?aF ?aN ?ahi ?ahb3 ?ahb ?ah2 ?ah8 ?agx ?ahx ?ahp ?ahxp ?ad1 ?ap0 ?ap1 ?ap2; (case aho => k_is); (case ahst => exact rfl); (case aF => exact fr_names lF' (by kst_all)); (case aN => exact kst_newsOf lN' (by kst_allIn)); (case aXB => exact XB); (case aTB => exact TB); (case aB => assumption); (case aX => assumption); (case aT => assumption); (case aD => assumption); (case aK => exact kTn); (case ahk => exact hk); (case ahd => first | walk_at "Om" | omega); (case ahu => first | walk_at "Om" | omega); (case ahi => exact hi); (case ahb3 => exact hb3); (case ahb => exact hb); (case ah2 => exact h2); (case ah8 => exact h8); (case agx => exact gx); (case ahx => first | walk_at "Om" | omega); (case ahp => first | walk_at "Om" | omega); (case ahxp => first | walk_at "Om" | omega); (case ad1 => assumption); (case ap0 => kn_triples); (case ap1 => (intro _ _; kn_among)); (case ap2 => assumption)))
  k_with "BodyEnd" => (k_dflt (first
  | ((refine Mine.end_new (by k_asm) (by k_asm) (by k_mem) (by kst_allIn) (by k_all) ?_); (refine Mine.outI ?_))
  | ((refine Mine.end_val (by k_asm) (by k_asm) (by kst_allIn) ?_))))
  k_with "callWith ref" => ((k_here; k_dflt (refine' callWith_K ?k1 ?k2 ?_; (case k1 => k_asm); (case k2 => k_is); k_whole)))
  k_with "BodyEndG" => (k_dflt (refine Mine.endG (by k_asm) (by k_asm) (by first | assumption | exact KtsTurn.refl) (by k_mem) (by kst_allIn) ?_))
  k_with "leaving ref" => ((k_dflt (refine' Mine.leave_onX ?k1 ?k2 ?k3 ?k4 ?_; (case k3 => assumption); (case k2 => assumption); (case k1 => assumption); (case k4 => assumption)); intro h' S' R' U'; (try dsimp only at S' R' U' ⊢)))
  k_with "call ref" => (((with_reducible show wpAny _ _ (call (Value.ref 275) _) _ _ _); k_dflt (refine' Mine.call_rQ12 ?k1 ?k2 ?k3 ?k4 ?k5 ?XB ?TB ?D ?kA ?kF ?kK ?k6 ?k7 ?k8 ?k9 ?kB (ps := [(PySem.Str.ofString "work", _)]) ?kP ?_ ?c2 ?c3 ?c4 ?c5; (case kA => exact rfl); (case kF => exact rfl); (case kK => exact rfl); (case k2 => k_asm); (case k1 => k_asm); (case k3 => k_asm); (case k4 => k_asm); (case k5 => k_asm); (case XB => assumption); (case TB => assumption); (case D => assumption); (case k6 => k_is); (case k7 => k_is); (case k8 => k_room); (case k9 => exact BindsTo.of_eq rfl); (case c5 => decide); (case kB => exact locs rfl); (case kP => kst_all); (case c2 => exact rfl); (case c3 => exact rfl); (case c4 => exact rfl)); intro g' L' h' u9 tk9 F' N' B' X' T' D'; (try dsimp only [kstB] at F'); (try dsimp only); (try k_lift B'); (try k_fold)))
  k_with "subscriptTail Name Slice ref ref" => (((with_reducible show wpAny _ _ (subscriptTail _ (PySem.Expr.Slice _ _ none _) (Value.ref _) (Value.ref _)) _ _ _); k_dflt (refine' kmk_slice_ints ?sF ?sN ?sl ?sp ?sq ?si ?sm ?sc ?_ ?ss ?st ?sz; (case sF => k_asm); (case sN => k_asm); (case sl => kmk_list); (case sp => kmk_part); (case sq => kmk_part); (case si => l_ints); (case sm => first | (with_reducible exact kmk_all (by assumption)) | (with_reducible exact kmk_upto (by assumption) (by first | assumption | walk_at "Om" | omega))); (case sc => exact rfl); (case ss => with_unfolding_all rfl); (case st => kmk_pure); (case sz => exact kmk_sz (by assumption) (by rw [sizeLine_eq]; omega)); intro D9 ws9 h9 F9 N9 l9 I9 C9 L9; (try k_lt l9); (try k_sweep))))
  k_with "BodyEndU" => (first
  | ((refine Mine.end_newU (by k_asm) (by k_asm) (by k_mem) (by k_mem) (by kst_allIn) (And.intro (by k_ne) (Mine.ne_allOf (by (simp only [Mine.AllNe, and_true]; (repeat' (refine And.intro ?_ ?_)) <;> first | assumption | k_ne)))) ?_))
  | ((refine Mine.end_valU (by k_asm) (by k_asm) (by k_mem) (by kst_allIn) ?_)))
  k_with "InitBack" => ((dsimp only [InitBack]))
  k_with "eval Call" => ((with_reducible show wpAny _ _ (eval (PySem.Expr.Call (PySem.Expr.Name _ _) (PySem.Expr.Name _ _ :: _) [] _) _) _ _ _); k_dflt (first | (refine' Mine.call_names ?zF ?zX ?zT ?ze ?zk ?za ?zz ?zx ?zd ?zh ?zp ?_; (case zx => exact rfl); (case zz => exact rfl); (case zF => k_asm); (case zX => k_asm); (case zT => k_asm); (case ze => k_is); (case zk => k_is); (case za => walk_at "EvAll"); (case zd => decide); (case zh => exact rfl); (case zp => exact rfl)) | (refine' Mine.call_namesB ?zF ?zX ?zT ?ze ?zv ?zn ?za ?zz ?zx ?zd ?zh ?zp ?_; (case zx => exact rfl); (case zz => exact rfl); (case zF => k_asm); (case zX => k_asm); (case zT => k_asm); (case ze => k_is); (case zv => boot_by_name); (case zn => decide); (case za => walk_at "EvAll"); (case zd => decide); (case zh => exact rfl); (case zp => exact rfl))))
  k_with "storeName" => (dsimp only; walk_at "storeName")
  k_with "execs cons" => (k_fold; walk_at "execs cons")
  k_with "eval Call" => (k_fold; walk_at "eval Call")
  k_with "isTrue Compare" => (k_fold; walk_at "isTrue Compare")
  k_with "eval Compare" => (k_fold; walk_at "eval Compare")
  k_with "eval BinOp" => (k_fold; walk_at "eval BinOp")
  k_with "eval Subscript" => (k_fold; walk_at "eval Subscript")
  first | (refine (id (α := let zA9 := _; let ze9 := _; let zg9 := _; let zd9 := _; let zo9 := _; wpAny _ zA9 (execs _ ze9) _ _ (Shared.mk _ zg9 zd9 _ zo9)) ?_); intro zA9 ze9 zg9 zd9 zo9) | skip
  k_steps


end Mine
end

section
open PySem PySem.W PySem.Spec PySem.Calls PyProof.Rows

namespace Mine

set_option maxRecDepth 100000 in
set_option maxHeartbeats 8000000 in
theorem refL_c {w : World} {p' : Program} {loose : List Str} {mean : ExcName → Option Value} {mg mb : Str → Option Value} {dp un : Nat} {gd : Option (List Code)} {cn : Str} {cs : Scope} {a L L' : Addr} {ccd : Value} {cl : List (Str × Addr)} {A₀ : Around} {base G : Heap} {env₀ : Env} {oL : Obj} {sl : Array (Option Value)} {gl : Obj → List (Addr × Obj)} {m : Str → Option Value} {news need : List (Addr × Obj)} {s : Shared} {Q E : Value → Shared → Prop}
    {lq : Str} {la : Arguments} {lb : PySem.Expr} {lsc : Scope} {pm ctv : Value} {lf lc : Addr} {oc' : Obj} {lvs : Array Value} {lt : Tok} {cd cw cr rr : Addr} {od ow orr : Obj} {rvs : List Value} {rows : List Int} {rc : Nat} {k place : Int} {tw td : Tok}
    (hl : (lamAt 32 5) = some (la, lb, lsc)) (F : Fr (shut G L) L' s.heap m) (N : News (shut G L) L' s.heap news) (B : Below A₀ base [env₀] G) (hf₀ : env₀.frame = some L) (hG : G.get? L = some oL)
    (U : UpdF L { oL with slots := sl } news gl) (R : Rem L { oL with slots := sl } news need) (hne : ∀ q ∈ need, q.1 ≠ L) (XB : (Mine.hd.heap_39 w.params).In base) (TB : Top p' loose mean mg mb base) (D : KtsDicts ([env₀].filterMap (·.frame)) G) (hk : cs.kind = .function) (hd : dp + 12 < recursionLimit) (hu : un + 200 < cLine)
    (m1 : (lf, kla_obj (Str.ofString "<lambda>") lq la lb lsc [(Str.ofString "w", cw), (Str.ofString "row", cr), (Str.ofString "place", cd)] pm lc ctv) ∈ need) (m2 : (lc, oc') ∈ need) (e1 : oc'.data = .fields lvs) (e2 : lvs[1]? = some (.str lq lt)) (n1 : @LT.lt Nat instLTNat lc lf) (m3 : (cd, od) ∈ need) (m4 : (cr, orr) ∈ need) (m5 : (cw, ow) ∈ need) (m6 : (rr, listOf rvs.toArray rc) ∈ need) (hi : IntsAre rvs rows) (hb : rows.length ≤ 3) (e3 : od.data = .cell (some (.int place td))) (e5 : orr.data = .cell (some (.ref rr))) (e4 : ow.data = .cell (some (.int k tw))) (n2 : @LT.lt Nat instLTNat cd lc) (n3 : @LT.lt Nat instLTNat cw lc) (n6 : @LT.lt Nat instLTNat cr lc) (n7 : @LT.lt Nat instLTNat rr lc) (n4 : @Ne Nat cd cw) (n5 : @Ne Nat cw cd) (n8 : @Ne Nat cr cw) (n9 : @Ne Nat cr cd) (na : @Ne Nat rr cd) (nb : @Ne Nat rr cw) (nc : @Ne Nat rr cr) (w0 : -1 ≤ place) (w3 : place ≤ 3) (h2 : 2 ≤ k) (h8 : k ≤ 8)
    (ret : ∀ b sl' h' tk', (b = true ↔ place < 1 ∨ (rows.length : Int) ≤ place) → Fr (shut G L) L' h' m → News (shut G L) L' h' (gl { oL with slots := sl' }) → Q (.bool b) { s with heap := h', toks := tk' }) :
    wpAny (model PySem.Challenge.rw_pq0542_01.row.prog w) (ktrTop dp un gd cn cs L' a ccd cl [env₀]) (call (.ref 275) [Value.ref lf]) Q E s := by
  k_with_none
  k_with "Om" => (first | walk_at "MineRoom" | exact Int.natCast_nonneg _ | exact Mine.i_up (by with_reducible assumption) rfl | exact Mine.i_dn (by with_reducible assumption) rfl | exact Mine.i_lt (by with_reducible assumption) rfl | exact Mine.i_gt (by with_reducible assumption) rfl | exact Mine.n_up (by with_reducible assumption) rfl | exact Mine.n_eq (by with_reducible assumption) rfl | exact Mine.n_ge (by with_reducible assumption) rfl | exact Mine.sub0n)
  k_with "EvAll" => (first | exact Mine.EvAll.nil | exact Mine.evs_L (by k_asm) (by exact rfl) rfl rfl (by decide) (by walk_at "EvAll") | exact Mine.evs_C (by k_asm) (by exact rfl) (by k_mem) (by assumption) rfl rfl (by decide) (by walk_at "EvAll"))
  k_with "MineLt" => (first | ((repeat (first | exact Nat.lt_succ_self _ | refine Nat.lt_succ_of_lt ?_)); done) | ((repeat (refine Nat.lt_succ_of_lt ?_)); with_reducible assumption))
  k_with "MineLt2" => (refine Nat.lt_trans ?_ (by with_reducible assumption); walk_at "MineLt")
  k_with "MineRoom" => (k_whole; first | exact Mine.room1 (by with_reducible assumption) rfl | exact Mine.room2 (by with_reducible assumption) rfl | exact Mine.room3 (by with_reducible assumption) rfl | exact Mine.room4 (by with_reducible assumption) rfl | exact Mine.room5 (by with_reducible assumption) rfl | exact Mine.room0 (by with_reducible assumption))
  w_top off
  revert XB; k_fill; intro XB
  obtain ⟨rfl, rfl, rfl⟩ := lam_eq hl rfl
  clear hl
  have hsub9 := sub_cons m1 (sub_cons m2 (sub_cons m3 (sub_cons m4 (sub_cons m5 (sub_cons m6 (sub_nil))))))
  k_dflt (refine' call_rM3 _ F N B hf₀ hG U R hne XB TB D hsub9 ?kA ?kF ?kK ?k6 ?k7 ?k8 ?k9 ?kB (ps := [(Str.ofString "work", Value.ref lf)]) ?kP ?_ ?c2 ?c3 ?c4 ?c5; (case kA => exact rfl); (case kF => exact rfl); (case kK => exact hk); (case k6 => k_is); (case k7 => k_is); (case k8 => (show dp < recursionLimit; first | walk_at "MineRoom" | omega)); (case k9 => exact BindsTo.of_eq rfl); (case c5 => decide); (case kB => exact locs rfl); (case kP => kst_all); (case c2 => exact rfl); (case c3 => exact rfl); (case c4 => exact rfl))
  clear hsub9 m1 m2 m3 m4 m5 m6 F N U R hne D
  intro g' L9 h' u tk₁ F' N' B' X' T' D'
  (try dsimp only [kstB] at F')
  try dsimp only
  have kMark := kstMark
  have CdB : CodeHd base 286 282 := codeHd_of_K XB (by kernel_rfl)
  have Cd : CodeHd g' 286 282 := CodeHd.keeps CdB (Below.stays B')
  try k_fold
  k_with "LeaveM" => (k_dflt (refine' leaveM_ ?zF ?zN ?zT ?zn ?_; (case zF => k_asm); (case zN => k_asm); (case zT => first | assumption | exact KtsTurn.refl); (case zn => kst_allIn)); intro sl8 F8 N8; exact ret _ _ _ _ (by constructor <;> intro _ <;> first | rfl | omega | contradiction) F8 N8)
  k_with "BodyEnd" => (k_dflt (first
  | ((refine Mine.end_new (by k_asm) (by k_asm) (by k_mem) (by kst_allIn) (by k_all) ?_); (refine Mine.outI ?_))
  | ((refine Mine.end_val (by k_asm) (by k_asm) (by kst_allIn) ?_))))
  k_with "callWith ref" => ((k_here; k_dflt (refine' callWith_K ?k1 ?k2 ?_; (case k1 => k_asm); (case k2 => k_is); k_whole)))
  k_with "BodyEndG" => (k_dflt (refine Mine.endG (by k_asm) (by k_asm) (by first | assumption | exact KtsTurn.refl) (by k_mem) (by kst_allIn) ?_))
  k_with "leaving ref" => ((k_dflt (refine' Mine.leave_onX ?k1 ?k2 ?k3 ?k4 ?_; (case k3 => assumption); (case k2 => assumption); (case k1 => assumption); (case k4 => assumption)); intro h' S' R' U'; (try dsimp only at S' R' U' ⊢)))
  k_with "subscriptTail Name Slice ref ref" => (((with_reducible show wpAny _ _ (subscriptTail _ (PySem.Expr.Slice _ _ none _) (Value.ref _) (Value.ref _)) _ _ _); k_dflt (refine' kmk_slice_ints ?sF ?sN ?sl ?sp ?sq ?si ?sm ?sc ?_ ?ss ?st ?sz; (case sF => k_asm); (case sN => k_asm); (case sl => kmk_list); (case sp => kmk_part); (case sq => kmk_part); (case si => l_ints); (case sm => first | (with_reducible exact kmk_all (by assumption)) | (with_reducible exact kmk_upto (by assumption) (by first | assumption | walk_at "Om" | omega))); (case sc => exact rfl); (case ss => with_unfolding_all rfl); (case st => kmk_pure); (case sz => exact kmk_sz (by assumption) (by rw [sizeLine_eq]; omega)); intro D9 ws9 h9 F9 N9 l9 I9 C9 L9; (try k_lt l9); (try k_sweep))))
  k_with "BodyEndU" => (first
  | ((refine Mine.end_newU (by k_asm) (by k_asm) (by k_mem) (by k_mem) (by kst_allIn) (And.intro (by k_ne) (Mine.ne_allOf (by (simp only [Mine.AllNe, and_true]; (repeat' (refine And.intro ?_ ?_)) <;> first | assumption | k_ne)))) ?_))
  | ((refine Mine.end_valU (by k_asm) (by k_asm) (by k_mem) (by kst_allIn) ?_)))
  k_with "InitBack" => ((dsimp only [InitBack]))
  k_with "eval Call" => ((with_reducible show wpAny _ _ (eval (PySem.Expr.Call (PySem.Expr.Name _ _) (PySem.Expr.Name _ _ :: _) [] _) _) _ _ _); k_dflt (first | (refine' Mine.call_names ?zF ?zX ?zT ?ze ?zk ?za ?zz ?zx ?zd ?zh ?zp ?_; (case zx => exact rfl); (case zz => exact rfl); (case zF => k_asm); (case zX => k_asm); (case zT => k_asm); (case ze => k_is); (case zk => k_is); (case za => walk_at "EvAll"); (case zd => decide); (case zh => exact rfl); (case zp => exact rfl)) | (refine' Mine.call_namesB ?zF ?zX ?zT ?ze ?zv ?zn ?za ?zz ?zx ?zd ?zh ?zp ?_; (case zx => exact rfl); (case zz => exact rfl); (case zF => k_asm); (case zX => k_asm); (case zT => k_asm); (case ze => k_is); (case zv => boot_by_name); (case zn => decide); (case za => walk_at "EvAll"); (case zd => decide); (case zh => exact rfl); (case zp => exact rfl))))
  k_with "storeName" => (dsimp only; walk_at "storeName")
  k_with "execs cons" => (k_fold; walk_at "execs cons")
  k_with "eval Call" => (k_fold; walk_at "eval Call")
  k_with "isTrue Compare" => (k_fold; walk_at "isTrue Compare")
  k_with "eval Compare" => (k_fold; walk_at "eval Compare")
  k_with "eval BinOp" => (k_fold; walk_at "eval BinOp")
  k_with "eval Subscript" => (k_fold; walk_at "eval Subscript")
  first | (refine (id (α := let zA9 := _; let ze9 := _; let zg9 := _; let zd9 := _; let zo9 := _; wpAny _ zA9 (execs _ ze9) _ _ (Shared.mk _ zg9 zd9 _ zo9)) ?_); intro zA9 ze9 zg9 zd9 zo9) | skip
  k_steps
end Mine
end

section
open PySem PySem.W PySem.Spec PySem.Calls PyProof.Rows

namespace Mine
set_option maxRecDepth 100000 in
set_option maxHeartbeats 8000000 in
theorem ntail4 {w : World} {p' : Program} {loose : List Str} {mean : ExcName → Option Value} {mg mb u : Str → Option Value} {dp un : Nat} {gd : Option (List Code)} {cn : Str} {cs : Scope} {a L' : Addr} {ccd : Value} {cl : List (Str × Addr)} {base g0 g' : Heap} {L : Addr} {s0 : Shared} {hs : Heap} {tks : Nat}
    {name qual : Str} {params : Arguments} {body st : List Stmt} {scope : Scope} {dV kV doc pm cdv ct oc : Value} {an od : Option Addr} {osl : Array (Option Value)}
    (ho : (Mine.hd.heap_39 w.params).lookup 287 = some ⟨oc, od, .func (fnOf name qual params body scope dV kV doc pm an cdv ct), osl⟩) (hst : body.drop 4 = st)
    (XB : (Mine.hd.heap_39 w.params).In base) (TB : Top p' loose mean mg mb base) (B' : Below (ktrTop dp un gd cn cs L a ccd cl []) base [envX cn cs L a ccd cl] g') (X : (Mine.hd.heap_39 w.params).In g') (T' : Top p' loose mean mg mb g') (D' : KtsDicts ([envX cn cs L a ccd cl].filterMap (·.frame)) g') (kTn : KtsTurn ([envX cn cs L a ccd cl].filterMap (·.frame)) g0 g') (hk : cs.kind = .function) (hd : dp + 19 < recursionLimit) (hu : un + 390 < cLine)
    {x : Addr} {c : Nat} {vs : List Value} {xs : List Int} {k : Int} {tw : Tok} {o1 o2 o3 o4 o5 : Obj} {ps : Array Value}
    (F' : Fr g' L' hs (kstB u [(Str.ofString "some", .ref x)]))
    (N' : News g' L' hs [(L' + 1 + 1 + 1 + 1 + 1, o5), (L' + 1 + 1 + 1 + 1, o4), (L' + 1 + 1 + 1, o3), (L' + 1 + 1, o2), (L' + 1, o1), (282, tabObj ps), (x, listOf vs.toArray c)])
    (hi : IntsAre vs xs) (hb3 : 3 ≤ xs.length) (hb : xs.length ≤ 9) (h2 : 2 ≤ k) (h8 : k ≤ 8) (gx : ∀ z ∈ xs, 0 ≤ z) (hx : @LT.lt Nat instLTNat x L') (hp : @LT.lt Nat instLTNat 282 L') (hxp : @Ne Nat x 282) (d1 : o1.data = .cell (some (.int k tw)))
    (hTr : TriplesOk ps.toList) (hA230 : ∀ el ec, codeAmong ⟨230, 0, el, ec⟩ ps.toList = none) (hA233 : ∀ el ec, codeAmong ⟨233, 0, el, ec⟩ ps.toList = none) (hA234 : ∀ el ec, codeAmong ⟨234, 0, el, ec⟩ ps.toList = none) (hA238 : ∀ el ec, codeAmong ⟨238, 0, el, ec⟩ ps.toList = none) (d2 : o2.data = .cell none) (d3 : o3.data = .cell none) (d5 : o5.data = .cell none) :
    wpAny (model PySem.Challenge.rw_pq0542_01.row.prog w) ((ktrTop dp un gd cn cs L a ccd cl []).deeper (envOfC qual scope L' 287 cdv)) (execs st (envOfC qual scope L' 287 cdv)) (fun fl s' => BodyEndG ([envX cn cs L a ccd cl].filterMap (·.frame)) g0 282 [(x, listOf vs.toArray c)] OutG (match fl with | .ret v => v | _ => .none) s0 s') (fun _ _ => False) { s0 with heap := hs, toks := tks } := by
  k_with_none
  k_with "Om" => (first | walk_at "MineRoom" | exact Int.natCast_nonneg _ | exact Mine.i_up (by with_reducible assumption) rfl | exact Mine.i_dn (by with_reducible assumption) rfl | exact Mine.i_lt (by with_reducible assumption) rfl | exact Mine.i_gt (by with_reducible assumption) rfl | exact Mine.n_up (by with_reducible assumption) rfl | exact Mine.n_eq (by with_reducible assumption) rfl | exact Mine.n_ge (by with_reducible assumption) rfl | exact Mine.sub0n)
  k_with "EvAll" => (first | exact Mine.EvAll.nil | exact Mine.evs_L (by k_asm) (by exact rfl) rfl rfl (by decide) (by walk_at "EvAll") | exact Mine.evs_C (by k_asm) (by exact rfl) (by k_mem) (by assumption) rfl rfl (by decide) (by walk_at "EvAll"))
  k_with "MineLt" => (first | ((repeat (first | exact Nat.lt_succ_self _ | refine Nat.lt_succ_of_lt ?_)); done) | ((repeat (refine Nat.lt_succ_of_lt ?_)); with_reducible assumption))
  k_with "MineLt2" => (refine Nat.lt_trans ?_ (by with_reducible assumption); walk_at "MineLt")
  k_with "MineRoom" => (k_whole; first | exact Mine.room1 (by with_reducible assumption) rfl | exact Mine.room2 (by with_reducible assumption) rfl | exact Mine.room3 (by with_reducible assumption) rfl | exact Mine.room4 (by with_reducible assumption) rfl | exact Mine.room5 (by with_reducible assumption) rfl | exact Mine.room0 (by with_reducible assumption))
  w_top off
  revert X; k_fill; intro X
  subst hst
  k_dflt (refine' tail_of (P := fun qual scope body cdv => wpAny (model PySem.Challenge.rw_pq0542_01.row.prog w) ((ktrTop dp un gd cn cs L a ccd cl []).deeper (envOfC qual scope L' 287 cdv)) (execs (body.drop 4) (envOfC qual scope L' 287 cdv)) (fun fl s' => BodyEndG ([envX cn cs L a ccd cl].filterMap (·.frame)) g0 282 [(x, listOf vs.toArray c)] OutG (match fl with | .ret v => v | _ => .none) s0 s') (fun _ _ => False) { s0 with heap := hs, toks := tks }) ho ?e ?h; (case e => k_is))
  all_goals try dsimp only [List.drop]
  have kMark := kstMark
  have CdB : CodeHd base 286 282 := codeHd_of_K XB (by kernel_rfl)
  have Cd : CodeHd g' 286 282 := CodeHd.keeps CdB (Below.stays B')
  try k_fold
  k_with "call ref" => (((with_reducible show wpAny _ _ (call (Value.ref 275) _) _ _ _); k_dflt (refine' Mine.refL_c ?zhl ?zF ?zN ?zB ?zhf ?zhG ?zU ?zR ?zhne ?zXB ?zTB ?zD ?zhk ?zhd ?zhu ?zm1 ?zm2 ?ze1 ?ze2 ?zn1 ?zm3 ?zm4 ?zm5 ?zm6 ?zhi ?zhb ?ze3 ?ze5 ?ze4 ?zn2 ?zn3 ?zn6 ?zn7 ?zn4 ?zn5 ?zn8 ?zn9 ?zna ?znb ?znc ?zw0 ?zw3 ?zh2 ?zh8 ?_; (case zF => k_asm); (case zN => k_asm); (case zB => assumption); (case zhf => exact rfl); (case zhG => assumption); (case zU => k_updF); (case zR => (repeat (first | exact Mine.Rem.here | apply Mine.Rem.there))); (case zm1 => k_mem); (case zhl => exact rfl); (case zm2 => k_mem); (case zm3 => k_mem); (case zm4 => k_mem); (case zm5 => k_mem); (case zm6 => k_mem); (case ze3 => assumption); (case ze5 => assumption); (case ze4 => assumption); (case zhne => k_all); (case zXB => assumption); (case zTB => assumption); (case zD => assumption); (case zhk => exact rfl); (case zhd => ((try dsimp only [ktrTop, Around.deeper, callerA]); first | walk_at "MineRoom" | omega | decide | ((try simp only [Around.deeper_units, Around.in1_units, Around.mark_units, depth_under_make, depth_under_kw, depth_in1, depth_deeper, depth_mark, depth_caller]); (try dsimp only [ktrTop, Around.deeper, callerA]); first | walk_at "MineRoom" | omega | decide))); (case zhu => ((try dsimp only [ktrTop, Around.deeper, callerA]); first | walk_at "MineRoom" | omega | decide | ((try simp only [Around.deeper_units, Around.in1_units, Around.mark_units, depth_under_make, depth_under_kw, depth_in1, depth_deeper, depth_mark, depth_caller]); (try dsimp only [ktrTop, Around.deeper, callerA]); first | walk_at "MineRoom" | omega | decide))); (case ze1 => assumption); (case ze2 => assumption); (case zn1 => first | assumption | walk_at "Om" | omega); (case zhi => l_ints); (case zhb => first | assumption | ((try simp only [List.length_append, List.length_cons, List.length_nil, List.length_take]); omega)); (case zn2 => first | assumption | walk_at "Om" | omega); (case zn3 => first | assumption | walk_at "Om" | omega); (case zn6 => first | assumption | walk_at "Om" | omega); (case zn7 => first | assumption | walk_at "Om" | omega); (case zn4 => first | assumption | k_ne | omega); (case zn5 => first | assumption | k_ne | omega); (case zn8 => first | assumption | k_ne | omega); (case zn9 => first | assumption | k_ne | omega); (case zna => first | assumption | k_ne | omega); (case znb => first | assumption | k_ne | omega); (case znc => first | assumption | k_ne | omega); (case zw0 => decide); (case zw3 => decide); (case zh2 => first | assumption | walk_at "Om" | omega); (case zh8 => first | assumption | walk_at "Om" | omega)); intro b9 sl9 h9 tk9 hb9 F9 N9; (first | (have e9 := hb9.mpr (Or.inl (by decide)); subst e9; clear hb9) | (have e9 := pl_bool hb9 (by decide); subst e9; clear hb9)); (try dsimp only at N9); (replace N9 := Mine.news_tail N9); (try k_sweep); (try dsimp only); (try k_fold)))
  k_with "exec For Name Tuple cons nil" => ((fail_if_success (have hq9 := hGL)); (rename Fr _ _ _ _ => lF'); (rename News _ _ _ _ => lN'); (rename Below _ _ _ _ => kB8); ((rename (List.length _ = min _ _) => hm9); (have hn9 := Mine.min_le3 hm9); clear hm9); k_dflt (obtain ⟨oL, sl7, hGL, hLL, hNL, F7, N7, X7, P7⟩ := shut_in kB8 rfl XB TB lF' lN'); (replace hNL := Mine.allNe_of hNL); (try simp only [Mine.AllNe, and_true] at hNL); (repeat (have hn9 := hNL.1; replace hNL := hNL.2)); clear lF' lN'; k_dflt (have Cd7 : CodeHd (shut _ L) 286 282 := CodeHd.keeps CdB (shut_stays kB8 rfl)); walk_at "exec For Name Tuple cons nil")
  k_with "execs cons" => ((with_reducible show wpAny _ _ (execs (PySem.Stmt.If (PySem.Expr.BoolOp _ _ _) _ _ _ :: _) _) _ _ _); (rename Fr _ _ _ _ => lF'); (rename News _ _ _ _ => lN'); k_dflt (refine' shut_k ?bF ?bN ?bB ?bhf ?bhG ?bR ?bhne ?bXB ?bTB ?bD ?_; (case bF => exact lF'); (case bN => exact lN'); (case bB => exact kB8); (case bhf => exact rfl); (case bhG => exact hGL); (case bR => (repeat (first | exact Mine.Rem.here | apply Mine.Rem.there))); (case bhne => k_all); (case bXB => exact XB); (case bTB => exact TB); (case bD => assumption)); intro G8 T8 F8 N8 B8 X8 P8 D8; k_dflt (refine' ntail6 ?aho ?ahst ?aXB ?aTB ?aB ?aX ?aT ?aD ?aK ?ahk ?ahd ?ahu ?aF ?aN ?ahi ?ahb3 ?ahb ?ah2 ?ah8 ?agx ?ahx ?ahp ?ahxp ?ad1 ?ap0 ?ap1 ?ap2 ?ap3 ?ap4; (case aho => k_is); (case ahst => exact rfl); (case aF => exact fr_names F8 (by kst_all)); (case aN => exact kst_newsOf N8 (by kst_allIn)); (case aXB => exact XB); (case aTB => exact TB); (case aB => exact B8); (case aX => exact X8); (case aT => exact P8); (case aD => exact D8); (case aK => exact KtsTurn.trans kTn T8); (case ahk => exact hk); (case ahd => first | walk_at "Om" | omega); (case ahu => first | walk_at "Om" | omega); (case ahi => exact hi); (case ahb3 => exact hb3); (case ahb => exact hb); (case ah2 => exact h2); (case ah8 => exact h8); (case agx => exact gx); (case ahx => first | walk_at "Om" | omega); (case ahp => first | walk_at "Om" | omega); (case ahxp => first | walk_at "Om" | omega); (case ad1 => assumption); (case ap0 => kn_triples); (case ap1 => (intro _ _; kn_among)); (case ap2 => (intro _ _; kn_among)); (case ap3 => (intro _ _; kn_among)); (case ap4 => assumption)))
  k_with "BodyEnd" => (k_dflt (first
  | ((refine Mine.end_new (by k_asm) (by k_asm) (by k_mem) (by kst_allIn) (by k_all) ?_); (refine Mine.outI ?_))
  | ((refine Mine.end_val (by k_asm) (by k_asm) (by kst_allIn) ?_))))
  k_with "callWith ref" => ((k_here; k_dflt (refine' callWith_K ?k1 ?k2 ?_; (case k1 => k_asm); (case k2 => k_is); k_whole)))
  k_with "BodyEndG" => (k_dflt (refine Mine.endG (by k_asm) (by k_asm) (by first | assumption | exact KtsTurn.refl) (by k_mem) (by kst_allIn) ?_))
  k_with "leaving ref" => ((k_dflt (refine' Mine.leave_onX ?k1 ?k2 ?k3 ?k4 ?_; (case k3 => assumption); (case k2 => assumption); (case k1 => assumption); (case k4 => assumption)); intro h' S' R' U'; (try dsimp only at S' R' U' ⊢)))
  k_with "subscriptTail Name Slice ref ref" => (((with_reducible show wpAny _ _ (subscriptTail _ (PySem.Expr.Slice _ _ none _) (Value.ref _) (Value.ref _)) _ _ _); k_dflt (refine' kmk_slice_ints ?sF ?sN ?sl ?sp ?sq ?si ?sm ?sc ?_ ?ss ?st ?sz; (case sF => k_asm); (case sN => k_asm); (case sl => kmk_list); (case sp => kmk_part); (case sq => kmk_part); (case si => l_ints); (case sm => first | (with_reducible exact kmk_all (by assumption)) | (with_reducible exact kmk_upto (by assumption) (by first | assumption | walk_at "Om" | omega))); (case sc => exact rfl); (case ss => with_unfolding_all rfl); (case st => kmk_pure); (case sz => exact kmk_sz (by assumption) (by rw [sizeLine_eq]; omega)); intro D9 ws9 h9 F9 N9 l9 I9 C9 L9; (try k_lt l9); (try k_sweep))))
  k_with "BodyEndU" => (first
  | ((refine Mine.end_newU (by k_asm) (by k_asm) (by k_mem) (by k_mem) (by kst_allIn) (And.intro (by k_ne) (Mine.ne_allOf (by (simp only [Mine.AllNe, and_true]; (repeat' (refine And.intro ?_ ?_)) <;> first | assumption | k_ne)))) ?_))
  | ((refine Mine.end_valU (by k_asm) (by k_asm) (by k_mem) (by kst_allIn) ?_)))
  k_with "InitBack" => ((dsimp only [InitBack]))
  k_with "eval Call" => ((with_reducible show wpAny _ _ (eval (PySem.Expr.Call (PySem.Expr.Name _ _) (PySem.Expr.Name _ _ :: _) [] _) _) _ _ _); k_dflt (first | (refine' Mine.call_names ?zF ?zX ?zT ?ze ?zk ?za ?zz ?zx ?zd ?zh ?zp ?_; (case zx => exact rfl); (case zz => exact rfl); (case zF => k_asm); (case zX => k_asm); (case zT => k_asm); (case ze => k_is); (case zk => k_is); (case za => walk_at "EvAll"); (case zd => decide); (case zh => exact rfl); (case zp => exact rfl)) | (refine' Mine.call_namesB ?zF ?zX ?zT ?ze ?zv ?zn ?za ?zz ?zx ?zd ?zh ?zp ?_; (case zx => exact rfl); (case zz => exact rfl); (case zF => k_asm); (case zX => k_asm); (case zT => k_asm); (case ze => k_is); (case zv => boot_by_name); (case zn => decide); (case za => walk_at "EvAll"); (case zd => decide); (case zh => exact rfl); (case zp => exact rfl))))
  k_with "storeName" => (dsimp only; walk_at "storeName")
  k_with "execs cons" => (k_fold; walk_at "execs cons")
  k_with "eval Call" => (k_fold; walk_at "eval Call")
  k_with "isTrue Compare" => (k_fold; walk_at "isTrue Compare")
  k_with "eval Compare" => (k_fold; walk_at "eval Compare")
  k_with "eval BinOp" => (k_fold; walk_at "eval BinOp")
  k_with "eval Subscript" => (k_fold; walk_at "eval Subscript")
  first | (refine (id (α := let zA9 := _; let ze9 := _; let zg9 := _; let zd9 := _; let zo9 := _; wpAny _ zA9 (execs _ ze9) _ _ (Shared.mk _ zg9 zd9 _ zo9)) ?_); intro zA9 ze9 zg9 zd9 zo9) | skip
  k_steps
  all_goals (exfalso; exact pl_no (by assumption))

end Mine
end

section
open PySem PySem.W PySem.Spec PySem.Calls PyProof.Rows

namespace Mine
set_option maxRecDepth 100000 in
set_option maxHeartbeats 8000000 in
theorem ntail2 {w : World} {p' : Program} {loose : List Str} {mean : ExcName → Option Value} {mg mb u : Str → Option Value} {dp un : Nat} {gd : Option (List Code)} {cn : Str} {cs : Scope} {a L' : Addr} {ccd : Value} {cl : List (Str × Addr)} {base g0 g' : Heap} {L : Addr} {s0 : Shared} {hs : Heap} {tks : Nat}
    {name qual : Str} {params : Arguments} {body st : List Stmt} {scope : Scope} {dV kV doc pm cdv ct oc : Value} {an od : Option Addr} {osl : Array (Option Value)}
    (ho : (Mine.hd.heap_39 w.params).lookup 287 = some ⟨oc, od, .func (fnOf name qual params body scope dV kV doc pm an cdv ct), osl⟩) (hst : body.drop 2 = st)
    (XB : (Mine.hd.heap_39 w.params).In base) (TB : Top p' loose mean mg mb base) (B' : Below (ktrTop dp un gd cn cs L a ccd cl []) base [envX cn cs L a ccd cl] g') (X : (Mine.hd.heap_39 w.params).In g') (T' : Top p' loose mean mg mb g') (D' : KtsDicts ([envX cn cs L a ccd cl].filterMap (·.frame)) g') (kTn : KtsTurn ([envX cn cs L a ccd cl].filterMap (·.frame)) g0 g') (hk : cs.kind = .function) (hd : dp + 19 < recursionLimit) (hu : un + 390 < cLine)
    {x : Addr} {c : Nat} {vs : List Value} {xs : List Int} {k : Int} {tw : Tok} {o1 o2 o3 o4 o5 : Obj} {ps : Array Value} {src dx nl ai : Addr} {va : List Value} {cN cA : Nat} {tq ta t1 t2 t3 : Tok}
    (F' : Fr g' L' hs (kstB u [(Str.ofString "some", .ref x)]))
    (N' : News g' L' hs [(src, instObj 182 dx), (dx, (dictOf [⟨PyData.keyHash w.params "numbers", .str "numbers" t1, .ref nl⟩, ⟨PyData.keyHash w.params "many", .str "many" t2, .int 1 tq⟩, ⟨PyData.keyHash w.params "at", .str "at" t3, .int 0 ta⟩] 3)), (nl, listOf [Value.ref ai].toArray cN), (ai, listOf va.toArray cA), (L' + 1 + 1 + 1 + 1 + 1, o5), (L' + 1 + 1 + 1 + 1, o4), (L' + 1 + 1 + 1, o3), (L' + 1 + 1, o2), (L' + 1, o1), (282, tabObj ps), (x, listOf vs.toArray c)])
    (hi : IntsAre vs xs) (hb3 : 3 ≤ xs.length) (hb : xs.length ≤ 9) (h2 : 2 ≤ k) (h8 : k ≤ 8) (gx : ∀ z ∈ xs, 0 ≤ z) (hx : @LT.lt Nat instLTNat x L') (hp : @LT.lt Nat instLTNat 282 L') (hxp : @Ne Nat x 282) (d1 : o1.data = .cell (some (.int k tw)))
    (hTr : TriplesOk ps.toList) (hA223 : ∀ el ec, codeAmong ⟨223, 0, el, ec⟩ ps.toList = none) (hA230 : ∀ el ec, codeAmong ⟨230, 0, el, ec⟩ ps.toList = none) (hA233 : ∀ el ec, codeAmong ⟨233, 0, el, ec⟩ ps.toList = none) (hA234 : ∀ el ec, codeAmong ⟨234, 0, el, ec⟩ ps.toList = none) (hA238 : ∀ el ec, codeAmong ⟨238, 0, el, ec⟩ ps.toList = none) (hia : IntsAre va [1]) (d2 : o2.data = .cell none) (d3 : o3.data = .cell none) (d5 : o5.data = .cell none) (d4 : o4.data = .cell (some (.ref src))) (q1 : @LT.lt Nat instLTNat (L' + 1 + 1 + 1 + 1 + 1) ai) (q2 : @LT.lt Nat instLTNat ai nl) (q3 : @LT.lt Nat instLTNat nl dx) (q4 : @LT.lt Nat instLTNat dx src) :
    wpAny (model PySem.Challenge.rw_pq0542_01.row.prog w) ((ktrTop dp un gd cn cs L a ccd cl []).deeper (envOfC qual scope L' 287 cdv)) (execs st (envOfC qual scope L' 287 cdv)) (fun fl s' => BodyEndG ([envX cn cs L a ccd cl].filterMap (·.frame)) g0 282 [(x, listOf vs.toArray c)] OutG (match fl with | .ret v => v | _ => .none) s0 s') (fun _ _ => False) { s0 with heap := hs, toks := tks } := by
  k_with_none
  k_with "Om" => (first | walk_at "MineRoom" | exact Int.natCast_nonneg _ | exact Mine.i_up (by with_reducible assumption) rfl | exact Mine.i_dn (by with_reducible assumption) rfl | exact Mine.i_lt (by with_reducible assumption) rfl | exact Mine.i_gt (by with_reducible assumption) rfl | exact Mine.n_up (by with_reducible assumption) rfl | exact Mine.n_eq (by with_reducible assumption) rfl | exact Mine.n_ge (by with_reducible assumption) rfl | exact Mine.sub0n)
  k_with "EvAll" => (first | exact Mine.EvAll.nil | exact Mine.evs_L (by k_asm) (by exact rfl) rfl rfl (by decide) (by walk_at "EvAll") | exact Mine.evs_C (by k_asm) (by exact rfl) (by k_mem) (by assumption) rfl rfl (by decide) (by walk_at "EvAll"))
  k_with "MineLt" => (first | ((repeat (first | exact Nat.lt_succ_self _ | refine Nat.lt_succ_of_lt ?_)); done) | ((repeat (refine Nat.lt_succ_of_lt ?_)); with_reducible assumption))
  k_with "MineLt2" => (refine Nat.lt_trans ?_ (by with_reducible assumption); walk_at "MineLt")
  k_with "MineRoom" => (k_whole; first | exact Mine.room1 (by with_reducible assumption) rfl | exact Mine.room2 (by with_reducible assumption) rfl | exact Mine.room3 (by with_reducible assumption) rfl | exact Mine.room4 (by with_reducible assumption) rfl | exact Mine.room5 (by with_reducible assumption) rfl | exact Mine.room0 (by with_reducible assumption))
  w_top off
  revert X; k_fill; intro X
  subst hst
  k_dflt (refine' tail_of (P := fun qual scope body cdv => wpAny (model PySem.Challenge.rw_pq0542_01.row.prog w) ((ktrTop dp un gd cn cs L a ccd cl []).deeper (envOfC qual scope L' 287 cdv)) (execs (body.drop 2) (envOfC qual scope L' 287 cdv)) (fun fl s' => BodyEndG ([envX cn cs L a ccd cl].filterMap (·.frame)) g0 282 [(x, listOf vs.toArray c)] OutG (match fl with | .ret v => v | _ => .none) s0 s') (fun _ _ => False) { s0 with heap := hs, toks := tks }) ho ?e ?h; (case e => k_is))
  all_goals try dsimp only [List.drop]
  have kMark := kstMark
  have l5 : @LT.lt Nat instLTNat (L' + 1 + 1 + 1 + 1 + 1) dx := Nat.lt_trans (Nat.lt_trans q1 q2) q3
  have l4 : @LT.lt Nat instLTNat (L' + 1 + 1 + 1 + 1) dx := Nat.lt_of_succ_lt l5
  have l3 : @LT.lt Nat instLTNat (L' + 1 + 1 + 1) dx := Nat.lt_of_succ_lt l4
  have l2 : @LT.lt Nat instLTNat (L' + 1 + 1) dx := Nat.lt_of_succ_lt l3
  have l1 : @LT.lt Nat instLTNat (L' + 1) dx := Nat.lt_of_succ_lt l2
  have lx : @LT.lt Nat instLTNat x dx := Nat.lt_trans hx (Nat.lt_of_succ_lt l1)
  have lp : @LT.lt Nat instLTNat 282 dx := Nat.lt_trans hp (Nat.lt_of_succ_lt l1)
  have la : @LT.lt Nat instLTNat ai dx := Nat.lt_trans q2 q3
  have CdB : CodeHd base 286 282 := codeHd_of_K XB (by kernel_rfl)
  have Cd : CodeHd g' 286 282 := CodeHd.keeps CdB (Below.stays B')
  try k_fold
  k_with "call ref" => ((with_reducible show wpAny _ _ (call (Value.ref 221) _) _ _ _); k_dflt (refine' Mine.rlen0_c ?uB ?uF ?uX ?uN ?uT ?uk ?ud ?uu ?p0 ?p1 ?p2 ?p3 ?p4 ?p5 ?p6 ?p7 ?p8 ?p9 ?p10 ?p11 ?_; (case uB => k_asm); (case uF => k_asm); (case uX => k_asm); (case uN => k_asm); (case uT => k_asm); (case uk => exact rfl); (case ud => ((try dsimp only [ktrTop, Around.deeper, callerA]); first | walk_at "MineRoom" | omega | decide | ((try simp only [Around.deeper_units, Around.in1_units, Around.mark_units, depth_under_make, depth_under_kw, depth_in1, depth_deeper, depth_mark, depth_caller]); (try dsimp only [ktrTop, Around.deeper, callerA]); first | walk_at "MineRoom" | omega | decide))); (case uu => ((try dsimp only [ktrTop, Around.deeper, callerA]); first | walk_at "MineRoom" | omega | decide | ((try simp only [Around.deeper_units, Around.in1_units, Around.mark_units, depth_under_make, depth_under_kw, depth_in1, depth_deeper, depth_mark, depth_caller]); (try dsimp only [ktrTop, Around.deeper, callerA]); first | walk_at "MineRoom" | omega | decide))); (case p1 => k_mem); (case p0 => k_updF); (case p2 => k_mem); (case p3 => k_mem); (case p4 => k_ne); (case p5 => k_ne); (case p6 => k_ne); (case p7 => l_ints); (case p8 => first | assumption | walk_at "Om" | omega); (case p9 => first | assumption | walk_at "Om" | omega); (case p10 => first | omega | decide); (case p11 => first | omega | decide); intro r9 us9 c9 tb9 h9 tk9 F9 N9 ne9 I9; (try dsimp only at N9 ne9); (replace ne9 := Mine.allNe_of ne9; (try simp only [Mine.AllNe, and_true] at ne9); (repeat (have hn9 := ne9.1; replace ne9 := ne9.2))); have e9 := IntsAre.nil_inv I9; subst e9; (try k_sweep); (try dsimp only); (try k_fold)))
  k_with "call ref" => ((with_reducible show wpAny _ _ (call (Value.ref 228) _) _ _ _); k_dflt (refine' Mine.rrows0_c ?uB ?uF ?uX ?uN ?uT ?uk ?ud ?uu ?p0 ?p1 ?p2 ?p3 ?p4 ?p5 ?p6 ?p7 ?p8 ?p9 ?p10 ?p11 ?_; (case uB => k_asm); (case uF => k_asm); (case uX => k_asm); (case uN => k_asm); (case uT => k_asm); (case uk => exact rfl); (case ud => ((try dsimp only [ktrTop, Around.deeper, callerA]); first | walk_at "MineRoom" | omega | decide | ((try simp only [Around.deeper_units, Around.in1_units, Around.mark_units, depth_under_make, depth_under_kw, depth_in1, depth_deeper, depth_mark, depth_caller]); (try dsimp only [ktrTop, Around.deeper, callerA]); first | walk_at "MineRoom" | omega | decide))); (case uu => ((try dsimp only [ktrTop, Around.deeper, callerA]); first | walk_at "MineRoom" | omega | decide | ((try simp only [Around.deeper_units, Around.in1_units, Around.mark_units, depth_under_make, depth_under_kw, depth_in1, depth_deeper, depth_mark, depth_caller]); (try dsimp only [ktrTop, Around.deeper, callerA]); first | walk_at "MineRoom" | omega | decide))); (case p1 => k_mem); (case p0 => k_updF); (case p2 => k_mem); (case p3 => k_mem); (case p4 => k_ne); (case p5 => k_ne); (case p6 => k_ne); (case p7 => l_ints); (case p8 => first | assumption | walk_at "Om" | omega); (case p9 => first | assumption | walk_at "Om" | omega); (case p10 => first | omega | decide); (case p11 => first | omega | decide); intro r9 us9 c9 tb9 h9 tk9 F9 N9 ne9 I9; (try dsimp only at N9 ne9); (replace ne9 := Mine.allNe_of ne9; (try simp only [Mine.AllNe, and_true] at ne9); (repeat (have hn9 := ne9.1; replace ne9 := ne9.2))); have e9 := IntsAre.nil_inv I9; subst e9; (try k_sweep); (try dsimp only); (try k_fold)))
  k_with "LeaveQ" => (k_dflt (refine' leaveQ_ ?F ?N ?T ?n ?_; (case F => k_asm); (case N => k_asm); (case T => first | assumption | exact KtsTurn.refl); (case n => kst_allIn)); intro h₈ T8 F8 N8 B8 X8 P8 D8; (try dsimp only at F8 N8); (replace kTn := KtsTurn.trans kTn T8); clear T8; have Cd8 : CodeHd h₈ 286 282 := CodeHd.keeps CdB (Below.stays B8); (try dsimp only); (try k_sweep); (try k_fold))
  k_with "execs cons" => ((with_reducible show wpAny _ _ (execs (PySem.Stmt.Assign [PySem.Expr.Name (PySem.Str.ofString "row") _] _ _ :: _) _) _ _ _); (rename Fr _ _ _ _ => lF'); (rename News _ _ _ _ => lN'); k_dflt (refine' ntail4 ?aho ?ahst ?aXB ?aTB ?aB ?aX ?aT ?aD ?aK ?ahk ?ahd ?ahu ?aF ?aN ?ahi ?ahb3 ?ahb ?ah2 ?ah8 ?agx ?ahx ?ahp ?ahxp ?ad1 ?ap0 ?ap1 ?ap2 ?ap3 ?ap4 ?ap5 ?ap6 ?ap7; (case aho => k_is); (case ahst => exact rfl); (case aF => exact fr_names lF' (by kst_all)); (case aN => exact kst_newsOf lN' (by kst_allIn)); (case aXB => exact XB); (case aTB => exact TB); (case aB => assumption); (case aX => assumption); (case aT => assumption); (case aD => assumption); (case aK => exact kTn); (case ahk => exact hk); (case ahd => first | walk_at "Om" | omega); (case ahu => first | walk_at "Om" | omega); (case ahi => exact hi); (case ahb3 => exact hb3); (case ahb => exact hb); (case ah2 => exact h2); (case ah8 => exact h8); (case agx => exact gx); (case ahx => first | walk_at "Om" | omega); (case ahp => first | walk_at "Om" | omega); (case ahxp => first | walk_at "Om" | omega); (case ad1 => assumption); (case ap0 => kn_triples); (case ap1 => (intro _ _; kn_among)); (case ap2 => (intro _ _; kn_among)); (case ap3 => (intro _ _; kn_among)); (case ap4 => (intro _ _; kn_among)); (case ap5 => assumption); (case ap6 => assumption); (case ap7 => assumption)))
  k_with "BodyEnd" => (k_dflt (first
  | ((refine Mine.end_new (by k_asm) (by k_asm) (by k_mem) (by kst_allIn) (by k_all) ?_); (refine Mine.outI ?_))
  | ((refine Mine.end_val (by k_asm) (by k_asm) (by kst_allIn) ?_))))
  k_with "callWith ref" => ((k_here; k_dflt (refine' callWith_K ?k1 ?k2 ?_; (case k1 => k_asm); (case k2 => k_is); k_whole)))
  k_with "BodyEndG" => (k_dflt (refine Mine.endG (by k_asm) (by k_asm) (by first | assumption | exact KtsTurn.refl) (by k_mem) (by kst_allIn) ?_))
  k_with "leaving ref" => ((k_dflt (refine' Mine.leave_onX ?k1 ?k2 ?k3 ?k4 ?_; (case k3 => assumption); (case k2 => assumption); (case k1 => assumption); (case k4 => assumption)); intro h' S' R' U'; (try dsimp only at S' R' U' ⊢)))
  k_with "call ref" => (((with_reducible show wpAny _ _ (call (Value.ref 275) _) _ _ _); k_dflt (refine' Mine.call_rQ12 ?k1 ?k2 ?k3 ?k4 ?k5 ?XB ?TB ?D ?kA ?kF ?kK ?k6 ?k7 ?k8 ?k9 ?kB (ps := [(PySem.Str.ofString "work", _)]) ?kP ?_ ?c2 ?c3 ?c4 ?c5; (case kA => exact rfl); (case kF => exact rfl); (case kK => exact rfl); (case k2 => k_asm); (case k1 => k_asm); (case k3 => k_asm); (case k4 => k_asm); (case k5 => k_asm); (case XB => assumption); (case TB => assumption); (case D => assumption); (case k6 => k_is); (case k7 => k_is); (case k8 => k_room); (case k9 => exact BindsTo.of_eq rfl); (case c5 => decide); (case kB => exact locs rfl); (case kP => kst_all); (case c2 => exact rfl); (case c3 => exact rfl); (case c4 => exact rfl)); intro g' L' h' u9 tk9 F' N' B' X' T' D'; (try dsimp only [kstB] at F'); (try dsimp only); (try k_lift B'); (try k_fold)))
  k_with "subscriptTail Name Slice ref ref" => (((with_reducible show wpAny _ _ (subscriptTail _ (PySem.Expr.Slice _ _ none _) (Value.ref _) (Value.ref _)) _ _ _); k_dflt (refine' kmk_slice_ints ?sF ?sN ?sl ?sp ?sq ?si ?sm ?sc ?_ ?ss ?st ?sz; (case sF => k_asm); (case sN => k_asm); (case sl => kmk_list); (case sp => kmk_part); (case sq => kmk_part); (case si => l_ints); (case sm => first | (with_reducible exact kmk_all (by assumption)) | (with_reducible exact kmk_upto (by assumption) (by first | assumption | walk_at "Om" | omega))); (case sc => exact rfl); (case ss => with_unfolding_all rfl); (case st => kmk_pure); (case sz => exact kmk_sz (by assumption) (by rw [sizeLine_eq]; omega)); intro D9 ws9 h9 F9 N9 l9 I9 C9 L9; (try k_lt l9); (try k_sweep))))
  k_with "BodyEndU" => (first
  | ((refine Mine.end_newU (by k_asm) (by k_asm) (by k_mem) (by k_mem) (by kst_allIn) (And.intro (by k_ne) (Mine.ne_allOf (by (simp only [Mine.AllNe, and_true]; (repeat' (refine And.intro ?_ ?_)) <;> first | assumption | k_ne)))) ?_))
  | ((refine Mine.end_valU (by k_asm) (by k_asm) (by k_mem) (by kst_allIn) ?_)))
  k_with "InitBack" => ((dsimp only [InitBack]))
  k_with "eval Call" => ((with_reducible show wpAny _ _ (eval (PySem.Expr.Call (PySem.Expr.Name _ _) (PySem.Expr.Name _ _ :: _) [] _) _) _ _ _); k_dflt (first | (refine' Mine.call_names ?zF ?zX ?zT ?ze ?zk ?za ?zz ?zx ?zd ?zh ?zp ?_; (case zx => exact rfl); (case zz => exact rfl); (case zF => k_asm); (case zX => k_asm); (case zT => k_asm); (case ze => k_is); (case zk => k_is); (case za => walk_at "EvAll"); (case zd => decide); (case zh => exact rfl); (case zp => exact rfl)) | (refine' Mine.call_namesB ?zF ?zX ?zT ?ze ?zv ?zn ?za ?zz ?zx ?zd ?zh ?zp ?_; (case zx => exact rfl); (case zz => exact rfl); (case zF => k_asm); (case zX => k_asm); (case zT => k_asm); (case ze => k_is); (case zv => boot_by_name); (case zn => decide); (case za => walk_at "EvAll"); (case zd => decide); (case zh => exact rfl); (case zp => exact rfl))))
  k_with "storeName" => (dsimp only; walk_at "storeName")
  k_with "execs cons" => (k_fold; walk_at "execs cons")
  k_with "eval Call" => (k_fold; walk_at "eval Call")
  k_with "isTrue Compare" => (k_fold; walk_at "isTrue Compare")
  k_with "eval Compare" => (k_fold; walk_at "eval Compare")
  k_with "eval BinOp" => (k_fold; walk_at "eval BinOp")
  k_with "eval Subscript" => (k_fold; walk_at "eval Subscript")
  first | (refine (id (α := let ze9 := _; let zg9 := _; let zd9 := _; let zo9 := _; wpAny _ _ (execs _ ze9) _ _ (Shared.mk _ zg9 zd9 _ zo9)) ?_); intro ze9 zg9 zd9 zo9) | skip
  k_steps


end Mine
end

section
open PySem PySem.W PySem.Spec PySem.Calls PyProof.Rows

namespace Mine
set_option maxRecDepth 100000 in
set_option maxHeartbeats 8000000 in
theorem nothing0_c {w : World} {p : Program} {loose : List Str} {mean : ExcName → Option Value} {mg mb : Str → Option Value} {dp un : Nat} {gd : Option (List Code)} {cn : Str} {cs : Scope} {a : Addr} {ccd : Value} {cl : List (Str × Addr)} {A₀ : Around} {base h₀ : Heap} {L : Addr} {m : Str → Option Value} {news : List (Addr × Obj)} {s : Shared} {Q E : Value → Shared → Prop}
    (B : Below A₀ base [] h₀) (F : Fr h₀ L s.heap m) (X : (Mine.hd.heap_39 w.params).In h₀) (N : News h₀ L s.heap news) (T : Top p loose mean mg mb h₀) (hk : cs.kind = .function) (hd : dp + 20 < recursionLimit) (hu : un + 400 < cLine) (XB : (Mine.hd.heap_39 w.params).In base) (TB : Top p loose mean mg mb base)
    {x : Addr} {c : Nat} {vs : List Value} {xs : List Int} {k : Int} {tw : Tok} {gl : Obj → List (Addr × Obj)} (U : UpdF 282 (tabObj #[]) news gl) (hxp : @Ne Nat x 282) (hi : IntsAre vs xs) (hb3 : 3 ≤ xs.length) (hb : xs.length ≤ 9) (h2 : 2 ≤ k) (h8 : k ≤ 8) (gx : ∀ z ∈ xs, 0 ≤ z) (hE : (xs.getD (Int.toNat 0) 0).fmod 2 = 0) (hm : (x, listOf vs.toArray c) ∈ news)
    (ret : ∀ ps h' tk', Fr h₀ L h' m → News h₀ L h' (gl (tabObj ps)) → Q (.bool true) { s with heap := h', toks := tk' }) :
    wpAny (model PySem.Challenge.rw_pq0542_01.row.prog w) (ktrTop dp un gd cn cs L a ccd cl []) (call (.ref 287) [Value.ref x, Value.int k tw]) Q E s := by
  k_with_none
  k_with "Om" => (first | walk_at "MineRoom" | exact Int.natCast_nonneg _ | exact Mine.i_up (by with_reducible assumption) rfl | exact Mine.i_dn (by with_reducible assumption) rfl | exact Mine.i_lt (by with_reducible assumption) rfl | exact Mine.i_gt (by with_reducible assumption) rfl | exact Mine.n_up (by with_reducible assumption) rfl | exact Mine.n_eq (by with_reducible assumption) rfl | exact Mine.n_ge (by with_reducible assumption) rfl | exact Mine.sub0n)
  k_with "EvAll" => (first | exact Mine.EvAll.nil | exact Mine.evs_L (by k_asm) (by exact rfl) rfl rfl (by decide) (by walk_at "EvAll") | exact Mine.evs_C (by k_asm) (by exact rfl) (by k_mem) (by assumption) rfl rfl (by decide) (by walk_at "EvAll"))
  k_with "MineLt" => (first | ((repeat (first | exact Nat.lt_succ_self _ | refine Nat.lt_succ_of_lt ?_)); done) | ((repeat (refine Nat.lt_succ_of_lt ?_)); with_reducible assumption))
  k_with "MineLt2" => (refine Nat.lt_trans ?_ (by with_reducible assumption); walk_at "MineLt")
  k_with "MineRoom" => (k_whole; first | exact Mine.room1 (by with_reducible assumption) rfl | exact Mine.room2 (by with_reducible assumption) rfl | exact Mine.room3 (by with_reducible assumption) rfl | exact Mine.room4 (by with_reducible assumption) rfl | exact Mine.room5 (by with_reducible assumption) rfl | exact Mine.room0 (by with_reducible assumption))
  w_top off
  revert X; k_fill; intro X
  k_dflt (refine' call_uG2 [(x, listOf vs.toArray c)] OutG ?k1 ?k2 ?k3 ?k4 ?k5 ?kU ?ks ?kA ?kF ?kK ?k6 ?k7 ?k8 ?k9 ?kB ?kD ?kR (ps := [(Str.ofString "some", Value.ref x)]) ?kP ?_ ?c2 ?c3 ?c4; (case kA => exact rfl); (case kF => exact rfl); (case kK => assumption); (case k1 => exact B); (case k2 => k_asm); (case k3 => exact X); (case k4 => k_asm); (case k5 => exact T); (case kU => assumption); (case k6 => k_is); (case k7 => k_is); (case k8 => (show dp < recursionLimit; first | walk_at "MineRoom" | omega)); (case k9 => exact BindsTo.of_eq rfl); (case kB => exact rfl); (case kD => decide +kernel); (case kP => (intro L9; kst_all)); (case c2 => exact rfl); (case c3 => exact rfl); (case c4 => exact rfl))
  case ks => exact List.forall_mem_cons.mpr ⟨hm, List.forall_mem_nil _⟩
  case kR =>
    rintro v ob' h' tk' F' N' ⟨⟨ps, rfl⟩, rfl⟩
    exact ret ps h' tk' F' N'
  clear B F X N T ret U
  clear hm
  intro g' L' h' tk' cells' u F' N' Y' B' X' T' D' l1
  (try dsimp only [kstB] at F')
  (try k_lt l1)
  obtain ⟨oc1, oc2, oc3, oc4, oc5, hE', ce1, ce2, ce3, ce4, ce5⟩ := PyProof.Rows.kc_five Y'; subst hE'; have dW : oc5.data = .cell (some (.int k tw)) := (by with_unfolding_all exact ce5); have dP : oc4.data = .cell none := (by with_unfolding_all exact ce4); have dR : oc3.data = .cell none := (by with_unfolding_all exact ce3); have dS : oc2.data = .cell none := (by with_unfolding_all exact ce2); have dV : oc1.data = .cell none := (by with_unfolding_all exact ce1)
  (try simp only [List.cons_append, List.nil_append] at N')
  try dsimp only
  try k_fold
  have kMark := kstMark
  have kTn : KtsTurn ([envX cn cs L a ccd cl].filterMap (·.frame)) g' g' := KtsTurn.refl
  k_with "call ref" => ((with_reducible show wpAny _ _ (call (Value.ref 193) _) _ _ _); k_dflt (refine' Mine.rbits0_c ?uB ?uF ?uX ?uN ?uT ?uk ?ud ?uu ?p0 ?p1 ?_; (case uB => k_asm); (case uF => k_asm); (case uX => k_asm); (case uN => k_asm); (case uT => k_asm); (case uk => exact rfl); (case ud => ((try dsimp only [ktrTop, Around.deeper, callerA]); first | walk_at "MineRoom" | omega | decide | ((try simp only [Around.deeper_units, Around.in1_units, Around.mark_units, depth_under_make, depth_under_kw, depth_in1, depth_deeper, depth_mark, depth_caller]); (try dsimp only [ktrTop, Around.deeper, callerA]); first | walk_at "MineRoom" | omega | decide))); (case uu => ((try dsimp only [ktrTop, Around.deeper, callerA]); first | walk_at "MineRoom" | omega | decide | ((try simp only [Around.deeper_units, Around.in1_units, Around.mark_units, depth_under_make, depth_under_kw, depth_in1, depth_deeper, depth_mark, depth_caller]); (try dsimp only [ktrTop, Around.deeper, callerA]); first | walk_at "MineRoom" | omega | decide))); (case p0 => first | assumption | walk_at "Om" | omega); (case p1 => first | assumption | walk_at "Om" | omega); intro r9 us9 c9 h9 tk9 F9 N9 ne9 I9; (replace ne9 := Mine.allNe_of ne9; (try simp only [Mine.AllNe, and_true] at ne9); (repeat (have hn9 := ne9.1; replace ne9 := ne9.2))); have e9 := IntsAre.nil_inv I9; subst e9; (try k_sweep); (try dsimp only); (try k_fold)))
  k_with "call ref" => ((with_reducible show wpAny _ _ (call (Value.ref 207) _) _ _ _); k_dflt (refine' Mine.sbelow1_c ?uB ?uF ?uX ?uN ?uT ?uk ?ud ?uu ?p0 ?p1 ?_; (case uB => k_asm); (case uF => k_asm); (case uX => k_asm); (case uN => k_asm); (case uT => k_asm); (case uk => exact rfl); (case ud => ((try dsimp only [ktrTop, Around.deeper, callerA]); first | walk_at "MineRoom" | omega | decide | ((try simp only [Around.deeper_units, Around.in1_units, Around.mark_units, depth_under_make, depth_under_kw, depth_in1, depth_deeper, depth_mark, depth_caller]); (try dsimp only [ktrTop, Around.deeper, callerA]); first | walk_at "MineRoom" | omega | decide))); (case uu => ((try dsimp only [ktrTop, Around.deeper, callerA]); first | walk_at "MineRoom" | omega | decide | ((try simp only [Around.deeper_units, Around.in1_units, Around.mark_units, depth_under_make, depth_under_kw, depth_in1, depth_deeper, depth_mark, depth_caller]); (try dsimp only [ktrTop, Around.deeper, callerA]); first | walk_at "MineRoom" | omega | decide))); (case p0 => first | assumption | walk_at "Om" | omega); (case p1 => first | assumption | walk_at "Om" | omega); intro t9 h9 tk9 F9 N9; (try k_sweep); (try dsimp only); (try k_fold)))
  k_with "evalPart none" => rw [hE]
  k_with "execs cons" => ((with_reducible show wpAny _ _ (execs (PySem.Stmt.If (PySem.Expr.BoolOp _ (PySem.Expr.Compare (PySem.Expr.Attribute _ _ _) _ _ _ :: _) _) _ _ _ :: _) _) _ _ _); (rename Fr _ _ _ _ => lF'); (rename News _ _ _ _ => lN'); k_dflt (refine' ntail2 ?aho ?ahst ?aXB ?aTB ?aB ?aX ?aT ?aD ?aK ?ahk ?ahd ?ahu ?aF ?aN ?ahi ?ahb3 ?ahb ?ah2 ?ah8 ?agx ?ahx ?ahp ?ahxp ?ad1 ?ap0 ?ap1 ?ap2 ?ap3 ?ap4 ?ap5 ?ap6 ?ap7 ?ap8 ?ap9 ?ap10 ?ap11 ?ap12 ?ap13 ?ap14; (case aho => k_is); (case ahst => exact rfl); (case aF => exact fr_names lF' (by kst_all)); (case aN => exact kst_newsOf lN' (by kst_allIn)); (case aXB => exact XB); (case aTB => exact TB); (case aB => assumption); (case aX => assumption); (case aT => assumption); (case aD => assumption); (case aK => exact kTn); (case ahk => exact hk); (case ahd => first | walk_at "Om" | omega); (case ahu => first | walk_at "Om" | omega); (case ahi => exact hi); (case ahb3 => exact hb3); (case ahb => exact hb); (case ah2 => exact h2); (case ah8 => exact h8); (case agx => exact gx); (case ahx => first | walk_at "Om" | omega); (case ahp => first | walk_at "Om" | omega); (case ahxp => first | walk_at "Om" | omega); (case ad1 => assumption); (case ap0 => kn_triples); (case ap1 => (intro _ _; kn_among)); (case ap2 => (intro _ _; kn_among)); (case ap3 => (intro _ _; kn_among)); (case ap4 => (intro _ _; kn_among)); (case ap5 => (intro _ _; kn_among)); (case ap6 => l_ints); (case ap7 => assumption); (case ap8 => assumption); (case ap9 => assumption); (case ap10 => assumption); (case ap11 => first | walk_at "Om" | omega); (case ap12 => first | walk_at "Om" | omega); (case ap13 => first | walk_at "Om" | omega); (case ap14 => first | walk_at "Om" | omega)))
  k_with "BodyEnd" => (k_dflt (first
  | ((refine Mine.end_new (by k_asm) (by k_asm) (by k_mem) (by kst_allIn) (by k_all) ?_); (refine Mine.outI ?_))
  | ((refine Mine.end_val (by k_asm) (by k_asm) (by kst_allIn) ?_))))
  k_with "callWith ref" => ((k_here; k_dflt (refine' callWith_K ?k1 ?k2 ?_; (case k1 => k_asm); (case k2 => k_is); k_whole)))
  k_with "subscriptTail Name Slice ref ref" => (((with_reducible show wpAny _ _ (subscriptTail _ (PySem.Expr.Slice _ _ none _) (Value.ref _) (Value.ref _)) _ _ _); k_dflt (refine' kmk_slice_ints ?sF ?sN ?sl ?sp ?sq ?si ?sm ?sc ?_ ?ss ?st ?sz; (case sF => k_asm); (case sN => k_asm); (case sl => kmk_list); (case sp => kmk_part); (case sq => kmk_part); (case si => l_ints); (case sm => first | (with_reducible exact kmk_all (by assumption)) | (with_reducible exact kmk_upto (by assumption) (by first | assumption | walk_at "Om" | omega))); (case sc => exact rfl); (case ss => with_unfolding_all rfl); (case st => kmk_pure); (case sz => exact kmk_sz (by assumption) (by rw [sizeLine_eq]; omega)); intro D9 ws9 h9 F9 N9 l9 I9 C9 L9; (try k_lt l9); (try k_sweep))))
  k_with "BodyEndU" => (first
  | ((refine Mine.end_newU (by k_asm) (by k_asm) (by k_mem) (by k_mem) (by kst_allIn) (And.intro (by k_ne) (Mine.ne_allOf (by (simp only [Mine.AllNe, and_true]; (repeat' (refine And.intro ?_ ?_)) <;> first | assumption | k_ne)))) ?_))
  | ((refine Mine.end_valU (by k_asm) (by k_asm) (by k_mem) (by kst_allIn) ?_)))
  k_with "eval Call" => ((with_reducible show wpAny _ _ (eval (PySem.Expr.Call (PySem.Expr.Name _ _) (PySem.Expr.Name _ _ :: _) [] _) _) _ _ _); k_dflt (first | (refine' Mine.call_names ?zF ?zX ?zT ?ze ?zk ?za ?zz ?zx ?zd ?zh ?zp ?_; (case zx => exact rfl); (case zz => exact rfl); (case zF => k_asm); (case zX => k_asm); (case zT => k_asm); (case ze => k_is); (case zk => k_is); (case za => walk_at "EvAll"); (case zd => decide); (case zh => exact rfl); (case zp => exact rfl)) | (refine' Mine.call_namesB ?zF ?zX ?zT ?ze ?zv ?zn ?za ?zz ?zx ?zd ?zh ?zp ?_; (case zx => exact rfl); (case zz => exact rfl); (case zF => k_asm); (case zX => k_asm); (case zT => k_asm); (case ze => k_is); (case zv => boot_by_name); (case zn => decide); (case za => walk_at "EvAll"); (case zd => decide); (case zh => exact rfl); (case zp => exact rfl))))
  k_with "storeName" => (dsimp only; walk_at "storeName")
  k_with "execs cons" => (k_fold; walk_at "execs cons")
  k_with "eval Call" => (k_fold; walk_at "eval Call")
  k_with "isTrue Compare" => (k_fold; walk_at "isTrue Compare")
  k_with "eval Compare" => (k_fold; walk_at "eval Compare")
  k_with "eval BinOp" => (k_fold; walk_at "eval BinOp")
  k_with "eval Subscript" => (k_fold; walk_at "eval Subscript")
  first | (refine (id (α := let ze9 := _; let zg9 := _; let zd9 := _; let zo9 := _; wpAny _ _ (execs _ ze9) _ _ (Shared.mk _ zg9 zd9 _ zo9)) ?_); intro ze9 zg9 zd9 zo9) | skip
  k_steps


set_option maxRecDepth 100000 in
set_option maxHeartbeats 8000000 in
theorem nothing1_c {w : World} {p : Program} {loose : List Str} {mean : ExcName → Option Value} {mg mb : Str → Option Value} {dp un : Nat} {gd : Option (List Code)} {cn : Str} {cs : Scope} {a : Addr} {ccd : Value} {cl : List (Str × Addr)} {A₀ : Around} {base h₀ : Heap} {L : Addr} {m : Str → Option Value} {news : List (Addr × Obj)} {s : Shared} {Q E : Value → Shared → Prop}
    (B : Below A₀ base [] h₀) (F : Fr h₀ L s.heap m) (X : (Mine.hd.heap_39 w.params).In h₀) (N : News h₀ L s.heap news) (T : Top p loose mean mg mb h₀) (hk : cs.kind = .function) (hd : dp + 20 < recursionLimit) (hu : un + 400 < cLine) (XB : (Mine.hd.heap_39 w.params).In base) (TB : Top p loose mean mg mb base)
    {x : Addr} {c : Nat} {vs : List Value} {xs : List Int} {k : Int} {tw : Tok} {gl : Obj → List (Addr × Obj)} (U : UpdF 282 (tabObj #[]) news gl) (hxp : @Ne Nat x 282) (hi : IntsAre vs xs) (hb3 : 3 ≤ xs.length) (hb : xs.length ≤ 9) (h2 : 2 ≤ k) (h8 : k ≤ 8) (gx : ∀ z ∈ xs, 0 ≤ z) (hE : (xs.getD (Int.toNat 0) 0).fmod 2 = 1) (hm : (x, listOf vs.toArray c) ∈ news)
    (ret : ∀ ps h' tk', Fr h₀ L h' m → News h₀ L h' (gl (tabObj ps)) → Q (.bool true) { s with heap := h', toks := tk' }) :
    wpAny (model PySem.Challenge.rw_pq0542_01.row.prog w) (ktrTop dp un gd cn cs L a ccd cl []) (call (.ref 287) [Value.ref x, Value.int k tw]) Q E s := by
  k_with_none
  k_with "Om" => (first | walk_at "MineRoom" | exact Int.natCast_nonneg _ | exact Mine.i_up (by with_reducible assumption) rfl | exact Mine.i_dn (by with_reducible assumption) rfl | exact Mine.i_lt (by with_reducible assumption) rfl | exact Mine.i_gt (by with_reducible assumption) rfl | exact Mine.n_up (by with_reducible assumption) rfl | exact Mine.n_eq (by with_reducible assumption) rfl | exact Mine.n_ge (by with_reducible assumption) rfl | exact Mine.sub0n)
  k_with "EvAll" => (first | exact Mine.EvAll.nil | exact Mine.evs_L (by k_asm) (by exact rfl) rfl rfl (by decide) (by walk_at "EvAll") | exact Mine.evs_C (by k_asm) (by exact rfl) (by k_mem) (by assumption) rfl rfl (by decide) (by walk_at "EvAll"))
  k_with "MineLt" => (first | ((repeat (first | exact Nat.lt_succ_self _ | refine Nat.lt_succ_of_lt ?_)); done) | ((repeat (refine Nat.lt_succ_of_lt ?_)); with_reducible assumption))
  k_with "MineLt2" => (refine Nat.lt_trans ?_ (by with_reducible assumption); walk_at "MineLt")
  k_with "MineRoom" => (k_whole; first | exact Mine.room1 (by with_reducible assumption) rfl | exact Mine.room2 (by with_reducible assumption) rfl | exact Mine.room3 (by with_reducible assumption) rfl | exact Mine.room4 (by with_reducible assumption) rfl | exact Mine.room5 (by with_reducible assumption) rfl | exact Mine.room0 (by with_reducible assumption))
  w_top off
  revert X; k_fill; intro X
  k_dflt (refine' call_uG2 [(x, listOf vs.toArray c)] OutG ?k1 ?k2 ?k3 ?k4 ?k5 ?kU ?ks ?kA ?kF ?kK ?k6 ?k7 ?k8 ?k9 ?kB ?kD ?kR (ps := [(Str.ofString "some", Value.ref x)]) ?kP ?_ ?c2 ?c3 ?c4; (case kA => exact rfl); (case kF => exact rfl); (case kK => assumption); (case k1 => exact B); (case k2 => k_asm); (case k3 => exact X); (case k4 => k_asm); (case k5 => exact T); (case kU => assumption); (case k6 => k_is); (case k7 => k_is); (case k8 => (show dp < recursionLimit; first | walk_at "MineRoom" | omega)); (case k9 => exact BindsTo.of_eq rfl); (case kB => exact rfl); (case kD => decide +kernel); (case kP => (intro L9; kst_all)); (case c2 => exact rfl); (case c3 => exact rfl); (case c4 => exact rfl))
  case ks => exact List.forall_mem_cons.mpr ⟨hm, List.forall_mem_nil _⟩
  case kR =>
    rintro v ob' h' tk' F' N' ⟨⟨ps, rfl⟩, rfl⟩
    exact ret ps h' tk' F' N'
  clear B F X N T ret U
  clear hm
  intro g' L' h' tk' cells' u F' N' Y' B' X' T' D' l1
  (try dsimp only [kstB] at F')
  (try k_lt l1)
  obtain ⟨oc1, oc2, oc3, oc4, oc5, hE', ce1, ce2, ce3, ce4, ce5⟩ := PyProof.Rows.kc_five Y'; subst hE'; have dW : oc5.data = .cell (some (.int k tw)) := (by with_unfolding_all exact ce5); have dP : oc4.data = .cell none := (by with_unfolding_all exact ce4); have dR : oc3.data = .cell none := (by with_unfolding_all exact ce3); have dS : oc2.data = .cell none := (by with_unfolding_all exact ce2); have dV : oc1.data = .cell none := (by with_unfolding_all exact ce1)
  (try simp only [List.cons_append, List.nil_append] at N')
  try dsimp only
  try k_fold
  have kMark := kstMark
  have kTn : KtsTurn ([envX cn cs L a ccd cl].filterMap (·.frame)) g' g' := KtsTurn.refl
  k_with "call ref" => ((with_reducible show wpAny _ _ (call (Value.ref 193) _) _ _ _); k_dflt (refine' Mine.rbits0_c ?uB ?uF ?uX ?uN ?uT ?uk ?ud ?uu ?p0 ?p1 ?_; (case uB => k_asm); (case uF => k_asm); (case uX => k_asm); (case uN => k_asm); (case uT => k_asm); (case uk => exact rfl); (case ud => ((try dsimp only [ktrTop, Around.deeper, callerA]); first | walk_at "MineRoom" | omega | decide | ((try simp only [Around.deeper_units, Around.in1_units, Around.mark_units, depth_under_make, depth_under_kw, depth_in1, depth_deeper, depth_mark, depth_caller]); (try dsimp only [ktrTop, Around.deeper, callerA]); first | walk_at "MineRoom" | omega | decide))); (case uu => ((try dsimp only [ktrTop, Around.deeper, callerA]); first | walk_at "MineRoom" | omega | decide | ((try simp only [Around.deeper_units, Around.in1_units, Around.mark_units, depth_under_make, depth_under_kw, depth_in1, depth_deeper, depth_mark, depth_caller]); (try dsimp only [ktrTop, Around.deeper, callerA]); first | walk_at "MineRoom" | omega | decide))); (case p0 => first | assumption | walk_at "Om" | omega); (case p1 => first | assumption | walk_at "Om" | omega); intro r9 us9 c9 h9 tk9 F9 N9 ne9 I9; (replace ne9 := Mine.allNe_of ne9; (try simp only [Mine.AllNe, and_true] at ne9); (repeat (have hn9 := ne9.1; replace ne9 := ne9.2))); have e9 := IntsAre.nil_inv I9; subst e9; (try k_sweep); (try dsimp only); (try k_fold)))
  k_with "call ref" => ((with_reducible show wpAny _ _ (call (Value.ref 207) _) _ _ _); k_dflt (refine' Mine.sbelow1_c ?uB ?uF ?uX ?uN ?uT ?uk ?ud ?uu ?p0 ?p1 ?_; (case uB => k_asm); (case uF => k_asm); (case uX => k_asm); (case uN => k_asm); (case uT => k_asm); (case uk => exact rfl); (case ud => ((try dsimp only [ktrTop, Around.deeper, callerA]); first | walk_at "MineRoom" | omega | decide | ((try simp only [Around.deeper_units, Around.in1_units, Around.mark_units, depth_under_make, depth_under_kw, depth_in1, depth_deeper, depth_mark, depth_caller]); (try dsimp only [ktrTop, Around.deeper, callerA]); first | walk_at "MineRoom" | omega | decide))); (case uu => ((try dsimp only [ktrTop, Around.deeper, callerA]); first | walk_at "MineRoom" | omega | decide | ((try simp only [Around.deeper_units, Around.in1_units, Around.mark_units, depth_under_make, depth_under_kw, depth_in1, depth_deeper, depth_mark, depth_caller]); (try dsimp only [ktrTop, Around.deeper, callerA]); first | walk_at "MineRoom" | omega | decide))); (case p0 => first | assumption | walk_at "Om" | omega); (case p1 => first | assumption | walk_at "Om" | omega); intro t9 h9 tk9 F9 N9; (try k_sweep); (try dsimp only); (try k_fold)))
  k_with "evalPart none" => rw [hE]
  k_with "execs cons" => ((with_reducible show wpAny _ _ (execs (PySem.Stmt.If (PySem.Expr.BoolOp _ (PySem.Expr.Compare (PySem.Expr.Attribute _ _ _) _ _ _ :: _) _) _ _ _ :: _) _) _ _ _); (rename Fr _ _ _ _ => lF'); (rename News _ _ _ _ => lN'); k_dflt (refine' ntail2 ?aho ?ahst ?aXB ?aTB ?aB ?aX ?aT ?aD ?aK ?ahk ?ahd ?ahu ?aF ?aN ?ahi ?ahb3 ?ahb ?ah2 ?ah8 ?agx ?ahx ?ahp ?ahxp ?ad1 ?ap0 ?ap1 ?ap2 ?ap3 ?ap4 ?ap5 ?ap6 ?ap7 ?ap8 ?ap9 ?ap10 ?ap11 ?ap12 ?ap13 ?ap14; (case aho => k_is); (case ahst => exact rfl); (case aF => exact fr_names lF' (by kst_all)); (case aN => exact kst_newsOf lN' (by kst_allIn)); (case aXB => exact XB); (case aTB => exact TB); (case aB => assumption); (case aX => assumption); (case aT => assumption); (case aD => assumption); (case aK => exact kTn); (case ahk => exact hk); (case ahd => first | walk_at "Om" | omega); (case ahu => first | walk_at "Om" | omega); (case ahi => exact hi); (case ahb3 => exact hb3); (case ahb => exact hb); (case ah2 => exact h2); (case ah8 => exact h8); (case agx => exact gx); (case ahx => first | walk_at "Om" | omega); (case ahp => first | walk_at "Om" | omega); (case ahxp => first | walk_at "Om" | omega); (case ad1 => assumption); (case ap0 => kn_triples); (case ap1 => (intro _ _; kn_among)); (case ap2 => (intro _ _; kn_among)); (case ap3 => (intro _ _; kn_among)); (case ap4 => (intro _ _; kn_among)); (case ap5 => (intro _ _; kn_among)); (case ap6 => l_ints); (case ap7 => assumption); (case ap8 => assumption); (case ap9 => assumption); (case ap10 => assumption); (case ap11 => first | walk_at "Om" | omega); (case ap12 => first | walk_at "Om" | omega); (case ap13 => first | walk_at "Om" | omega); (case ap14 => first | walk_at "Om" | omega)))
  k_with "BodyEnd" => (k_dflt (first
  | ((refine Mine.end_new (by k_asm) (by k_asm) (by k_mem) (by kst_allIn) (by k_all) ?_); (refine Mine.outI ?_))
  | ((refine Mine.end_val (by k_asm) (by k_asm) (by kst_allIn) ?_))))
  k_with "callWith ref" => ((k_here; k_dflt (refine' callWith_K ?k1 ?k2 ?_; (case k1 => k_asm); (case k2 => k_is); k_whole)))
  k_with "subscriptTail Name Slice ref ref" => (((with_reducible show wpAny _ _ (subscriptTail _ (PySem.Expr.Slice _ _ none _) (Value.ref _) (Value.ref _)) _ _ _); k_dflt (refine' kmk_slice_ints ?sF ?sN ?sl ?sp ?sq ?si ?sm ?sc ?_ ?ss ?st ?sz; (case sF => k_asm); (case sN => k_asm); (case sl => kmk_list); (case sp => kmk_part); (case sq => kmk_part); (case si => l_ints); (case sm => first | (with_reducible exact kmk_all (by assumption)) | (with_reducible exact kmk_upto (by assumption) (by first | assumption | walk_at "Om" | omega))); (case sc => exact rfl); (case ss => with_unfolding_all rfl); (case st => kmk_pure); (case sz => exact kmk_sz (by assumption) (by rw [sizeLine_eq]; omega)); intro D9 ws9 h9 F9 N9 l9 I9 C9 L9; (try k_lt l9); (try k_sweep))))
  k_with "BodyEndU" => (first
  | ((refine Mine.end_newU (by k_asm) (by k_asm) (by k_mem) (by k_mem) (by kst_allIn) (And.intro (by k_ne) (Mine.ne_allOf (by (simp only [Mine.AllNe, and_true]; (repeat' (refine And.intro ?_ ?_)) <;> first | assumption | k_ne)))) ?_))
  | ((refine Mine.end_valU (by k_asm) (by k_asm) (by k_mem) (by kst_allIn) ?_)))
  k_with "eval Call" => ((with_reducible show wpAny _ _ (eval (PySem.Expr.Call (PySem.Expr.Name _ _) (PySem.Expr.Name _ _ :: _) [] _) _) _ _ _); k_dflt (first | (refine' Mine.call_names ?zF ?zX ?zT ?ze ?zk ?za ?zz ?zx ?zd ?zh ?zp ?_; (case zx => exact rfl); (case zz => exact rfl); (case zF => k_asm); (case zX => k_asm); (case zT => k_asm); (case ze => k_is); (case zk => k_is); (case za => walk_at "EvAll"); (case zd => decide); (case zh => exact rfl); (case zp => exact rfl)) | (refine' Mine.call_namesB ?zF ?zX ?zT ?ze ?zv ?zn ?za ?zz ?zx ?zd ?zh ?zp ?_; (case zx => exact rfl); (case zz => exact rfl); (case zF => k_asm); (case zX => k_asm); (case zT => k_asm); (case ze => k_is); (case zv => boot_by_name); (case zn => decide); (case za => walk_at "EvAll"); (case zd => decide); (case zh => exact rfl); (case zp => exact rfl))))
  k_with "storeName" => (dsimp only; walk_at "storeName")
  k_with "execs cons" => (k_fold; walk_at "execs cons")
  k_with "eval Call" => (k_fold; walk_at "eval Call")
  k_with "isTrue Compare" => (k_fold; walk_at "isTrue Compare")
  k_with "eval Compare" => (k_fold; walk_at "eval Compare")
  k_with "eval BinOp" => (k_fold; walk_at "eval BinOp")
  k_with "eval Subscript" => (k_fold; walk_at "eval Subscript")
  first | (refine (id (α := let ze9 := _; let zg9 := _; let zd9 := _; let zo9 := _; wpAny _ _ (execs _ ze9) _ _ (Shared.mk _ zg9 zd9 _ zo9)) ?_); intro ze9 zg9 zd9 zo9) | skip
  k_steps


/-- _law_nothing_right hands back True -/
theorem nothing_c {w : World} {p : Program} {loose : List Str} {mean : ExcName → Option Value} {mg mb : Str → Option Value} {dp un : Nat} {gd : Option (List Code)} {cn : Str} {cs : Scope} {a : Addr} {ccd : Value} {cl : List (Str × Addr)} {A₀ : Around} {base h₀ : Heap} {L : Addr} {m : Str → Option Value} {news : List (Addr × Obj)} {s : Shared} {Q E : Value → Shared → Prop}
    (B : Below A₀ base [] h₀) (F : Fr h₀ L s.heap m) (X : (Mine.hd.heap_39 w.params).In h₀) (N : News h₀ L s.heap news) (T : Top p loose mean mg mb h₀) (hk : cs.kind = .function) (hd : dp + 20 < recursionLimit) (hu : un + 400 < cLine) (XB : (Mine.hd.heap_39 w.params).In base) (TB : Top p loose mean mg mb base)
    {x : Addr} {c : Nat} {vs : List Value} {xs : List Int} {k : Int} {tw : Tok} {gl : Obj → List (Addr × Obj)} (U : UpdF 282 (tabObj #[]) news gl) (hxp : @Ne Nat x 282) (hi : IntsAre vs xs) (hb3 : 3 ≤ xs.length) (hb : xs.length ≤ 9) (h2 : 2 ≤ k) (h8 : k ≤ 8) (gx : ∀ z ∈ xs, 0 ≤ z) (hm : (x, listOf vs.toArray c) ∈ news)
    (ret : ∀ ps h' tk', Fr h₀ L h' m → News h₀ L h' (gl (tabObj ps)) → Q (.bool true) { s with heap := h', toks := tk' }) :
    wpAny (model PySem.Challenge.rw_pq0542_01.row.prog w) (ktrTop dp un gd cn cs L a ccd cl []) (call (.ref 287) [Value.ref x, Value.int k tw]) Q E s := by
  have h := @fmod_pos (xs.getD (Int.toNat 0) 0) 2 (by decide)
  have h9 : (xs.getD (Int.toNat 0) 0).fmod 2 = 0 ∨ (xs.getD (Int.toNat 0) 0).fmod 2 = 1 := by omega
  rcases h9 with h9 | h9
  · exact nothing0_c B F X N T hk hd hu XB TB U hxp hi hb3 hb h2 h8 gx h9 hm ret
  · exact nothing1_c B F X N T hk hd hu XB TB U hxp hi hb3 hb h2 h8 gx h9 hm ret
end Mine
end

section
open PySem PySem.W PySem.Spec PySem.Calls PyProof.Rows

namespace Mine
theorem law_ge (W : List Int) : ∀ z ∈ List.map (fun k' : Int => if k' < 0 then -k' else k') (List.take (Int.toNat 6) W) ++ [(W.length : Int) + 6, 1, 4], 0 ≤ z := by
  intro z hz
  rcases List.mem_append.mp hz with hz | hz
  · obtain ⟨y, _, rfl⟩ := List.mem_map.mp hz
    show 0 ≤ (if y < 0 then -y else y)
    split <;> omega
  · simp only [List.mem_cons, List.not_mem_nil, or_false] at hz
    omega
theorem law_k (z : Int) : 2 ≤ 2 + z.fmod 7 ∧ 2 + z.fmod 7 ≤ 8 := by
  have := @fmod_pos z 7 (by decide)
  omega
set_option maxRecDepth 100000 in
set_option maxHeartbeats 8000000 in
theorem the_law : PySem.Challenge.rw_pq0542_01.Holds := by
  k_with_none
  k_with "Om" => (first | walk_at "MineRoom" | exact Int.natCast_nonneg _ | exact Mine.i_up (by with_reducible assumption) rfl | exact Mine.i_dn (by with_reducible assumption) rfl | exact Mine.i_lt (by with_reducible assumption) rfl | exact Mine.i_gt (by with_reducible assumption) rfl | exact Mine.n_up (by with_reducible assumption) rfl | exact Mine.n_eq (by with_reducible assumption) rfl | exact Mine.n_ge (by with_reducible assumption) rfl | exact Mine.sub0n)
  k_with "EvAll" => (first | exact Mine.EvAll.nil | exact Mine.evs_L (by k_asm) (by exact rfl) rfl rfl (by decide) (by walk_at "EvAll") | exact Mine.evs_C (by k_asm) (by exact rfl) (by k_mem) (by assumption) rfl rfl (by decide) (by walk_at "EvAll"))
  k_with "MineLt" => (first | ((repeat (first | exact Nat.lt_succ_self _ | refine Nat.lt_succ_of_lt ?_)); done) | ((repeat (refine Nat.lt_succ_of_lt ?_)); with_reducible assumption))
  k_with "MineLt2" => (refine Nat.lt_trans ?_ (by with_reducible assumption); walk_at "MineLt")
  k_with "MineRoom" => (k_whole; first | exact Mine.room1 (by with_reducible assumption) rfl | exact Mine.room2 (by with_reducible assumption) rfl | exact Mine.room3 (by with_reducible assumption) rfl | exact Mine.room4 (by with_reducible assumption) rfl | exact Mine.room5 (by with_reducible assumption) rfl | exact Mine.room0 (by with_reducible assumption))
  refine Mine.hd ?_
  dsimp only [Mine.recAt]
  k_go0
  (all_goals try k_fold)
  k_with "call ref" => ((with_reducible show wpAny _ _ (call (Value.ref 280) _) _ _ _); k_dflt (refine' Mine.below_c ?uB ?uF ?uX ?uN ?uT ?uk ?ud ?uu ?p0 ?p1 ?p2 ?p3 ?p4 ?p5 ?p6 ?_; (case uB => k_asm); (case uF => k_asm); (case uX => k_asm); (case uN => k_asm); (case uT => k_asm); (case uk => exact rfl); (case ud => ((try dsimp only [ktrTop, Around.deeper, callerA]); first | walk_at "MineRoom" | omega | decide | ((try simp only [Around.deeper_units, Around.in1_units, Around.mark_units, depth_under_make, depth_under_kw, depth_in1, depth_deeper, depth_mark, depth_caller]); (try dsimp only [ktrTop, Around.deeper, callerA]); first | walk_at "MineRoom" | omega | decide))); (case uu => ((try dsimp only [ktrTop, Around.deeper, callerA]); first | walk_at "MineRoom" | omega | decide | ((try simp only [Around.deeper_units, Around.in1_units, Around.mark_units, depth_under_make, depth_under_kw, depth_in1, depth_deeper, depth_mark, depth_caller]); (try dsimp only [ktrTop, Around.deeper, callerA]); first | walk_at "MineRoom" | omega | decide))); (case p6 => k_mem); (case p0 => l_ints); (case p1 => ((try simp only [List.length_append, List.length_map, List.length_take, List.length_cons, List.length_nil]); omega)); (case p2 => ((try simp only [List.length_append, List.length_map, List.length_take, List.length_cons, List.length_nil]); omega)); (case p3 => exact (law_k _).1); (case p4 => exact (law_k _).2); (case p5 => exact law_ge _); intro h9 tk9 F9 N9; (try k_sweep); (try dsimp only); (try k_fold)))
  k_with "call ref" => ((with_reducible show wpAny _ _ (call (Value.ref 287) _) _ _ _); k_dflt (refine' Mine.nothing_c ?uB ?uF ?uX ?uN ?uT ?uk ?ud ?uu ?p0 ?p1 ?p2 ?p3 ?p4 ?p5 ?p6 ?p7 ?p8 ?p9 ?p10 ?_; (case uB => k_asm); (case uF => k_asm); (case uX => k_asm); (case uN => k_asm); (case uT => k_asm); (case uk => exact rfl); (case ud => ((try dsimp only [ktrTop, Around.deeper, callerA]); first | walk_at "MineRoom" | omega | decide | ((try simp only [Around.deeper_units, Around.in1_units, Around.mark_units, depth_under_make, depth_under_kw, depth_in1, depth_deeper, depth_mark, depth_caller]); (try dsimp only [ktrTop, Around.deeper, callerA]); first | walk_at "MineRoom" | omega | decide))); (case uu => ((try dsimp only [ktrTop, Around.deeper, callerA]); first | walk_at "MineRoom" | omega | decide | ((try simp only [Around.deeper_units, Around.in1_units, Around.mark_units, depth_under_make, depth_under_kw, depth_in1, depth_deeper, depth_mark, depth_caller]); (try dsimp only [ktrTop, Around.deeper, callerA]); first | walk_at "MineRoom" | omega | decide))); (case p10 => k_mem); (case p2 => k_updF); (case p4 => l_ints); (case p0 => assumption); (case p1 => assumption); (case p3 => k_ne); (case p5 => ((try simp only [List.length_append, List.length_map, List.length_take, List.length_cons, List.length_nil]); omega)); (case p6 => ((try simp only [List.length_append, List.length_map, List.length_take, List.length_cons, List.length_nil]); omega)); (case p7 => exact (law_k _).1); (case p8 => exact (law_k _).2); (case p9 => exact law_ge _); intro ps9 h9 tk9 F9 N9; (try dsimp only at N9); (try k_sweep); (try dsimp only); (try k_fold)))
  k_with "BodyEnd" => (k_dflt (first
  | ((refine Mine.end_new (by k_asm) (by k_asm) (by k_mem) (by kst_allIn) (by k_all) ?_); (refine Mine.outI ?_))
  | ((refine Mine.end_val (by k_asm) (by k_asm) (by kst_allIn) ?_))))
  k_with "subscriptTail Name Slice ref ref" => (((with_reducible show wpAny _ _ (subscriptTail _ (PySem.Expr.Slice _ _ none _) (Value.ref _) (Value.ref _)) _ _ _); k_dflt (refine' kmk_slice_ints ?sF ?sN ?sl ?sp ?sq ?si ?sm ?sc ?_ ?ss ?st ?sz; (case sF => k_asm); (case sN => k_asm); (case sl => kmk_list); (case sp => kmk_part); (case sq => kmk_part); (case si => l_ints); (case sm => first | (with_reducible exact kmk_all (by assumption)) | (with_reducible exact kmk_upto (by assumption) (by first | assumption | walk_at "Om" | omega))); (case sc => exact rfl); (case ss => with_unfolding_all rfl); (case st => kmk_pure); (case sz => exact kmk_sz (by assumption) (by rw [sizeLine_eq]; omega)); intro D9 ws9 h9 F9 N9 l9 I9 C9 L9; (try k_lt l9); (try k_sweep))))
  k_with "BodyEndU" => (first
  | ((refine Mine.end_newU (by k_asm) (by k_asm) (by k_mem) (by k_mem) (by kst_allIn) (And.intro (by k_ne) (Mine.ne_allOf (by (simp only [Mine.AllNe, and_true]; (repeat' (refine And.intro ?_ ?_)) <;> first | assumption | k_ne)))) ?_))
  | ((refine Mine.end_valU (by k_asm) (by k_asm) (by k_mem) (by kst_allIn) ?_)))
  k_with "eval Call" => ((with_reducible show wpAny _ _ (eval (PySem.Expr.Call (PySem.Expr.Name _ _) (PySem.Expr.Name _ _ :: _) [] _) _) _ _ _); k_dflt (first | (refine' Mine.call_names ?zF ?zX ?zT ?ze ?zk ?za ?zz ?zx ?zd ?zh ?zp ?_; (case zx => exact rfl); (case zz => exact rfl); (case zF => k_asm); (case zX => k_asm); (case zT => k_asm); (case ze => k_is); (case zk => k_is); (case za => walk_at "EvAll"); (case zd => decide); (case zh => exact rfl); (case zp => exact rfl)) | (refine' Mine.call_namesB ?zF ?zX ?zT ?ze ?zv ?zn ?za ?zz ?zx ?zd ?zh ?zp ?_; (case zx => exact rfl); (case zz => exact rfl); (case zF => k_asm); (case zX => k_asm); (case zT => k_asm); (case ze => k_is); (case zv => boot_by_name); (case zn => decide); (case za => walk_at "EvAll"); (case zd => decide); (case zh => exact rfl); (case zp => exact rfl))))
  k_with "storeName" => (dsimp only; walk_at "storeName")
  k_with "execs cons" => (k_fold; walk_at "execs cons")
  k_with "eval Call" => (k_fold; walk_at "eval Call")
  k_with "isTrue Compare" => (k_fold; walk_at "isTrue Compare")
  k_with "eval Compare" => (k_fold; walk_at "eval Compare")
  k_with "eval BinOp" => (k_fold; walk_at "eval BinOp")
  k_with "eval Subscript" => (k_fold; walk_at "eval Subscript")
  first | (refine (id (α := let zA9 := _; let ze9 := _; let zg9 := _; let zd9 := _; let zo9 := _; wpAny _ zA9 (execs _ ze9) _ _ (Shared.mk _ zg9 zd9 _ zo9)) ?_); intro zA9 ze9 zg9 zd9 zo9) | skip
  k_steps
end Mine
end

theorem PySem.Challenge.cw_pq0542_01_holds : PySem.Challenge.rw_pq0542_01.Holds := by
  exact Mine.the_law
